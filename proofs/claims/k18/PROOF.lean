import PyProof.Rows.All
import Wide.All
import OpenK.AllK
import Wide.FinOn
import HandS.ForMost
import HandS.ForExc
import HandS.Wide
import HandS.Style
import HandS.Flow
import HandS.IsInst
import HandS.OwnEq
import PyProof.Rows.SetFrom
import PyProof.StrWalks
import PyProof.InstNe
import HandS.Exc
import HandS.Defaults
import HandS.Walk
import PyProof.Rows.StrRev
import HandS.Steps
import KE.GoesMore
import HandS.TupLe
import HandS.ExcOwn
import HandS.ExcIs
import PyProof.ExcBaseAll.ValueError
import HandS.ExcInit
import HandS.Nested
import KE.KExcSuper
import HandS.ExcField
import HandS.Iter
import HandS.Conv
import HandS.More
import HandS.WordsExc
import KE.KExcIs
import HandS.Comp
import HandS.HotCalls
import PySem.Challenge.RW_crosswalls_k18_common_and_beyond_both
import HandS.MakeKw
import HandS.MakeKwOnly
import HandS.Codes
import PyProof.FString5
import PyProof.JoinWalk
import PyProof.CollectIter
import PyProof.DictWalks
import PyProof.FactsAll.dict_keyiterator_1
import PyProof.Rows.StrJoin2
import KE.KDictList
import HandS.TryOnly
import HandS.Deep
import HandS.SortInts
import HandS.SortKw
import HandS.RaiseMore
import HandS.Replace
import HandS.Ends
import KE.KStateDown
import HandS.Head0
import HandS.Head1
import HandS.Head2
set_option Elab.async false
set_option maxRecDepth 100000
set_option maxHeartbeats 4000000
/-! Own words over the hand layer: defs by name, texts as lists of codes. -/
namespace Cw
open PySem PySem.Spec PyProof.Rows L2

/-! ### defs by their module name -/
/-- a def of the module stands as the text has it -/
structure FnAt (K : PySem.W.Frag) (mg : Str → Option Value) (x : Str) (st : Stmt) : Prop where
  ex : ∃ f fd, mg x = some (.ref f) ∧ Fun K x x st f fd
/-- how a def's arguments bind where all are given, and where it stands -/
structure Bd (K : PySem.W.Frag) (f : Addr) (fd : FuncData) (ps : List Str) : Prop where
  b : Binds K fd ps []
  lk : ∃ oc od osl, K.lookup f = some ⟨oc, od, .func fd, osl⟩
theorem funLk {K : PySem.W.Frag} {x qual : Str} {st : Stmt} {f : Addr} {fd : FuncData} (F : Fun K x qual st f fd) : ∃ oc od osl, K.lookup f = some ⟨oc, od, .func fd, osl⟩ := by
  obtain ⟨oc, od, kV, doc, pm, an, cdv, ct, osl, rfl, lk, _⟩ := F.ex
  exact ⟨oc, od, osl, lk⟩
/-- a def of the module keeps a promise -/
structure Def (P : Program) (w : World) (K : PySem.W.Frag) (mg : Str → Option Value) (base : Heap) (CX : CXT) (k : Nat) (x : Str) (ps : List Str) (sp : Sp) : Prop where
  ex : ∃ f fd, mg x = some (.ref f) ∧ PySem.W.keepIn K (.ref f) = true ∧ Bd K f fd ps ∧ FnOk P w K mg base CX k f fd ps sp
section
variable {P : Program} {w : World} {K : PySem.W.Frag} {mg : Str → Option Value} {base : Heap} {CX : CXT} {k : Nat} {x : Str} {ps N : List Str} {sp : Sp} {st : Stmt}
theorem Def.mono {j : Nat} (D : Def P w K mg base CX j x ps sp) (h : j ≤ k) : Def P w K mg base CX k x ps sp := by
  obtain ⟨f, fd, a, b, c, d⟩ := D.ex
  exact ⟨f, fd, a, b, c, d.mono h⟩
theorem Def.imp {sp' : Sp} (D : Def P w K mg base CX k x ps sp) (h : ∀ vs H Q E, sp' vs H Q E → sp vs H Q E) : Def P w K mg base CX k x ps sp' := by
  obtain ⟨f, fd, a, b, c, d⟩ := D.ex
  exact ⟨f, fd, a, b, c, d.imp h⟩
/-- a def that lets no exception out -/
theorem FnAt.ok (F : FnAt K mg x st) (S : FnScope N ps (defScope st))
    (hb : ∀ (kV doc pm : Value) (an : Option Addr) (cdv ct : Value) (us : List Value), us.length = ps.length → bindArgs (PySem.W.fnOf x x (defArgs st) (defBody st) (defScope st) .none kV doc pm an cdv ct) ⟨us, []⟩ = pure (ps.zip us))
    (len : ∀ vs H Q E, sp vs H Q E → vs.length = ps.length)
    (hbody : ∀ (f : Addr) (cdv : Value) (A : Around) (outer : List Env) (s : Shared) (H : Hp) (vs : List V) (Q : VK) (E : XK), Room k (A.deeper (envOfC x (defScope st) s.heap.objs.size f cdv)) → sp vs H Q E →
      ∃ t, PSs (cxOf CX0 P w K mg base N x (defScope st) f cdv A outer s H E).nox (defBody st) t ∧ t { nx := fun _ H' => Q .non H', rt := Q } (start N vs) H) : Def P w K mg base CX0 (k + 1) x ps sp := by
  obtain ⟨f, fd, hm, F⟩ := F.ex
  exact ⟨f, fd, hm, F.kp, ⟨F.binds hb, funLk F⟩, F.ok S len fun cdv A outer s H vs Q E hr h => hbody f cdv A outer s H vs Q E hr h⟩
/-- a def that may raise -/
theorem FnAt.okX (F : FnAt K mg x st) (S : FnScope N ps (defScope st))
    (hb : ∀ (kV doc pm : Value) (an : Option Addr) (cdv ct : Value) (us : List Value), us.length = ps.length → bindArgs (PySem.W.fnOf x x (defArgs st) (defBody st) (defScope st) .none kV doc pm an cdv ct) ⟨us, []⟩ = pure (ps.zip us))
    (len : ∀ vs H Q E, sp vs H Q E → vs.length = ps.length)
    (hbody : ∀ (f : Addr) (cdv : Value) (A : Around) (outer : List Env) (s : Shared) (H : Hp) (vs : List V) (Q : VK) (E : XK), Room k (A.deeper (envOfC x (defScope st) s.heap.objs.size f cdv)) → sp vs H Q E →
      ∃ t, PSs (cxOf (L2.CX P w) P w K mg base N x (defScope st) f cdv A outer s H E) (defBody st) t ∧ t { nx := fun _ H' => Q .non H', rt := Q } (start N vs) H) : Def P w K mg base (L2.CX P w) (k + 1) x ps sp := by
  obtain ⟨f, fd, hm, F⟩ := F.ex
  exact ⟨f, fd, hm, F.kp, ⟨F.binds hb, funLk F⟩, F.okX S len fun cdv A outer s H vs Q E hr h => hbody f cdv A outer s H vs Q E hr h⟩
end
section
variable {X : Cx} {CX : CXT} {k : Nat} {ps : List Str} {sp : Sp} {E : XK} {x : Str} {p pos : PySem.Pos} {e : Expr} {es : List Expr} {t : TA}
/-- f(e, ..) of a def that is known by its name -/
theorem pe_cd (D : Def X.prog X.w X.K X.mg X.base CX k x ps sp) (hr : Room k X.A) (hx : Passes CX X E) (ha : PA X (e :: es) t) (hg : Gl X x := by rfl) (hdb : (x == ("__debug__" : Str)) = false := by decide)
    (he : starEach (e :: es) X.env = (false, eval e X.env) :: starEach es X.env := by rfl) (hpl : (backTo pos (starEach es X.env)).any (·.1) = false := by rfl) : PE X (.Call (.Name x p) (e :: es) [] pos) (tCall sp [] E t) := by
  obtain ⟨f, fd, a, b, c, d⟩ := D.ex
  exact pe_call d hr hg a b c.b .nil hx ha hdb he hpl
end
/-! ### heaps -/
/-- all but the object at p is kept -/
def Keep (p : Addr) (H H' : Hp) : Prop := ∀ b o, H b = some o → b ≠ p → H' b = some o
theorem Keep.refl (p : Addr) (H : Hp) : Keep p H H := fun _ _ h _ => h
theorem Keep.trans {p : Addr} {H H1 H2 : Hp} (a : Keep p H H1) (b : Keep p H1 H2) : Keep p H H2 := fun c o h n => b c o (a c o h n) n
theorem Keep.of {p : Addr} {H H' : Hp} (a : Same H H') : Keep p H H' := fun c o h _ => a c o h
theorem Same.at {H H' : Hp} {a : Addr} {o : HO} (S : Same H H') (h : H a = some o) : H' a = some o := S a o h
theorem Keep.at {p : Addr} {H H' : Hp} {a : Addr} {o : HO} (S : Keep p H H') (h : H a = some o) (n : a ≠ p) : H' a = some o := S a o h n
theorem Same.new {H : Hp} {p : Addr} {o : HO} (h : H p = none) : Same H (upd H p o) := fun a u e => by
  rw [upd_ne (ne_of_none e h)]
  exact e
theorem Keep.put {p : Addr} {H : Hp} {o : HO} : Keep p H (upd H p o) := fun a u e n => by
  rw [upd_ne n]
  exact e
end Cw
set_option Elab.async false
set_option linter.all false
set_option maxRecDepth 100000
set_option maxHeartbeats 4000000
namespace Cw
open PySem PySem.Spec L2
/-! ### texts as lists of codes -/
abbrev tx (l : List Nat) : Str := ⟨l.toArray⟩
theorem tx_len (l : List Nat) : (tx l).length = l.length := by
  show (l.toArray).size = l.length
  simp
theorem tx_app (a b : List Nat) : tx a ++ tx b = tx (a ++ b) := by
  show (⟨a.toArray ++ b.toArray⟩ : Str) = ⟨(a ++ b).toArray⟩
  simp
theorem tx_eq {z : Str} : z = tx z.cps.toList := by
  cases z
  simp [tx]
theorem tx_inj {a b : List Nat} : tx a = tx b ↔ a = b := by
  constructor
  · intro h
    have := congrArg (fun z : Str => z.cps.toList) h
    simpa using this
  · intro h
    rw [h]
theorem dec_tx {a b : List Nat} : decide (V.str (tx a) = V.str (tx b)) = decide (a = b) := by
  rw [Bool.eq_iff_iff, decide_eq_true_iff, decide_eq_true_iff]
  constructor
  · intro h
    injection h with h
    exact tx_inj.mp h
  · intro h
    rw [h]

/-! ### stepping: expressions -/
section
variable {σ : St} {H : Hp} {Q : VK} {i : Nat} {v x y : V} {ta tb te : TE} {r : R2} {D : Ends} {K : PySem.W.Frag}
theorem e_c (q : Q v H) : tC v σ H Q := q
theorem e_op (q : ta σ H fun x H1 => tb σ H1 fun y H2 => r x y H2 Q) : tOp r ta tb σ H Q := q
theorem e_un {r : V → Hp → VK → Prop} (q : ta σ H fun x H1 => r x H1 Q) : tUn r ta σ H Q := q
theorem v_I0 {g : Int → Int → V} {a b : Int} (q : Q (g a b) H) : rI0 g (.int a) (.int b) H Q := ⟨a, b, rfl, rfl, q⟩
theorem v_I {C : Int → Int → Prop} {g : Int → Int → V} {a b : Int} (c : C a b) (q : Q (g a b) H) : rI C g (.int a) (.int b) H Q := ⟨a, b, rfl, rfl, c, q⟩
theorem v_eq (c : scal x y = true) (q : Q (.bl (decide (x = y))) H) : rEq x y H Q := ⟨c, q⟩
theorem v_ne (c : scal x y = true) (q : Q (.bl (!decide (x = y))) H) : rNe x y H Q := ⟨c, q⟩
theorem v_bl {P : Bool → Prop} {b : Bool} (q : P b) : ∃ k, V.bl b = V.bl k ∧ P k := ⟨b, rfl, q⟩
theorem v_int {P : Int → Prop} {b : Int} (q : P b) : ∃ k, V.int b = V.int k ∧ P k := ⟨b, rfl, q⟩
theorem v_str {P : Str → Prop} {b : Str} (q : P b) : ∃ k, V.str b = V.str k ∧ P k := ⟨b, rfl, q⟩
theorem e_andV (q : ta σ H fun x H1 => ∃ c, x = .bl c ∧ if c = true then tb σ H1 Q else Q (.bl false) H1) : tAndV ta tb σ H Q := q
theorem e_orV (q : ta σ H fun x H1 => ∃ c, x = .bl c ∧ if c = true then Q (.bl true) H1 else tb σ H1 Q) : tOrV ta tb σ H Q := q
theorem e_notV (q : ta σ H fun x H1 => ∃ c, x = .bl c ∧ Q (.bl (!c)) H1) : tNotV ta σ H Q := q
theorem e_if {t : TT} (q : t σ H fun c H1 => if c = true then ta σ H1 Q else tb σ H1 Q) : tIf t ta tb σ H Q := q
theorem e_nil {Q : List V → Hp → Prop} (q : Q [] H) : tNil σ H Q := q
theorem e_cons {tr : TA} {Q : List V → Hp → Prop} (q : ta σ H fun x H1 => tr σ H1 fun xs H2 => Q (x :: xs) H2) : tCons ta tr σ H Q := q
theorem e_cb {r : List V → Hp → VK → Prop} {t : TA} (q : t σ H fun vs H1 => r vs H1 Q) : tCB r t σ H Q := q
theorem e_call {sp : Sp} {E : XK} {t : TA} (q : t σ H fun vs H1 => sp vs H1 Q E) : tCall sp [] E t σ H Q := by
  show t σ H fun vs H1 => sp (vs ++ []) H1 Q E
  simpa using q
theorem e_fld {f : Str} (q : ta σ H fun x H1 => ∃ a C dx fs v, x = .ref a ∧ H1 a = some (.ins C dx fs) ∧ Cls K C ∧ NoAttr K C f ∧ fs.lookup f = some v ∧ Q v H1) : tFld K ta f σ H Q := q
theorem e_dget (q : ta σ H fun x H1 => tb σ H1 fun y H2 => ∃ a v, x = .ref a ∧ DGet H2 a y (some v) ∧ Q v H2) : tDGet ta tb σ H Q := q
theorem v_dget {P : V → Prop} {a : Addr} (h : DGet H a y (some v)) (q : P v) : ∃ a' v, V.ref a = .ref a' ∧ DGet H a' y (some v) ∧ P v := ⟨a, v, rfl, h, q⟩
theorem e_lst {t : TA} (q : t σ H fun xs H1 => xs.length ≤ sizeLine ∧ ∀ p H2, H1 p = none → H2 = upd H1 p (.lst xs) → Q (.ref p) H2) : tLst t σ H Q := by
  have e : (fun (xs : List V) (H1 : Hp) => xs.length ≤ sizeLine ∧ ∀ p H2, H1 p = none → H2 = upd H1 p (.lst xs) → Q (.ref p) H2) = (fun xs H1 => xs.length ≤ sizeLine ∧ ∀ p, H1 p = none → Q (.ref p) (upd H1 p (.lst xs))) := by
    funext xs H1
    exact propext ⟨fun h => ⟨h.1, fun p hp => h.2 p _ hp rfl⟩, fun h => ⟨h.1, fun p H2 hp e => e ▸ h.2 p hp⟩⟩
  rw [e] at q
  exact q
theorem e_tup {t : TA} (q : t σ H fun xs H1 => xs.length ≤ sizeLine ∧ ∀ p H2, H1 p = none → H2 = upd H1 p (.tup xs) → Q (.ref p) H2) : tTup t σ H Q := by
  have e : (fun (xs : List V) (H1 : Hp) => xs.length ≤ sizeLine ∧ ∀ p H2, H1 p = none → H2 = upd H1 p (.tup xs) → Q (.ref p) H2) = (fun xs H1 => xs.length ≤ sizeLine ∧ ∀ p, H1 p = none → Q (.ref p) (upd H1 p (.tup xs))) := by
    funext xs H1
    exact propext ⟨fun h => ⟨h.1, fun p hp => h.2 p _ hp rfl⟩, fun h => ⟨h.1, fun p H2 hp e => e ▸ h.2 p hp⟩⟩
  rw [e] at q
  exact q
theorem e_dnew (q : ∀ p H', H p = none → Same H H' → H' p = some (.dK []) → Q (.ref p) H') : tDNewK σ H Q := fun p h => q p _ h (Same.new h) upd_same
theorem szl {n : Nat} (h : n ≤ 1000000) : n ≤ sizeLine := Nat.le_trans h (by decide)
theorem szlt {n : Nat} (h : n < 1000000) : n < sizeLine := Nat.lt_of_lt_of_le h (by decide)
theorem v_lst {xs : List V} {P : Addr → Hp → Prop} (h : xs.length ≤ 1000000) (q : ∀ p H', H p = none → Same H H' → H' p = some (.lst xs) → P p H') : xs.length ≤ sizeLine ∧ ∀ p H2, H p = none → H2 = upd H p (.lst xs) → P p H2 := ⟨szl h, fun p H2 hp e => q p H2 hp (e ▸ Same.new hp) (e ▸ upd_same)⟩
theorem v_tup {xs : List V} {P : Addr → Hp → Prop} (h : xs.length ≤ 1000000) (q : ∀ p H', H p = none → Same H H' → H' p = some (.tup xs) → P p H') : xs.length ≤ sizeLine ∧ ∀ p H2, H p = none → H2 = upd H p (.tup xs) → P p H2 := ⟨szl h, fun p H2 hp e => q p H2 hp (e ▸ Same.new hp) (e ▸ upd_same)⟩
theorem v_ixL {p : Addr} {xs : List V} {a : Int} (h : H p = some (.lst xs)) (c : atI xs a = some v) (q : Q v H) : rIxL K (.ref p) (.int a) H Q := ⟨p, xs, a, v, rfl, rfl, SqL.of h, c, q⟩
theorem v_ixS {l : List Nat} {a : Int} {c : Nat} (h : l.length ≤ 1000000) (e : atI l a = some c) (q : Q (.str (tx [c])) H) : rIxS (.str (tx l)) (.int a) H Q := ⟨tx l, a, c, rfl, rfl, by rw [tx_len]; exact szl h, by simpa using e, q⟩
end
/-! ### named relations of built-in calls -/
def rInt : List V → Hp → VK → Prop := fun xs H Q => (∃ i, xs = [.int i] ∧ Q (.int i) H) ∨ ∃ k, xs = [.bl k] ∧ Q (.int (if k then 1 else 0)) H
theorem c_int {X : Cx} : CallR X (.type "int") rInt := call_int1
def rLen (K : PySem.W.Frag) : List V → Hp → VK → Prop := fun xs H Q => ∃ p ys, xs = [.ref p] ∧ (SqL K H p ys ∨ SqT K H p ys) ∧ Q (.int ys.length) H
theorem c_len {X : Cx} : CallR X (.builtin "len") (rLen X.K) := call_len_seq
def rLenS : List V → Hp → VK → Prop := fun xs H Q => ∃ x, xs = [.str x] ∧ x.length ≤ sizeLine ∧ Q (.int x.length) H
theorem c_lenS {X : Cx} : CallR X (.builtin "len") rLenS := call_len_str
section
variable {σ : St} {H : Hp} {Q : VK} {i : Nat} {v x y : V} {K : PySem.W.Frag}
theorem v_inti {a : Int} (q : Q (.int a) H) : rInt [.int a] H Q := .inl ⟨a, rfl, q⟩
theorem v_intb {k : Bool} (q : Q (.int (if k then 1 else 0)) H) : rInt [.bl k] H Q := .inr ⟨k, rfl, q⟩
theorem v_len {p : Addr} {ys : List V} (h : H p = some (.lst ys)) (q : Q (.int ys.length) H) : rLen K [.ref p] H Q := ⟨p, ys, rfl, .inl (SqL.of h), q⟩
theorem v_lenS {l : List Nat} (h : l.length ≤ 1000000) (q : Q (.int l.length) H) : rLenS [.str (tx l)] H Q := ⟨tx l, rfl, by rw [tx_len]; exact szl h, by rw [tx_len]; exact q⟩
end
/-! ### stepping: statements -/
section
variable {σ : St} {H : Hp} {i : Nat} {v : V} {te : TE} {tt u : TT} {t1 t2 : TS} {D : Ends}
theorem s_start {N : List Str} {vs : List V} {t : TS} (s0 : St) (h : start N vs = s0) (q : t D s0 H) : t D (start N vs) H := by rw [h]; exact q
theorem s_seq (q : t1 { D with nx := t2 D } σ H) : tSeq t1 t2 D σ H := q
theorem s_next (q : D.nx σ H) : tNext D σ H := q
theorem s_brk (q : D.bk σ H) : tBreak D σ H := q
theorem s_cont (q : D.ct σ H) : tCont D σ H := q
theorem s_set (q : te σ H fun v H1 => D.nx (σ.set i (some v)) H1) : tAsg te (gName i) D σ H := q
theorem s_drop (q : te σ H fun _ H1 => D.nx σ H1) : tDrop te D σ H := q
theorem s_ret (q : te σ H D.rt) : tRet te D σ H := q
theorem s_if (q : tt σ H fun b H1 => if b = true then t1 D σ H1 else t2 D σ H1) : tIfS tt t1 t2 D σ H := q
theorem t_test {Q : Bool → Hp → Prop} (q : te σ H fun x H' => ∃ k, x = .bl k ∧ Q k H') : tTest te σ H Q := q
theorem t_B {Q : Bool → Hp → Prop} (q : te σ H fun x H' => ∃ k, x = .bl k ∧ Q k H') : tB te σ H Q := q
theorem t_and {Q : Bool → Hp → Prop} (q : tt σ H fun c H1 => if c = true then u σ H1 Q else Q false H1) : tAnd tt u σ H Q := q
theorem t_or {Q : Bool → Hp → Prop} (q : tt σ H fun c H1 => if c = true then Q true H1 else u σ H1 Q) : tOr tt u σ H Q := q
theorem t_not {Q : Bool → Hp → Prop} (q : tt σ H fun c H1 => Q (!c) H1) : tNot tt σ H Q := q
theorem s_dput {td ty tv : TE} (q : tv σ H fun v H1 => td σ H1 fun x H2 => ty σ H2 fun y H3 => ∃ a H4, x = .ref a ∧ DPut H3 a y v H4 ∧ D.nx σ H4) : sDPut td ty tv D σ H := q
theorem if_dec {c A B : Prop} [Decidable c] (h1 : c → A) (h2 : ¬ c → B) : if decide c = true then A else B := by
  by_cases h : c
  · rw [decide_eq_true h, if_pos rfl]; exact h1 h
  · rw [decide_eq_false h, if_neg Bool.false_ne_true]; exact h2 h
theorem if_ndec {c A B : Prop} [Decidable c] (h1 : ¬ c → A) (h2 : c → B) : if (!decide c) = true then A else B := by
  by_cases h : c
  · rw [decide_eq_true h]; exact iteF (h2 h)
  · rw [decide_eq_false h]; exact iteT (h1 h)
theorem if_bool {b : Bool} {A B : Prop} (h1 : b = true → A) (h2 : b = false → B) : if b = true then A else B := by
  cases b with
  | true => exact iteT (h1 rfl)
  | false => exact iteF (h2 rfl)
end

/-! ### cuts: what follows is shown once -/
section
variable {X : Cx} {σ : St} {H : Hp} {D : Ends} {t u : TS}
def tCutE (te : TE) : TE := fun σ H Q => ∃ Mid : V → Hp → Prop, te σ H Mid ∧ ∀ v H', Mid v H' → Q v H'
theorem pe_cut {e : Expr} {te : TE} (h : PE X e te) : PE X e (tCutE te) := by
  refine ⟨fun pins s σ H Q I q => ?_⟩
  obtain ⟨Mid, hm, hu⟩ := q
  exact thn (h.run pins s σ H Mid I hm) fun u s1 ⟨x, H1, I1, r1, q1⟩ => ⟨x, H1, I1, r1, hu x H1 q1⟩
theorem e_cut {te : TE} {Q : VK} (Mid : V → Hp → Prop) (h : te σ H Mid) (q : ∀ v H', Mid v H' → Q v H') : tCutE te σ H Q := ⟨Mid, h, q⟩
def tCutS (t u : TS) : TS := fun D σ H => ∃ Mid : St → Hp → Prop, t { D with nx := Mid } σ H ∧ ∀ σ' H', Mid σ' H' → u D σ' H'
theorem pss_cutS {st : Stmt} {rest : List Stmt} (h1 : PS X st t) (h2 : PSs X rest u) : PSs X (st :: rest) (tCutS t u) := by
  refine ⟨fun pins s σ H D I h => ?_⟩
  obtain ⟨Mid, hm, hu⟩ := h
  refine wpAny_execs_cons (thn (h1.run pins s σ H { D with nx := Mid } I hm) fun f s1 q => ?_)
  cases f with
  | next =>
    obtain ⟨σ', H', I', q⟩ := q
    exact h2.run pins s1 σ' H' D I' (hu σ' H' q)
  | ret v => exact q
  | brk => exact q
  | cont => exact q
theorem s_cut (Mid : St → Hp → Prop) (h : t { D with nx := Mid } σ H) (q : ∀ σ' H', Mid σ' H' → u D σ' H') : tCutS t u D σ H := ⟨Mid, h, q⟩
end
section
variable {σ : St} {H : Hp} {v y : V}
theorem v_put {P : Hp → Prop} {a : Addr} {o : HO} (h : DPut H a y v (upd H a o)) (q : ∀ H', Keep a H H' → H' a = some o → P H') : ∃ a' H4, V.ref a = .ref a' ∧ DPut H a' y v H4 ∧ P H4 := ⟨a, _, rfl, h, q _ Keep.put upd_same⟩
end
/-! ### data -/
theorem dp_ints {K : PySem.W.Frag} {H : Hp} : ∀ ns : List Int, DpAll K H (ns.map V.int) (ns.map PyData.int)
  | [] => .nil
  | n :: r => .cons (.int n) (dp_ints r)
theorem dp_strs {K : PySem.W.Frag} {H : Hp} : ∀ ns : List Str, DpAll K H (ns.map V.str) (ns.map PyData.str)
  | [] => .nil
  | n :: r => .cons (.str n) (dp_strs r)
theorem lay_ints : ∀ ns : List Int, PyData.canLayAll0 (ns.map PyData.int) = true
  | [] => rfl
  | n :: r => lay_ints r
theorem lay_strs : ∀ ns : List Str, (∀ x ∈ ns, PyData.strOk x = true) → PyData.canLayAll0 (ns.map PyData.str) = true
  | [], _ => rfl
  | n :: r, h => by
    show (PyData.strOk n && PyData.canLayAll0 (r.map PyData.str)) = true
    rw [h n (List.mem_cons_self ..), lay_strs r fun x hx => h x (List.mem_cons_of_mem _ hx)]
    rfl
theorem dep_ints : ∀ ns : List Int, PyData.depthAll (ns.map PyData.int) ≤ 1
  | [] => by decide
  | n :: r => Nat.max_le.mpr ⟨by show PyData.depth (.int n) ≤ 1; simp [PyData.depth], dep_ints r⟩
theorem dep_strs : ∀ ns : List Str, PyData.depthAll (ns.map PyData.str) ≤ 1
  | [] => by decide
  | n :: r => Nat.max_le.mpr ⟨by show PyData.depth (.str n) ≤ 1; simp [PyData.depth], dep_strs r⟩
theorem shaped_ints (ns : List Int) : SeqAt.shaped (.list (ns.map PyData.int)) = true := by
  have h := dep_ints ns
  have h2 : (PyData.list (ns.map PyData.int)).depth ≤ 64 := by simp only [PyData.depth]; omega
  have h3 : (PyData.list (ns.map PyData.int)).canLay0 = true := by simp only [PyData.canLay0]; exact lay_ints ns
  simp [SeqAt.shaped, h2, h3]
theorem shaped_strs (ns : List Str) (h0 : ∀ x ∈ ns, PyData.strOk x = true) : SeqAt.shaped (.list (ns.map PyData.str)) = true := by
  have h := dep_strs ns
  have h2 : (PyData.list (ns.map PyData.str)).depth ≤ 64 := by simp only [PyData.depth]; omega
  have h3 : (PyData.list (ns.map PyData.str)).canLay0 = true := by simp only [PyData.canLay0]; exact lay_strs ns h0
  simp [SeqAt.shaped, h2, h3]
theorem shaped_strsT (ns : List Str) (h0 : ∀ x ∈ ns, PyData.strOk x = true) : SeqAt.shaped (.tuple (ns.map PyData.str)) = true := by
  have h := dep_strs ns
  have h2 : (PyData.tuple (ns.map PyData.str)).depth ≤ 64 := by simp only [PyData.depth]; omega
  have h3 : (PyData.tuple (ns.map PyData.str)).canLay0 = true := by simp only [PyData.canLay0]; exact lay_strs ns h0
  simp [SeqAt.shaped, h2, h3]
theorem shaped_nil : SeqAt.shaped (.list []) = true := shaped_ints []
theorem eqv_nil {ds : List PyData} : PyData.eqv (.list ds) (.list []) = ds.isEmpty := by
  cases ds <;> simp [PyData.eqv, PyData.eqvAll]
theorem eqvAll_strs : ∀ (a b : List Str), PyData.eqvAll (a.map PyData.str) (b.map PyData.str) = decide (a = b)
  | [], [] => by simp [PyData.eqvAll]
  | [], _ :: _ => by simp [PyData.eqvAll]
  | _ :: _, [] => by simp [PyData.eqvAll]
  | x :: a, y :: b => by
    simp only [List.map_cons, PyData.eqvAll, PyData.eqv, eqvAll_strs a b]
    by_cases e : x = y
    · subst e; simp
    · simp [e]
section
variable {H : Hp} {Q : VK} {K : PySem.W.Frag} {p q : Addr}
theorem v_neNilI {ns : List Int} (h : H p = some (.lst (ns.map V.int))) (hq : H q = some (.lst [])) (k : Q (.bl (!ns.isEmpty)) H) : rNeD K (.ref p) (.ref q) H Q := by
  refine ⟨.list (ns.map PyData.int), .list [], .lst (SqL.of h) (dp_ints ns), .lst (SqL.of hq) .nil, shaped_ints ns, shaped_nil, ?_⟩
  rw [eqv_nil, List.isEmpty_map]
  exact k
theorem v_neNilS {ns : List Str} (h : H p = some (.lst (ns.map V.str))) (h0 : ∀ x ∈ ns, PyData.strOk x = true) (hq : H q = some (.lst [])) (k : Q (.bl (!ns.isEmpty)) H) : rNeD K (.ref p) (.ref q) H Q := by
  refine ⟨.list (ns.map PyData.str), .list [], .lst (SqL.of h) (dp_strs ns), .lst (SqL.of hq) .nil, shaped_strs ns h0, shaped_nil, ?_⟩
  rw [eqv_nil, List.isEmpty_map]
  exact k
end
theorem ok_tx {l : List Nat} (h : ∀ c ∈ l, c < 1000) : PyData.strOk (tx l) = true := by
  show (l.toArray).all (fun c => decide (c < 0x110000)) = true
  rw [List.all_toArray, List.all_eq_true]
  intro c hc
  have := h c hc
  simp
  omega
theorem wdiv {i m : Int} (h : 0 < m) (h2 : m < 1000000) : CDivW i m := wide_div (b := 20) h (by omega) (by decide) (by decide)
end Cw
set_option Elab.async false
set_option linter.all false
set_option maxRecDepth 100000
set_option maxHeartbeats 4000000
/-! set(text), len(set(..)): a set of texts out of anything that is walked. -/
namespace Cw
open PySem PySem.Spec L2
/-- the different ones, in the order in which they are met -/
def metAdd (l : List Str) (z : Str) : List Str := if z ∈ l then l else l ++ [z]
def metOf (l : List Str) : List Str := l.foldl metAdd []
theorem metAdd_mem {l : List Str} {z y : Str} : y ∈ metAdd l z ↔ y ∈ l ∨ y = z := by
  unfold metAdd
  by_cases h : z ∈ l
  · rw [if_pos h]
    exact ⟨Or.inl, fun k => k.elim id fun e => e ▸ h⟩
  · rw [if_neg h, List.mem_append, List.mem_singleton]
theorem metOf_snoc (l : List Str) (z : Str) : metOf (l ++ [z]) = metAdd (metOf l) z := by
  unfold metOf
  rw [List.foldl_append]
  rfl
theorem metAdd_len (l : List Str) (z : Str) : (metAdd l z).length = if z ∈ l then l.length else l.length + 1 := by
  unfold metAdd
  split <;> simp
theorem metFold_len : ∀ (l acc : List Str), (l.foldl metAdd acc).length ≤ acc.length + l.length
  | [], acc => Nat.le_refl _
  | z :: r, acc => by
    have h1 := metFold_len r (metAdd acc z)
    have h2 := metAdd_len acc z
    rw [List.foldl_cons, List.length_cons]
    split at h2 <;> omega
theorem metOf_len (l : List Str) : (metOf l).length ≤ l.length := by
  have h := metFold_len l []
  simp only [List.length_nil, Nat.zero_add] at h
  exact h
theorem metFold_nodup : ∀ (l acc : List Str), (acc ++ l).Nodup → l.foldl metAdd acc = acc ++ l
  | [], acc, _ => by simp
  | z :: r, acc, h => by
    have hz : ¬ z ∈ acc := fun m => by
      have := (List.nodup_append.mp h).2.2 z m z (List.mem_cons_self ..)
      exact this rfl
    have e : metAdd acc z = acc ++ [z] := by unfold metAdd; rw [if_neg hz]
    rw [List.foldl_cons, e, metFold_nodup r (acc ++ [z]) (by simpa using h)]
    simp
theorem metOf_nodup {l : List Str} (h : l.Nodup) : metOf l = l := by
  unfold metOf
  rw [metFold_nodup l [] (by simpa using h)]
  rfl
/-- fewer, where one comes twice -/
theorem metFold_lt : ∀ (l acc : List Str), acc.Nodup → (¬ l.Nodup ∨ ∃ z, z ∈ l ∧ z ∈ acc) → (l.foldl metAdd acc).length < acc.length + l.length
  | [], acc, _, h => by
    rcases h with h | ⟨z, h, _⟩
    · exact absurd List.nodup_nil h
    · cases h
  | z :: r, acc, ha, h => by
    rw [List.foldl_cons, List.length_cons]
    have hl := metAdd_len acc z
    by_cases hz : z ∈ acc
    · rw [if_pos hz] at hl
      have h1 := metFold_len r (metAdd acc z)
      omega
    · rw [if_neg hz] at hl
      have e : metAdd acc z = acc ++ [z] := by unfold metAdd; rw [if_neg hz]
      have nd : (metAdd acc z).Nodup := by
        rw [e]
        exact nd_snoc ha hz
      have k : ¬ r.Nodup ∨ ∃ y, y ∈ r ∧ y ∈ metAdd acc z := by
        rcases h with h | ⟨y, h1, h2⟩
        · rw [List.nodup_cons] at h
          by_cases hr : z ∈ r
          · exact Or.inr ⟨z, hr, by rw [e]; simp⟩
          · exact Or.inl fun n => h ⟨hr, n⟩
        · rcases List.mem_cons.mp h1 with q | q
          · exact absurd (q ▸ h2) hz
          · exact Or.inr ⟨y, q, by rw [e]; simp [h2]⟩
      have h1 := metFold_lt r (metAdd acc z) nd k
      omega
theorem metOf_lt {l : List Str} (h : ¬ l.Nodup) : (metOf l).length < l.length := by
  have k := metFold_lt l [] List.nodup_nil (Or.inl h)
  simp only [List.length_nil, Nat.zero_add] at k
  exact k
/-- the set at a holds just the texts of l -/
abbrev SetIs (P : Program) (w : World) (h : Heap) (a : Addr) (l : List Str) : Prop := h.SetOf (PySem.strKind P w) a (fun z => decide (z ∈ l)) l.length
theorem SetIs.at {P : Program} {w : World} {h h' : Heap} {a : Addr} {l : List Str} (R : SetIs P w h a l) (k : ∀ o, h.get? a = some o → h'.get? a = some o) : SetIs P w h' a l := by
  obtain ⟨o, es, ep, t, ho, r⟩ := R
  exact ⟨o, es, ep, t, k o ho, r⟩
section
variable {P : Program} {w : World} {A : Around} {R : Result → Shared → Prop} {J : Addr} {fp wr : List Addr} {n : Nat} {Y : Nat → Value → Prop} {St : Nat → Heap → Prop}
theorem set_loop (W : Walks P w A.in1 J fp wr n Y St) (S : Addr) (hS : S ∉ fp) (xs : List Str) (hn : xs.length = n) (hy : ∀ i v, Y i v → ∃ x t, xs[i]? = some x ∧ v = .str x t) (hb : n + 1 < scanBound) :
    ∀ (k i : Nat) (s : Shared), n - i = k → i ≤ n → St i s.heap → SetIs P w s.heap S (metOf (xs.take i)) →
      (∀ h' tk, (∀ b o, b ∉ S :: wr → s.heap.get? b = some o → h'.get? b = some o) → SetIs P w h' S (metOf xs) → R (.ok (.ret .none)) { s with heap := h', toks := tk }) →
      codeAny (model P w) A (.builtin "set.update.loop" ⟨[.ref S, .ref J], []⟩) R s := by
  have hw : S ∉ wr := fun h => hS (W.sub _ h)
  intro k
  induction k with
  | zero =>
    intro i s hk hi st hset q
    have e : i = n := by omega
    subst e
    refine codeAny_builtin PyProof.Rows.F.entry_set_update_loop ?_
    rw [Around.under_plainId PyProof.Rows.F.plain_set_update_loop _]
    show wpAny _ A.in1 (pyNext (.ref J) >>= _) _ _ s
    refine wpAny_bind (W.done s _ _ st fun h' tk kp => ?_)
    show wpAny _ A.in1 (ret Value.none) _ _ _
    refine wpAny_pure (q h' tk (fun b o nb eb => kp b o (fun z => nb (List.mem_cons_of_mem _ z)) eb) ?_)
    rw [List.take_of_length_le (by omega)] at hset
    exact hset.at fun o eo => kp S o hw eo
  | succ k ih =>
    intro i s hk hi st hset q
    have hlt : i < n := by omega
    refine codeAny_builtin PyProof.Rows.F.entry_set_update_loop ?_
    rw [Around.under_plainId PyProof.Rows.F.plain_set_update_loop _]
    show wpAny _ A.in1 (pyNext (.ref J) >>= _) _ _ s
    refine wpAny_bind (W.item i s _ _ hlt st fun v h1 tk hv st1 kp => ?_)
    obtain ⟨x, t, hx, rfl⟩ := hy i v hv
    have hset1 := hset.at (h' := h1) fun o eo => kp S o hw eo
    show wpAny _ A.in1 (holding [Value.str x t] (setAdd S (.str x t)) >>= _) _ _ _
    refine wpAny_bind (wpAny_holding ?_)
    unfold setAdd
    refine wpAny_holding (wpAny_bind ((PySem.strKind P w).pyHash (k := x) (strKind_is _ _ _ _) ?_))
    have hroom : (metOf (xs.take i)).length + 1 < scanBound := by
      have h2 := metOf_len (xs.take i)
      rw [List.length_take] at h2
      omega
    refine wpAny_setAddHashed_of (knd := PySem.strKind P w) (s := { heap := h1, gens := s.gens, drawn := s.drawn, toks := tk + 1, os := s.os }) (strKind_is _ _ _ _) rfl hset1 hroom fun h2 sb hset2 => ?_
    have e1 : xs.take (i + 1) = xs.take i ++ [x] := by
      rw [List.take_add_one, hx]
      rfl
    have hset3 : SetIs P w h2 S (metOf (xs.take (i + 1))) := by
      refine PyProof.Rows.SetOf_congr hset2 (fun z => ?_) ?_
      · rw [e1, metOf_snoc, Bool.eq_iff_iff]
        simp only [Bool.or_eq_true, decide_eq_true_eq]
        exact metAdd_mem.symm
      · rw [e1, metOf_snoc, metAdd_len]
        simp only [decide_eq_true_eq]
    refine wpAny_pure ⟨plainId_quiet PyProof.Rows.F.plain_set_update_loop _, ih (i + 1) _ (by omega) hlt (W.frame _ _ _ st1 fun b hb o eo => ?_) hset3 fun h3 tk3 kp3 hs3 => ?_⟩
    · rw [sb.2 b fun z => hS (z ▸ hb)]
      exact eo
    · refine q h3 tk3 (fun b o nb eb => kp3 b o nb ?_) hs3
      show h2.get? b = some o
      rw [sb.2 b fun z => nb (z ▸ List.mem_cons_self ..)]
      exact kp b o (fun z => nb (List.mem_cons_of_mem _ z)) eb
end

/-! ### the call -/
abbrev freshSet (b : Bool) : Obj := { cls := .type "set", dict := none, data := .set #[] 0 (.fresh 0 0 b) }
section
variable {P : Program} {w : World} {A : Around} {E : Value → Shared → Prop} {s : Shared}
theorem set_of_text {x : Str} {t : Tok} {Q : Value → Shared → Prop} (hh : A.handled = none) (hb : x.cps.size + 1 < scanBound)
    (h : ∀ (h' : Heap) (tk : Nat), SetIs P w h' s.heap.objs.size (metOf (x.cps.toList.map fun c => (⟨#[c]⟩ : Str))) → (∀ b o, b < s.heap.objs.size → s.heap.get? b = some o → h'.get? b = some o) → Q (.ref s.heap.objs.size) { s with heap := h', toks := tk }) :
    wpAny (model P w) A (call (.type "set") [.str x t]) Q E s := by
  obtain ⟨c, tl, hmro⟩ := PySem.F.called_set.mro
  have hmade := PySem.F.called_set.made
  have hsub := PySem.F.called_set.sub
  refine wpAny_call (codeAny_of_tree ?_)
  show wpAny _ _ (callAny (.type "set") _) _ _ _
  refine wpAny_pure ⟨Code.quiet_builtin _ (by decide +kernel), codeAny_builtin PySem.F.entry_type_call ?_⟩
  rw [Around.under_plain (weight_type_call_type "set" [.str x t] []) rfl]
  have h1 := PySem.F.called_set.notType
  have h2 := PySem.F.called_set.canCreate
  have hct := PySem.F.typeCall_set_1 (.str x t)
  repeat (any_goals (first | assumption | wp_step))
  refine codeAny_mono (code_set_new_1 (.str x t) (E := E) (Q₁ := fun obj s1 => ∃ b : Bool, obj = .ref s.heap.objs.size ∧ s1 = { s with heap := s.heap.push (freshSet b) }) fun b => ⟨b, rfl, rfl⟩) fun r s1 hr => ?_
  cases r with
  | error e => exact hr
  | ok fl =>
    cases fl with
    | ret obj =>
      obtain ⟨b, rfl, rfl⟩ := hr
      have hS : (s.heap.push (freshSet b)).get? s.heap.objs.size = some (freshSet b) := Heap.get?_push_size _ rfl
      have hT : Shared.TypeIs { s with heap := s.heap.push (freshSet b) } (.ref s.heap.objs.size) "set" := ⟨_, hS, rfl⟩
      have hli := PySem.F.called_set.init.lookup
      have hbi := PySem.F.called_set.init.bind (.ref s.heap.objs.size)
      repeat (any_goals (first | assumption | wp_step))
      refine codeAny_mono (codeAny_call_builtin (R := wants (fun r s2 => r = .none ∧ ∃ h' tk, s2 = { s with heap := h', toks := tk } ∧ SetIs P w h' s.heap.objs.size (metOf (x.cps.toList.map fun c => (⟨#[c]⟩ : Str))) ∧
          (∀ b o, b < s.heap.objs.size → s.heap.get? b = some o → h'.get? b = some o)) E) PySem.F.called_set.init.plain PySem.F.entry_set_init (check_set_init_1 hT ?_)) fun r2 s2 hr2 => ?_
      · have k1 := F.sub_str_set
        have k2 := F.sub_str_frozenset
        have k3 : (Value.type "str" == Value.type "dict") = false := by decide
        unfold Builtin.«set.__init__» noKeywords Builtin.Frozenset.updateFrom
        generalize hPI : pyIter = PI
        wp_walk
        subst hPI
        refine wpAny_pyIter_str fun ob St hw st => ?_
        refine wpAny_bind (wpAny_runValue ?_)
        have hh3 : A.in1.in1.in1.handled = none := by simp [hh]
        have hne : s.heap.objs.size ∉ [(s.heap.push (freshSet b)).objs.size] := by
          rw [Heap.size_push, List.mem_singleton]
          exact Nat.ne_of_lt (Nat.lt_succ_self _)
        refine set_loop (hw _ hh3) s.heap.objs.size hne (x.cps.toList.map fun c => (⟨#[c]⟩ : Str)) (by simp) (fun i v hv => ?_) hb _ 0 _ rfl (Nat.zero_le _) st ?_ fun h' tk kp hs => ?_
        · obtain ⟨c, u, hc, rfl⟩ := hv
          exact ⟨⟨#[c]⟩, u, by simp [hc], rfl⟩
        · have hg : ((s.heap.push (freshSet b)).push ob).get? s.heap.objs.size = some (freshSet b) := Heap.get?_push_of_some _ hS
          exact PyProof.Rows.SetOf_congr ((PyProof.Rows.setObjOf_fresh (knd := PySem.strKind P w) b).setOf hg (by unfold scanBound; omega)) (fun z => by simp [metOf]) rfl
        · refine wpAny_pure ?_
          show wpAny _ _ (ret Value.none) _ _ _
          refine wpAny_pure ⟨rfl, h', tk, rfl, hs, fun a o ha eo => kp a o ?_ (Heap.get?_push_of_some _ (Heap.get?_push_of_some _ eo))⟩
          rw [Heap.size_push]
          simp only [List.mem_cons, List.not_mem_nil, or_false, not_or]
          exact ⟨Nat.ne_of_lt ha, Nat.ne_of_lt (Nat.lt_succ_of_lt ha)⟩
      · cases r2 with
        | error e => exact hr2
        | ok fl2 =>
          cases fl2 with
          | ret r =>
            obtain ⟨rfl, h', tk, rfl, hs', hk'⟩ := hr2
            repeat (any_goals (first | assumption | wp_step))
            exact h _ _ hs' hk'
          | _ => exact hr2.elim
    | _ => exact hr.elim
end
/-! ### over the layer -/
/-- a set of texts -/
def SetT (P : Program) (w : World) (a : Addr) (l : List Str) : HO := .ext fun h => SetIs P w h a l
theorem setT_new {P : Program} {w : World} {H : Hp} {h : Heap} {a : Addr} {l : List Str} (R : SetIs P w h a l) : ObjOk P w H h a (SetT P w a l) := by
  have ⟨o, _, _, _, ho, _⟩ := R
  exact ⟨R, ⟨o, ho⟩, fun h1 h2 q k => SetIs.at q k⟩
def rSetTx (P : Program) (w : World) : List V → Hp → VK → Prop := fun xs H Q => ∃ l : List Nat, xs = [.str (tx l)] ∧ l.length + 1 < scanBound ∧ ∀ p, H p = none → Q (.ref p) (upd H p (SetT P w p (metOf (l.map fun c => tx [c]))))
def rLenSet (P : Program) (w : World) : List V → Hp → VK → Prop := fun xs H Q => ∃ (p : Addr) (l : List Str), xs = [.ref p] ∧ H p = some (SetT P w p l) ∧ Q (.int l.length) H
section
variable {X : Cx}
theorem c_setS (hc : X.calm = true) : CallR X (.type "set") (rSetTx X.prog X.w) := by
  intro pins s σ H xs us Q I r h
  obtain ⟨l, rfl, hl, q⟩ := h
  obtain ⟨u, rfl, t, rfl⟩ := vals1 r
  refine set_of_text (I.ok.hd hc) (by simpa using hl) fun h' tk hs hk => ?_
  have hp : H s.heap.objs.size = none := I.hok.fresh (Nat.le_refl _)
  refine ⟨.ref s.heap.objs.size, upd H s.heap.objs.size (SetT X.prog X.w s.heap.objs.size (metOf (l.map fun c => tx [c]))), I.laid (h' := h') (t' := tk) (fun b o e => hk b o (Heap.lt_size e) e) (Nat.le_refl _) (setT_new ?_), rfl, q _ hp⟩
  simpa using hs
theorem c_lenSet : CallR X (.builtin "len") (rLenSet X.prog X.w) := by
  intro pins s σ H xs us Q I r h
  obtain ⟨p, l, rfl, hp, q⟩ := h
  obtain ⟨u, rfl, ru⟩ := vals1 r
  cases ru
  have hs : SetIs X.prog X.w s.heap p l := (I.hok p _ hp).1
  obtain ⟨o, es, ep, t, ho, hex, hd, h1, h2, h3, hf, hn⟩ := hs
  refine call_len_set ho hex hd hf ?_ ⟨.int l.length, H, I.tok _, ⟨_, by rw [hn]⟩, q⟩
  have : es.size < scanBound := h3
  unfold scanBound at this
  omega
end
theorem v_setS {P : Program} {w : World} {H : Hp} {Q : VK} {l : List Nat} (h : l.length < 1000) (q : ∀ p H', H p = none → Same H H' → H' p = some (SetT P w p (metOf (l.map fun c => tx [c]))) → Q (.ref p) H') : rSetTx P w [.str (tx l)] H Q :=
  ⟨l, rfl, by unfold scanBound; omega, fun p hp => q p _ hp (Same.new hp) upd_same⟩
theorem v_lenSet {P : Program} {w : World} {H : Hp} {Q : VK} {p : Addr} {l : List Str} (h : H p = some (SetT P w p l)) (q : Q (.int l.length) H) : rLenSet P w [.ref p] H Q := ⟨p, l, rfl, h, q⟩
end Cw
set_option Elab.async false
set_option linter.all false
set_option maxRecDepth 100000
set_option maxHeartbeats 4000000
/-! operators of classes of one's own -/
namespace PySem.W
open PySem PySem.Calls PyProof.Rows Builtin
section
variable {prog : Program} {w : World} {A : Around} {E : Value → Shared → Prop} {s : Shared} {K : Frag} {x C L f : Addr} {h0 : Heap} {m : Str → Option Value} {ox : Obj} {od : Option Obj} {b tb : Value}
theorem ifBound_obj {M : Model} {args : List Value} {name : Str} {id : String} {Q : Option Value → Shared → Prop} (X : K.In s.heap) (I : InstAt s.heap x ox C od) (hs : findIn K (.ref C) name = some (some (.builtin id)))
    (hbd : ∀ v, bindSpecial (.builtin id) v = pure (.builtin id, [v])) (h : wpAny M A (call (.builtin id) (.ref x :: args)) (fun v => Q (some v)) E s) : wpAny M A (callSpecialIfBound? (.ref x) name args) Q E s := by
  simp only [callSpecialIfBound?, bindSpecialIfBound?]
  refine wpAny_holding (wpAny_bind (wpAny_bind (wpAny_bind (I.type.here ((looks_findIn X hs).here ?_)))))
  have e := hbd (.ref x)
  simp only [e]
  have k : wpAny M A (call (.builtin id) ([.ref x] ++ args) >>= fun v => pure (some v)) Q E s := wpAny_bind (wpAny_mono h (fun _ _ z => wpAny_pure z) fun _ _ z => z)
  refine wpAny_bind (wpAny_askSetting (wpAny_ite ?_))
  split
  · exact wpAny_bind (wpAny_pure (wpAny_pure k))
  · exact wpAny_tryCatch (wpAny_bind (wpAny_pure (wpAny_pure k)))
theorem check_obj {M : Model} {id owner n : String} {rest : List Value} {Q : Unit → Shared → Prop} (X : K.In s.heap) (I : InstAt s.heap x ox C od) (hk : builtinKind id = some .slot) (hs : splitId id = some (owner, n))
    (ha : argsOk id ⟨.ref x :: rest, []⟩) (ho : subIn K (.ref C) (.type owner) = some true) (q : Q () s) : wpAny M A (checkBuiltinCall id ⟨.ref x :: rest, []⟩) Q E s := by
  simp only [checkBuiltinCall, hk, hs]
  unfold isInstance
  refine wpAny_bind (wpAny_bind (I.type.here ((looks_subIn X ho).here ?_)))
  rw [if_neg (by simp)]
  cases hsig : Manifest.signature? id with
  | none => exact wpAny_pure q
  | some sig =>
    simp only [argsOk, hsig] at ha
    have h2 : Bind.checkArgs id sig ⟨.ref x :: rest, []⟩ = pure () := ha
    show wpAny M A (Bind.checkArgs id sig ⟨.ref x :: rest, []⟩) Q E _
    rw [h2]
    exact wpAny_pure q
theorem neBody (X : K.In s.heap) (I : InstAt s.heap x ox C od) (hu : A.units < cLine) (hs : findIn K (.ref C) "__eq__" = some (some (.ref f))) (hf : isFn K (.ref f) = true) {Q : Fin → Shared → Prop}
    (h : wpAny (model prog w) A (call (.ref f) [.ref x, b]) (fun v s' => ∃ r, v = .bool r ∧ Q (.done (.ret (.bool (!r)))) s') E s) : wpAny (model prog w) A (Builtin.«object.__ne__» ⟨[.ref x, b], []⟩) Q E s := by
  unfold Builtin.«object.__ne__»
  refine wpAny_bind (m := slotArgs "__ne__" 1 _) (wpAny_pure ?_)
  refine wpAny_bind (wpAny_cRoomFor hu ?_)
  refine wpAny_bind (m := callSpecialIfBound? (.ref x) (Str.ofString "__eq__") [b]) (ifBound_K X I hs hf (wpAny_mono h (fun v s' z => ?_) fun _ _ z => z))
  obtain ⟨r, rfl, z⟩ := z
  exact wpAny_bind (wpAny_truthy_bool (wpAny_pure z))
/-- != of an object whose class has its own == and no != -/
theorem ne_own {Q : Value → Shared → Prop} (hu : A.units + 1 < cLine) (F : Fr h0 L s.heap m) (X0 : K.In h0) (I : InstAt s.heap x ox C od) (hb : Looks (model prog w) s.heap (typeOf b) tb) (hn : notFirst K C tb = true)
    (hne : findIn K (.ref C) "__ne__" = some (some (.builtin "object.__ne__"))) (ho : subIn K (.ref C) (.type "object") = some true) (hs : findIn K (.ref C) "__eq__" = some (some (.ref f))) (hf : isFn K (.ref f) = true)
    (h : wpAny (model prog w) A.in1 (call (.ref f) [.ref x, b]) (fun v s' => ∃ r, v = .bool r ∧ Q (.bool (!r)) s') E s) : wpAny (model prog w) A (richCompare .NotEq (.ref x) b) Q E s := by
  have X := X0.keeps F.keep
  have pl : plainId "object.__ne__" = true := by decide +kernel
  have one : wpAny (model prog w) A (tryCompare (.ref x) (cmpInfo .NotEq).2.1 b) (fun r s' => ∃ v, r = some v ∧ Q v s') E s := by
    unfold tryCompare
    refine wpAny_bind (ifBound_obj X I (id := "object.__ne__") hne (fun v => ?_) ?_)
    · exact (PySem.F.slot_tuple_iterator_ne).bind v
    · refine wpAny_call (codeAny_call_builtin pl PySem.F.cmpEntry_ne (check_obj X I PySem.F.cmpKind_ne PySem.F.cmpSplit_ne (PySem.F.cmpArgs_ne _ _) ho ?_))
      refine neBody (A := A.in1) X I hu hs hf (wpAny_mono h (fun v s' z => ?_) fun _ _ z => z)
      obtain ⟨r, rfl, z⟩ := z
      exact ⟨r, rfl, wpAny_pure ⟨_, rfl, z⟩⟩
  unfold richCompare
  simp only [oneThing_ref]
  refine wpAny_holding (wpAny_bind (wpAny_cRoomFor (Nat.lt_of_succ_lt hu) ?_))
  refine wpAny_bind (I.type.here (wpAny_bind (hb.here ?_)))
  have k : ∀ z : Bool, z = false → wpAny (model prog w) A (tryCompare (.ref x) (cmpInfo .NotEq).2.1 b) (fun r s' => ∃ v, r = some v ∧ Q v s') E s := fun _ _ => one
  split
  · rename_i q
    have e : subIn K tb (.ref C) = some false := by
      rcases Bool.or_eq_true_iff.mp hn with e | e
      · rw [beq_iff_eq.mp e] at q; simp at q
      · exact beq_iff_eq.mp e
    refine wpAny_bind ((looks_subIn X e).here ?_)
    simp only [Bool.false_eq_true, if_false]
    refine wpAny_bind (wpAny_mono one (fun r s' z => ?_) fun _ _ e => e)
    obtain ⟨v, rfl, z⟩ := z
    exact wpAny_pure z
  · refine wpAny_bind (wpAny_pure ?_)
    simp only [Bool.false_eq_true, if_false]
    refine wpAny_bind (wpAny_mono one (fun r s' z => ?_) fun _ _ e => e)
    obtain ⟨v, rfl, z⟩ := z
    exact wpAny_pure z
end
end PySem.W
set_option Elab.async false
set_option linter.all false
set_option maxRecDepth 100000
set_option maxHeartbeats 4000000
namespace Cw
open PySem PySem.Spec L2
/-! ### methods -/
structure MAt (K : PySem.W.Frag) (C : Addr) (m qual : Str) (st : Stmt) : Prop where
  ex : ∃ f fd, PySem.W.findIn K (.ref C) m = some (some (.ref f)) ∧ PySem.W.isFn K (.ref f) = true ∧ Fun K m qual st f fd
structure MDef (P : Program) (w : World) (K : PySem.W.Frag) (mg : Str → Option Value) (base : Heap) (CX : CXT) (k : Nat) (C : Addr) (m : Str) (ps : List Str) (sp : Sp) : Prop where
  ex : ∃ f fd, PySem.W.findIn K (.ref C) m = some (some (.ref f)) ∧ PySem.W.isFn K (.ref f) = true ∧ PySem.W.keepIn K (.ref f) = true ∧ Bd K f fd ps ∧ FnOk P w K mg base CX k f fd ps sp
section
variable {P : Program} {w : World} {K : PySem.W.Frag} {mg : Str → Option Value} {base : Heap} {CX : CXT} {k : Nat} {C : Addr} {m qual : Str} {ps N : List Str} {sp : Sp} {st : Stmt}
theorem MDef.mono {j : Nat} (D : MDef P w K mg base CX j C m ps sp) (h : j ≤ k) : MDef P w K mg base CX k C m ps sp := by
  obtain ⟨f, fd, a, b, c, d, e⟩ := D.ex
  exact ⟨f, fd, a, b, c, d, e.mono h⟩
theorem MDef.imp {sp' : Sp} (D : MDef P w K mg base CX k C m ps sp) (h : ∀ vs H Q E, sp' vs H Q E → sp vs H Q E) : MDef P w K mg base CX k C m ps sp' := by
  obtain ⟨f, fd, a, b, c, d, e⟩ := D.ex
  exact ⟨f, fd, a, b, c, d, e.imp h⟩
theorem MAt.ok (F : MAt K C m qual st) (S : FnScope N ps (defScope st))
    (hb : ∀ (kV doc pm : Value) (an : Option Addr) (cdv ct : Value) (us : List Value), us.length = ps.length → bindArgs (PySem.W.fnOf m qual (defArgs st) (defBody st) (defScope st) .none kV doc pm an cdv ct) ⟨us, []⟩ = pure (ps.zip us))
    (len : ∀ vs H Q E, sp vs H Q E → vs.length = ps.length)
    (hbody : ∀ (f : Addr) (cdv : Value) (A : Around) (outer : List Env) (s : Shared) (H : Hp) (vs : List V) (Q : VK) (E : XK), Room k (A.deeper (PyProof.Rows.envOfC qual (defScope st) s.heap.objs.size f cdv)) → sp vs H Q E →
      ∃ t, PSs (cxOf CX0 P w K mg base N qual (defScope st) f cdv A outer s H E).nox (defBody st) t ∧ t { nx := fun _ H' => Q .non H', rt := Q } (start N vs) H) : MDef P w K mg base CX0 (k + 1) C m ps sp := by
  obtain ⟨f, fd, h1, h2, F⟩ := F.ex
  exact ⟨f, fd, h1, h2, F.kp, ⟨F.binds hb, funLk F⟩, F.ok S len fun cdv A outer s H vs Q E hr h => hbody f cdv A outer s H vs Q E hr h⟩
theorem MAt.okX (F : MAt K C m qual st) (S : FnScope N ps (defScope st))
    (hb : ∀ (kV doc pm : Value) (an : Option Addr) (cdv ct : Value) (us : List Value), us.length = ps.length → bindArgs (PySem.W.fnOf m qual (defArgs st) (defBody st) (defScope st) .none kV doc pm an cdv ct) ⟨us, []⟩ = pure (ps.zip us))
    (len : ∀ vs H Q E, sp vs H Q E → vs.length = ps.length)
    (hbody : ∀ (f : Addr) (cdv : Value) (A : Around) (outer : List Env) (s : Shared) (H : Hp) (vs : List V) (Q : VK) (E : XK), Room k (A.deeper (PyProof.Rows.envOfC qual (defScope st) s.heap.objs.size f cdv)) → sp vs H Q E →
      ∃ t, PSs (cxOf (L2.CX P w) P w K mg base N qual (defScope st) f cdv A outer s H E) (defBody st) t ∧ t { nx := fun _ H' => Q .non H', rt := Q } (start N vs) H) : MDef P w K mg base (L2.CX P w) (k + 1) C m ps sp := by
  obtain ⟨f, fd, h1, h2, F⟩ := F.ex
  exact ⟨f, fd, h1, h2, F.kp, ⟨F.binds hb, funLk F⟩, F.okX S len fun cdv A outer s H vs Q E hr h => hbody f cdv A outer s H vs Q E hr h⟩
end
section
variable {X : Cx} {CX : CXT} {k : Nat} {C : Addr} {m : Str} {ps : List Str} {sp : Sp} {E : XK} {pos apos : PySem.Pos} {o e : Expr} {es : List Expr} {ta : TE} {t : TA}
theorem pe_md {pl : Sem Bool} (D : MDef X.prog X.w X.K X.mg X.base CX k C m ps sp) (c : Cls X.K C) (hr : Room k X.A) (hx : Passes CX X E) (he : PE X o ta) (ha : PA X (e :: es) t)
    (hst : starEach (e :: es) X.env = (false, eval e X.env) :: starEach es X.env := by rfl) (hpl : (backTo pos (starEach es X.env)).any (·.1) = false := by rfl)
    (ht : eval (.Call (.Attribute o m apos) (e :: es) [] pos) X.env = (do
      let ov ← eval o X.env
      standAt apos.atName
      let (f, first) ← holding [ov] (getMethod ov m pl)
      callWith pos f first (backTo pos (starEach (e :: es) X.env)) (backToKw pos (keywordEach [] X.env))) := by rfl) :
    PE X (.Call (.Attribute o m apos) (e :: es) [] pos) (tMeth C m sp [] E ta t) := by
  obtain ⟨f, fd, a, b, kp, ⟨d, _⟩, g⟩ := D.ex
  exact pe_meth (pl := pl) he c ⟨a, b, kp⟩ g hr d .nil hx ha hst hpl ht
/-- two instances of the class at C, by its own operator -/
def rM2 (C : Addr) (sp : Sp) (E : XK) : R2 := fun x y H Q => ∃ a b dx dy fs gs, x = .ref a ∧ y = .ref b ∧ H a = some (.ins C dx fs) ∧ H b = some (.ins C dy gs) ∧ sp [.ref a, .ref b] H Q E
def rM2n (C : Addr) (sp : Sp) (E : XK) : R2 := fun x y H Q => ∃ a b dx dy fs gs, x = .ref a ∧ y = .ref b ∧ H a = some (.ins C dx fs) ∧ H b = some (.ins C dy gs) ∧ sp [.ref a, .ref b] H (fun v H' => ∃ r, v = .bl r ∧ Q (.bl (!r)) H') E
theorem op_cmpM {op : CmpOp} (hop : ∀ u v, compareOp op u v = richCompare op u v) (D : MDef X.prog X.w X.K X.mg X.base CX k C (cmpInfo op).2.1 ps sp) (hr : Room k X.A) (hx : Passes CX X E) : OpR X (compareOp op) (rM2 C sp E) := by
  obtain ⟨f, fd, h1, h2, kp, ⟨hb, _⟩, F⟩ := D.ex
  intro pins s σ H x y v u Q I rx ry h
  obtain ⟨a, b, dx, dy, fs, gs, rfl, rfl, ha, hb', hq⟩ := h
  cases rx
  cases ry
  obtain ⟨mA, J, _⟩ := ins_get I.hok ha
  obtain ⟨mB, J', _⟩ := ins_get I.hok hb'
  obtain ⟨od, J, _⟩ := J.look
  obtain ⟨od', J', _⟩ := J'.look
  obtain ⟨mm, hF⟩ := I.fr
  rw [hop]
  refine PySem.W.cmp_K (op := op) (tb := .ref C) hr.units0 hF I.ok.mod.kin J J'.type (by simp [PySem.W.notFirst]) h1 h2 ?_
  have z := run_fn (us := [.ref a, .ref b]) (vs := [.ref a, .ref b]) (dvs := []) F hr hb .nil hx I (.cons rfl (.cons rfl .nil)) hq
  refine wpAny_mono z (fun v s' q => ?_) fun _ _ q => q
  obtain ⟨y, H', I', r, q⟩ := q
  have k : EP X pins σ Q v s' := ⟨y, H', I', r, q⟩
  cases v <;> first | exact k | (exfalso; cases y <;> first | (obtain ⟨_, r⟩ := r; cases r) | cases r)
theorem op_neM (D : MDef X.prog X.w X.K X.mg X.base CX k C "__eq__" ps sp) (hne : PySem.W.findIn X.K (.ref C) "__ne__" = some (some (.builtin "object.__ne__"))) (ho : PySem.W.subIn X.K (.ref C) (.type "object") = some true)
    (hr : Room (k + 1) X.A) (hx : Passes CX X E) : OpR X (compareOp .NotEq) (rM2n C sp E) := by
  obtain ⟨f, fd, h1, h2, kp, ⟨hb, _⟩, F⟩ := D.ex
  intro pins s σ H x y v u Q I rx ry h
  obtain ⟨a, b, dx, dy, fs, gs, rfl, rfl, ha, hb', hq⟩ := h
  cases rx
  cases ry
  obtain ⟨mA, J, _⟩ := ins_get I.hok ha
  obtain ⟨mB, J', _⟩ := ins_get I.hok hb'
  obtain ⟨od, J, _⟩ := J.look
  obtain ⟨od', J', _⟩ := J'.look
  obtain ⟨mm, hF⟩ := I.fr
  show wpAny (model X.prog X.w) X.A (richCompare .NotEq _ _) _ _ _
  refine PySem.W.ne_own (tb := .ref C) (hu_of hr) hF I.ok.mod.kin J J'.type (by simp [PySem.W.notFirst]) hne ho h1 h2 ?_
  have hl := F.len _ _ _ _ hq
  have r2 : Vals [V.ref a, V.ref b] [Value.ref a, Value.ref b] := .cons rfl (.cons rfl .nil)
  refine wpAny_call (codeAny_mono (F.run X.A.in1 X.stack s H ⟨[.ref a, .ref b], []⟩ [.ref a, .ref b] [.ref a, .ref b] _ E hr.in1 I.env0.in1 (by
    have := hb s [.ref a, .ref b] I.kIn (by simpa using hl)
    simpa using this) r2 hq) fun r s' hq => ?_)
  cases r with
  | error e => exact hx pins σ H s e s' I hq
  | ok fl =>
    cases fl with
    | ret w =>
      obtain ⟨z, H', I', rz, r, ez, q⟩ := I.after hq
      subst ez
      cases rz
      exact ⟨r, rfl, ⟨.bl (!r), H', I', rfl, q⟩⟩
    | next => exact False.elim hq
    | brk => exact False.elim hq
    | cont => exact False.elim hq
/-- len(o) -/
def rLenM (C : Addr) (sp : Sp) (E : XK) : List V → Hp → VK → Prop := fun xs H Q => ∃ a dx fs, xs = [.ref a] ∧ H a = some (.ins C dx fs) ∧ sp [.ref a] H (fun v H' => ∃ n : Nat, v = .int n ∧ n < 1000000 ∧ Q (.int n) H') E
theorem c_lenM (D : MDef X.prog X.w X.K X.mg X.base CX k C "__len__" ps sp) (hr : Room (k + 1) X.A) (hx : Passes CX X E) : CallR X (.builtin "len") (rLenM C sp E) := by
  obtain ⟨f, fd, h1, h2, kp, ⟨hb, _⟩, F⟩ := D.ex
  intro pins s σ H xs us Q I r h
  obtain ⟨a, dx, fs, rfl, ha, hq⟩ := h
  obtain ⟨u, rfl, ru⟩ := vals1 r
  cases ru
  obtain ⟨mA, J, _⟩ := ins_get I.hok ha
  obtain ⟨od, J, _⟩ := J.look
  obtain ⟨mm, hF⟩ := I.fr
  refine PySem.W.len_K hF I.ok.mod.kin J h1 h2 ?_
  have hl := F.len _ _ _ _ hq
  refine wpAny_call (codeAny_mono (F.run X.A.in1 X.stack s H ⟨[.ref a], []⟩ [.ref a] [.ref a] _ E hr.in1 I.env0.in1 (by
    have := hb s [.ref a] I.kIn (by simpa using hl)
    simpa using this) (.cons rfl .nil) hq) fun r s' hq => ?_)
  cases r with
  | error e => exact hx pins σ H s e s' I hq
  | ok fl =>
    cases fl with
    | ret w =>
      obtain ⟨z, H', I', rz, n, ez, hn, q⟩ := I.after hq
      subst ez
      obtain ⟨t, rfl⟩ := rz
      exact ⟨⟨by omega, by omega⟩, ⟨.int n, H', I'.tok _, ⟨_, rfl⟩, q⟩⟩
    | next => exact False.elim hq
    | brk => exact False.elim hq
    | cont => exact False.elim hq
end
section
variable {C : Addr} {sp : Sp} {E : XK} {H : Hp} {Q : VK} {a b dx dy : Addr} {fs gs : List (Str × V)}
theorem v_M2 (ha : H a = some (.ins C dx fs)) (hb : H b = some (.ins C dy gs)) (q : sp [.ref a, .ref b] H Q E) : rM2 C sp E (.ref a) (.ref b) H Q := ⟨a, b, dx, dy, fs, gs, rfl, rfl, ha, hb, q⟩
theorem v_M2n (ha : H a = some (.ins C dx fs)) (hb : H b = some (.ins C dy gs)) (q : sp [.ref a, .ref b] H (fun v H' => ∃ r, v = .bl r ∧ Q (.bl (!r)) H') E) : rM2n C sp E (.ref a) (.ref b) H Q := ⟨a, b, dx, dy, fs, gs, rfl, rfl, ha, hb, q⟩
theorem v_lenM (ha : H a = some (.ins C dx fs)) (q : sp [.ref a] H (fun v H' => ∃ n : Nat, v = .int n ∧ n < 1000000 ∧ Q (.int n) H') E) : rLenM C sp E [.ref a] H Q := ⟨a, dx, fs, rfl, ha, q⟩
end
end Cw
set_option Elab.async false
set_option linter.all false
set_option maxRecDepth 100000
set_option maxHeartbeats 4000000
namespace Cw
open PySem PySem.Spec L2
/-! ### texts as lists of codes: operators -/
def rTAdd : R2 := fun x y H Q => ∃ a b : List Nat, x = .str (tx a) ∧ y = .str (tx b) ∧ a.length + b.length ≤ 1000000 ∧ Q (.str (tx (a ++ b))) H
def rTMul : R2 := fun x y H Q => ∃ (a : List Nat) (n : Int), x = .str (tx a) ∧ y = .int n ∧ n < 1000000 ∧ -1000000 < n ∧ a.length * n.toNat ≤ 1000000 ∧ Q (.str (tx (List.replicate n.toNat a).flatten)) H
def rTLt : R2 := fun x y H Q => ∃ a b : List Nat, x = .str (tx a) ∧ y = .str (tx b) ∧ Q (.bl (decide (a < b))) H
theorem rep_cps (x : Array Nat) : ∀ (n : Nat) (acc : Array Nat), (List.replicate n x).foldl (· ++ ·) acc = acc ++ (List.replicate n x.toList).flatten.toArray
  | 0, acc => by simp
  | n + 1, acc => by
    rw [List.replicate_succ, List.foldl_cons, rep_cps x n, List.replicate_succ, List.flatten_cons]
    apply Array.ext'
    simp
section
variable {X : Cx}
theorem op_addS : OpR X (binaryOp .Add) rTAdd := by
  intro pins s σ H x y v u Q I rx ry h
  obtain ⟨a, b, rfl, rfl, hl, q⟩ := h
  refine op_add_str pins s σ H _ _ v u Q I rx ry ⟨tx a, tx b, rfl, rfl, ?_, ?_⟩
  · rw [tx_len, tx_len]; exact szl hl
  · rw [tx_app]; exact q
theorem op_mulS : OpR X (binaryOp .Mult) rTMul := by
  intro pins s σ H x y v u Q I rx ry h
  obtain ⟨a, n, rfl, rfl, h1, h2, h3, q⟩ := h
  obtain ⟨t, rfl⟩ := rx
  obtain ⟨t', rfl⟩ := ry
  have hx : (tx a).length = a.length := tx_len a
  have fin : ∀ (z : Str) (s' : Shared) (tk : Tok), z = tx (List.replicate n.toNat a).flatten → Inv X pins σ H s' → EP X pins σ Q (.str z tk) s' := fun z s' tk e I' => ⟨.str z, H, I', ⟨tk, rfl⟩, by rw [e]; exact q⟩
  have len : (List.replicate n.toNat a).flatten.length = a.length * n.toNat := by simp [Nat.mul_comm]
  refine PySem.P.mul_str ?_ ?_ ?_ ?_
  · have e1 : ¬ n < -(2 ^ 63 : Int) := by omega
    have e2 : ¬ n ≥ 2 ^ 63 := by omega
    rw [decide_eq_false e1, decide_eq_false e2]; rfl
  · intro hn _
    rw [hx]
    have e0 : (a.length : Int) ≤ a.length * n.toNat := by
      have : 1 ≤ n.toNat := by omega
      have := Nat.le_mul_of_pos_right a.length (show 0 < n.toNat by omega)
      omega
    have e1 : (a.length : Int) ≤ 1000000 := by
      have : ((a.length * n.toNat : Nat) : Int) ≤ 1000000 := by omega
      omega
    have e2 : (1000000 : Int) ≤ (2 ^ 63 - 1) / n := by
      rw [Int.le_ediv_iff_mul_le (by omega)]
      omega
    omega
  · intro hn _
    rw [hx]
    unfold Builtin.Str.tooLong
    have : a.length * n.toNat ≤ sizeLine := szl h3
    exact decide_eq_false (by omega)
  · by_cases hn : n < 1
    · rw [if_pos hn]
      have e : n.toNat = 0 := by omega
      refine ⟨by decide, fin _ _ _ ?_ (I.tok _)⟩
      rw [e]; rfl
    · rw [if_neg hn]
      by_cases c : (n == 1 || (tx a).length == 0) = true
      · rw [if_pos c]
        refine fin _ _ _ ?_ I
        rcases Bool.or_eq_true_iff.mp c with c | c
        · have e : n = 1 := eq_of_beq c
          rw [e]
          show tx a = tx (List.replicate 1 a).flatten
          simp
        · have e : a = [] := by
            rw [hx] at c
            exact List.length_eq_zero_iff.mp (eq_of_beq c)
          rw [e]
          simp
      · rw [if_neg c]
        have e : (⟨(List.replicate n.toNat (tx a).cps).foldl (· ++ ·) #[]⟩ : Str) = tx (List.replicate n.toNat a).flatten := by
          rw [rep_cps]
          simp [tx]
        refine ⟨?_, fin _ _ _ e (I.tok _)⟩
        rw [e, tx_len, len]
        exact szl h3
theorem op_ltS : OpR X (compareOp .Lt) rTLt := by
  intro pins s σ H x y v u Q I rx ry h
  obtain ⟨a, b, rfl, rfl, q⟩ := h
  exact op_lt_str pins s σ H _ _ v u Q I rx ry ⟨tx a, tx b, rfl, rfl, by simpa using q⟩
/-- text[::-1] -/
def tRevS (te : TE) : TE := fun σ H Q => te σ H fun x H1 => ∃ l : List Nat, x = .str (tx l) ∧ l.length ≤ 1000000 ∧ Q (.str (tx l.reverse)) H1
theorem pe_revS {e : Expr} {te : TE} {k : Nat} {p1 p2 p3 pos : PySem.Pos} (he : PE X e te) : PE X (.Subscript e (.Slice none none (some (.UnaryOp .USub (.Constant (.int 1) k p1) p2)) p3) pos) (tRevS te) := by
  refine ⟨fun pins s σ H Q I h => ?_⟩
  refine PyProof.Rows.Subscript_ (thn (he.run pins s σ H _ I h) fun v s1 ⟨x, H1, I1, r1, l, ex, hl, q⟩ => ?_)
  subst ex
  obtain ⟨t, rfl⟩ := r1
  have hst : PO X (some (.UnaryOp .USub (.Constant (.int 1) k p1) p2)) (tPart (tUn (rU fun i => .int (-i)) (tC (.int 1)))) := po_some (pe_un un_neg pe_int)
  refine wpAny_Slice (thn (po_none.run pins s1 σ H1 (fun o H2 => o = none ∧ H2 = H1) I1 ⟨rfl, rfl⟩) fun vl s2 ⟨o1, H2, I2, w1, e1, e2⟩ => ?_)
  subst e1 e2
  refine thn (po_none.run pins s2 σ H2 (fun o H3 => o = none ∧ H3 = H2) I2 ⟨rfl, rfl⟩) fun vu s3 ⟨o2, H3, I3, w2, e3, e4⟩ => ?_
  subst e3 e4
  refine thn (hst.run pins s3 σ H3 (fun o H4 => o = some (-1) ∧ H4 = H3) I3 ⟨1, rfl, -1, rfl, rfl, rfl⟩) fun vs s4 ⟨o3, H4, I4, w3, e5, e6⟩ => ?_
  subst e5 e6
  obtain ⟨l1, rfl, m1⟩ := IsPart.raw w1
  obtain ⟨l2, rfl, m2⟩ := IsPart.raw w2
  obtain ⟨l3, rfl, m3⟩ := IsPart.raw w3
  have I5 : Inv X pins σ H4 { s4 with heap := s4.heap.push { cls := .type "slice", data := .fields #[partValue l1, partValue l2, partValue l3] } } := I4.kept (t' := s4.toks) fun b ob q => Heap.get?_push_of_some _ q
  show wpAny (model X.prog X.w) X.A (PyProof.Rows.subscriptTail e (.Slice none none (some (.UnaryOp .USub (.Constant (.int 1) k p1) p2)) p3) (.str (tx l) t) (.ref s4.heap.objs.size)) (EP X pins σ Q) X.xe _
  refine PyProof.Rows.tail_any (ops := [.str (tx l) t, .ref s4.heap.objs.size]) (typeIs_str _ _ _) F.slot_str_getitem.lookup ?_ (by with_unfolding_all rfl)
  refine wpAny_getItem_str_slice (l := l1) (u := l2) (st := l3) ⟨_, Heap.get?_push_size _ rfl, rfl, rfl⟩ (by rw [m3]; rfl) ?_
  unfold sliceMade slicePicked
  rw [m1, m2, m3]
  have e : (⟨((Builtin.Str.strSliceIndices none none ((some (-1 : Int)).getD 1) (tx l).length).filterMap ((tx l).cps[·]?)).toArray⟩ : Str) = tx l.reverse := by
    show (⟨((Builtin.Str.strSliceIndices none none (-1) (tx l).length).filterMap ((tx l).cps[·]?)).toArray⟩ : Str) = tx l.reverse
    rw [PyProof.Rows.picked_rev, tx_len, PySem.W.krv_range]
    have k2 := PySem.W.krv_all (tx l).cps
    rw [show (tx l).cps.size = l.length from tx_len l] at k2
    rw [List.filterMap_reverse, k2]
  rw [e]
  rw [if_neg (by simp)]
  refine ⟨?_, .str (tx l.reverse), H4, I5.tok _, ⟨_, rfl⟩, q⟩
  rw [tx_len, List.length_reverse]
  exact szl hl
end
section
variable {σ : St} {H : Hp} {Q : VK}
theorem v_addS {a b : List Nat} (h : a.length + b.length ≤ 1000000) (q : Q (.str (tx (a ++ b))) H) : rTAdd (.str (tx a)) (.str (tx b)) H Q := ⟨a, b, rfl, rfl, h, q⟩
theorem v_mulS {a : List Nat} {n : Int} (h1 : n < 1000000) (h2 : -1000000 < n) (h : a.length * n.toNat ≤ 1000000) (q : Q (.str (tx (List.replicate n.toNat a).flatten)) H) : rTMul (.str (tx a)) (.int n) H Q := ⟨a, n, rfl, rfl, h1, h2, h, q⟩
theorem v_ltS {a b : List Nat} (q : Q (.bl (decide (a < b))) H) : rTLt (.str (tx a)) (.str (tx b)) H Q := ⟨a, b, rfl, rfl, q⟩
theorem e_revS {te : TE} (q : te σ H fun x H1 => ∃ l : List Nat, x = .str (tx l) ∧ l.length ≤ 1000000 ∧ Q (.str (tx l.reverse)) H1) : tRevS te σ H Q := q
theorem v_revS {l : List Nat} {P : List Nat → Prop} (h : l.length ≤ 1000000) (q : P l) : ∃ l' : List Nat, V.str (tx l) = .str (tx l') ∧ l'.length ≤ 1000000 ∧ P l' := ⟨l, rfl, h, q⟩
end
end Cw
set_option Elab.async false
set_option linter.all false
set_option maxRecDepth 100000
set_option maxHeartbeats 4000000
namespace Cw
open PySem PySem.Spec L2
/-! ### constants and globals -/
section
variable {X : Cx} {x : Str} {pos : PySem.Pos} {j : Nat}
theorem pe_tx {kd : _} (l : List Nat) (h : x = tx l) : PE X (.Constant (.str x) kd pos) (tC (.str (tx l))) := by
  rw [h]
  exact pe_str
theorem pe_globS {z : Str} (h : ∃ t, X.mg x = some (.str z t)) (hg : Gl X x := by rfl) (hd : (x == ("__debug__" : Str)) = false := by decide) : PE X (.Name x pos) (tC (.str z)) := by
  obtain ⟨t, h⟩ := h
  exact pe_glob hg h ⟨t, rfl⟩ hd
theorem pe_globI {z : Int} (h : ∃ t, X.mg x = some (.int z t)) (hg : Gl X x := by rfl) (hd : (x == ("__debug__" : Str)) = false := by decide) : PE X (.Name x pos) (tC (.int z)) := by
  obtain ⟨t, h⟩ := h
  exact pe_glob hg h ⟨t, rfl⟩ hd
/-- a class of one's own as a value -/
theorem pe_globC {C : Addr} (h : X.mg x = some (.ref C)) (hg : Gl X x := by rfl) (hd : (x == ("__debug__" : Str)) = false := by decide) : PE X (.Name x pos) (tC (.ref C)) := pe_glob hg h rfl hd
end
/-! ### slices of texts -/
theorem sl_S {X : Cx} : SlR X rSlS := sl_str
section
variable {σ : St} {H : Hp} {Q : VK} {te : TE} {tl th : TO} {K : PySem.W.Frag}
theorem e_sl {r : V → Option Int → Option Int → Hp → VK → Prop} (q : te σ H fun x H1 => tl σ H1 fun l H2 => th σ H2 fun u H3 => r x l u H3 Q) : tSl r te tl th σ H Q := q
theorem e_nopart {Q : Option Int → Hp → Prop} (q : Q none H) : tNoPart σ H Q := q
theorem e_part {Q : Option Int → Hp → Prop} (q : te σ H fun x H1 => ∃ i, x = .int i ∧ Q (some i) H1) : tPart te σ H Q := q
theorem cut_to (l : List Nat) {n : Int} (h : 0 ≤ n) : cutS (tx l) none (some n) = tx (l.take n.toNat) := by
  unfold cutS
  rw [tx_len]
  show (⟨((l.toArray.toList.drop 0).take ((if n < 0 then _ else min n.toNat l.length) - 0)).toArray⟩ : Str) = _
  rw [if_neg (by omega)]
  simp only [List.drop_zero, Nat.sub_zero]
  rw [← List.take_take]
  simp
theorem cut_from (l : List Nat) {n : Int} (h : 0 ≤ n) : cutS (tx l) (some n) none = tx (l.drop n.toNat) := by
  unfold cutS
  rw [tx_len]
  show (⟨((l.toArray.toList.drop (if n < 0 then _ else min n.toNat l.length)).take (l.length - (if n < 0 then _ else min n.toNat l.length))).toArray⟩ : Str) = _
  rw [if_neg (by omega)]
  have e : (l.drop (min n.toNat l.length)) = l.drop n.toNat := by
    by_cases hl : n.toNat ≤ l.length
    · rw [Nat.min_eq_left hl]
    · rw [Nat.min_eq_right (by omega), List.drop_of_length_le (by omega), List.drop_of_length_le (by omega)]
  simp only
  rw [e, List.take_of_length_le (by rw [List.length_drop]; omega)]
theorem v_slTo {l : List Nat} {n : Int} (hl : l.length ≤ 1000000) (h : 0 ≤ n) (q : Q (.str (tx (l.take n.toNat))) H) : rSlS (.str (tx l)) none (some n) H Q := ⟨tx l, rfl, by rw [tx_len]; exact szl hl, by rw [cut_to l h]; exact q⟩
theorem v_slFrom {l : List Nat} {n : Int} (hl : l.length ≤ 1000000) (h : 0 ≤ n) (q : Q (.str (tx (l.drop n.toNat))) H) : rSlS (.str (tx l)) (some n) none H Q := ⟨tx l, rfl, by rw [tx_len]; exact szl hl, by rw [cut_from l h]; exact q⟩
end
/-! ### join -/
def rJoinT (K : PySem.W.Frag) : V → List V → Hp → VK → Prop := fun x xs H Q => ∃ (p : Addr) (ls : List (List Nat)), x = .str (tx []) ∧ xs = [.ref p] ∧ (SqL K H p (ls.map fun l => V.str (tx l)) ∨ SqT K H p (ls.map fun l => V.str (tx l))) ∧ ls.flatten.length ≤ 1000000 ∧ Q (.str (tx ls.flatten)) H
theorem join_empty (ls : List (List Nat)) : Txt.join (tx []) (ls.map tx) = tx ls.flatten := by
  have e : ∀ ls : List (List Nat), TL.joinL [] ls = ls.flatten := by
    intro ls
    induction ls with
    | nil => rfl
    | cons p r ih =>
      cases r with
      | nil => simp [TL.joinL]
      | cons q r =>
        show p ++ ([] ++ TL.joinL [] (q :: r)) = _
        rw [ih]
        simp
  have h := TL.tl_join (tx []) (ls.map tx)
  have h2 : (Str.join (tx []) (ls.map tx)).cps.toList = ls.flatten := by
    refine Eq.trans h ?_
    show TL.joinL [] ((ls.map tx).map TL.tl) = _
    rw [List.map_map, e]
    congr 1
    have : (TL.tl ∘ tx) = id := by
      funext l
      show (tx l).cps.toList = l
      simp
    rw [this, List.map_id]
  have g : Txt.join (tx []) (ls.map tx) = Str.join (tx []) (ls.map tx) := by
    show Builtin.Str.glued _ _ = _
    rw [StrLaws.glued_eq_join]
  rw [g, tx_eq (z := Str.join (tx []) (ls.map tx)), h2]
section
variable {X : Cx} {o e : Expr} {to te : TE}
theorem mt_joinT : MtR X "str.join" (rJoinT X.K) := by
  intro pins s σ H x xs v us Q I rx rs h
  obtain ⟨p, ls, rfl, rfl, hp, hl, q⟩ := h
  refine mt_join pins s σ H _ _ v us Q I rx rs ⟨tx [], p, ls.map tx, rfl, rfl, ?_, ?_, ?_⟩
  · simpa [List.map_map, Function.comp_def] using hp
  · have e : ((ls.map tx).map (·.length)).sum = ls.flatten.length := by
      rw [List.map_map, List.length_flatten]
      exact congrArg List.sum (List.map_congr_left fun l _ => tx_len l)
    rw [e]
    have e0 : (tx []).length = 0 := rfl
    rw [e0]
    omega
  · rw [join_empty]
    exact q
theorem pe_joinT {apos pos : PySem.Pos} (ho : PE X o to) (he : PE X e te) (hs : starEach [e] X.env = [(false, eval e X.env)] := by rfl) (hbase : attributeBase o "join" X.env (eval o X.env) = eval o X.env := by rfl) (hline : (apos.endLine == pos.line) = true := by rfl) :
    PE X (.Call (.Attribute o "join" apos) [e] [] pos) (tM1 (rJoinT X.K) to te) := pe_m1 F.slot_str_join F.type_str_join mt_joinT ho he hs hbase hline
end
section
variable {σ : St} {H : Hp} {Q : VK} {to te : TE} {K : PySem.W.Frag}
theorem e_m1 {r : V → List V → Hp → VK → Prop} (q : to σ H fun x H1 => (∃ a, x = .str a) ∧ te σ H1 fun y H2 => r x [y] H2 Q) : tM1 r to te σ H Q := q
theorem v_isS {a : Str} {P : Prop} (q : P) : (∃ b, V.str a = .str b) ∧ P := ⟨⟨a, rfl⟩, q⟩
theorem v_join {p : Addr} {ls : List (List Nat)} (h : H p = some (.lst (ls.map fun l => V.str (tx l)))) (hl : ls.flatten.length ≤ 1000000) (q : Q (.str (tx ls.flatten)) H) : rJoinT K (.str (tx [])) [.ref p] H Q := ⟨p, ls, rfl, rfl, .inl (SqL.of h), hl, q⟩
/-! ### membership -/
theorem v_inS {c : Nat} {l : List Nat} (q : Q (.bl (decide (c ∈ l))) H) : rInS (.str (tx [c])) (.str (tx l)) H Q := ⟨c, tx l, rfl, rfl, by simpa using q⟩
theorem v_notInS {c : Nat} {l : List Nat} (q : Q (.bl (!decide (c ∈ l))) H) : rNotInS (.str (tx [c])) (.str (tx l)) H Q := ⟨c, tx l, rfl, rfl, by simpa using q⟩
theorem inV_tx {x : List Nat} : ∀ {ls : List (List Nat)}, inV (.str (tx x)) (ls.map fun l => V.str (tx l)) = decide (x ∈ ls)
  | [] => by simp [inV]
  | l :: r => by
    have ih := inV_tx (x := x) (ls := r)
    unfold inV at ih ⊢
    rw [List.map_cons, List.any_cons, ih]
    by_cases e : l = x
    · subst e
      simp [eqV]
    · have e2 : ¬ tx l = tx x := fun z => e (tx_inj.mp z)
      have e3 : ¬ x = l := fun z => e z.symm
      simp [eqV, e2, e3]
theorem flat_tx (ls : List (List Nat)) : (ls.map fun l => V.str (tx l)).all flatV = true := by
  rw [List.all_map]
  exact List.all_eq_true.mpr fun _ _ => rfl
theorem v_inL {x : List Nat} {ls : List (List Nat)} {p : Addr} (h : H p = some (.lst (ls.map fun l => V.str (tx l)))) (q : Q (.bl (decide (x ∈ ls))) H) : rIn K false (.str (tx x)) (.ref p) H Q :=
  ⟨p, _, rfl, .inl (SqL.of h), rfl, flat_tx ls, by rw [inV_tx]; exact q⟩
theorem v_inT {x : List Nat} {ls : List (List Nat)} {p : Addr} (h : SqT K H p (ls.map fun l => V.str (tx l))) (q : Q (.bl (decide (x ∈ ls))) H) : rIn K false (.str (tx x)) (.ref p) H Q :=
  ⟨p, _, rfl, .inr h, rfl, flat_tx ls, by rw [inV_tx]; exact q⟩
end
/-! ### comprehensions -/
theorem wipe1 {σ : St} {i : Nat} {x : Option V} : wipe ((wipe σ [i]).set i x) [i] = wipe σ [i] := by
  show (((σ.set i none).set i x).set i none) = σ.set i none
  rw [List.set_set, List.set_set]
section
variable {σ : St} {H : Hp} {Q : VK} {wi : TI} {g : TG} {tt : TT} {te t0 : TE} {i : Nat} {K : PySem.W.Frag}
/-- what a comprehension's new list is, item by item: Y tells the turn's items -/
theorem lc_gen {P : Addr → Hp → Prop} {J : It} {n : Nat} {G : Hp → Prop} {it : Nat → V} {b : Nat → Bool} {f : Nat → V} (w : Walk J n G (fun k H x H' => H' = H ∧ x = it k)) (hG : ∀ H', Same H H' → G H') (hn : n ≤ 1000000)
    (ht : ∀ k, k < n → ∀ H1, Same H H1 → ∀ R : Bool → Hp → Prop, (∀ H2, Same H1 H2 → R (b k) H2) → tt ((wipe σ [i]).set i (some (it k))) H1 R)
    (he : ∀ k, k < n → b k = true → ∀ H1, Same H H1 → ∀ R : VK, (∀ H2, Same H1 H2 → R (f k) H2) → te ((wipe σ [i]).set i (some (it k))) H1 R)
    (q : ∀ D H', H D = none → Same H H' → H' D = some (.lst (((List.range n).filter b).map f)) → P D H') :
    ∀ D, H D = none → ∃ W : Nat → Nat → Hp → Prop, (∃ m, W 0 m (upd H D (.lst []))) ∧ ∀ k m H, W k m H →
      (J.stop k H ∧ P D H) ∨ (J.go k H ∧ ∃ Nx : Hp → Prop, (∀ H', Nx H' → ∃ m', m' < m ∧ W (k + 1) m' H') ∧ ∀ x H', J.yld k H x H' → (gName i) x (wipe σ [i]) H' fun s2 H2 => wipe s2 [i] = wipe σ [i] ∧ tt s2 H2 fun c H3 =>
        if c = true then te s2 H3 fun y H4 => ∃ acc, H4 D = some (.lst acc) ∧ acc.length < sizeLine ∧ Nx (upd H4 D (.lst (acc ++ [y]))) else Nx H3) := by
  intro D hD
  refine lc_it w (vs := [i]) (σ := σ) (g := gName i) (tt := tt) (te := te) (Qd := fun H' => P D H') (fun k H' => Same H H' ∧ H' D = some (.lst (((List.range k).filter b).map f)))
    ⟨Same.new hD, upd_same⟩ (fun k H' _ p => hG H' p.1) (fun k x H1 H2 hk p y => ?_) (fun H' p => q D H' hD p.1 p.2)
  obtain ⟨p1, p2⟩ := p
  obtain ⟨rfl, rfl⟩ := y
  refine ⟨wipe1, ht k hk _ p1 _ fun H3 s3 => ?_⟩
  have e1 : (List.range (k + 1)).filter b = (List.range k).filter b ++ (if b k = true then [k] else []) := by
    rw [List.range_succ, List.filter_append]
    congr 1
    by_cases c : b k = true
    · simp [c]
    · simp [c]
  by_cases c : b k = true
  · rw [if_pos c]
    refine he k hk c _ (p1.trans s3) _ fun H4 s4 => ?_
    refine ⟨_, s4 _ _ (s3 _ _ p2), ?_, fun a o ha => ?_, ?_⟩
    · rw [List.length_map]
      have h1 := List.length_filter_le b (List.range k)
      rw [List.length_range] at h1
      exact szlt (by omega)
    · rw [upd_ne (ne_of_none ha hD)]
      exact s4 _ _ (s3 _ _ (p1 _ _ ha))
    · rw [upd_same, e1, if_pos c, List.map_append]
      rfl
  · rw [if_neg c]
    refine ⟨p1.trans s3, ?_⟩
    rw [e1, if_neg c, List.append_nil]
    exact s3 _ _ p2
theorem e_lc {vs : List Nat} (q : wi σ H fun J H1 => ∀ D, H1 D = none → ∃ W : Nat → Nat → Hp → Prop, (∃ m, W 0 m (upd H1 D (.lst []))) ∧ ∀ i m H, W i m H →
    (J.stop i H ∧ Q (.ref D) H) ∨ (J.go i H ∧ ∃ Nx : Hp → Prop, (∀ H', Nx H' → ∃ m', m' < m ∧ W (i + 1) m' H') ∧ ∀ x H', J.yld i H x H' → g x (wipe σ vs) H' fun s2 H2 => wipe s2 vs = wipe σ vs ∧ tt s2 H2 fun b H3 =>
      if b = true then te s2 H3 fun y H4 => ∃ acc, H4 D = some (.lst acc) ∧ acc.length < sizeLine ∧ Nx (upd H4 D (.lst (acc ++ [y]))) else Nx H3)) : tLc wi g tt te vs σ H Q := q
theorem range_map {α : Type} (l : List Nat) (b : Nat → Bool) (f : Nat → α) : ((List.range l.length).filter fun k => b (l.getD k 0)).map (fun k => f (l.getD k 0)) = (l.filter b).map f := by
  have e : l = (List.range l.length).map fun k => l.getD k 0 := by
    apply List.ext_getElem
    · simp
    · intro j h1 h2
      simp [List.getD, h1]
  conv => rhs; rw [e, List.filter_map, List.map_map]
  rfl
/-- [e for c in text if t] -/
theorem v_lcS {P : Addr → Hp → Prop} {l : List Nat} {b : Nat → Bool} {f : Nat → V} (hn : l.length ≤ 1000000)
    (ht : ∀ c, c ∈ l → ∀ H1, Same H H1 → ∀ R : Bool → Hp → Prop, (∀ H2, Same H1 H2 → R (b c) H2) → tt ((wipe σ [i]).set i (some (.str (tx [c])))) H1 R)
    (he : ∀ c, c ∈ l → b c = true → ∀ H1, Same H H1 → ∀ R : VK, (∀ H2, Same H1 H2 → R (f c) H2) → te ((wipe σ [i]).set i (some (.str (tx [c])))) H1 R)
    (q : ∀ D H', H D = none → Same H H' → H' D = some (.lst ((l.filter b).map f)) → P D H') :
    ∀ D, H D = none → ∃ W : Nat → Nat → Hp → Prop, (∃ m, W 0 m (upd H D (.lst []))) ∧ ∀ k m H, W k m H →
      ((Its (tx l)).stop k H ∧ P D H) ∨ ((Its (tx l)).go k H ∧ ∃ Nx : Hp → Prop, (∀ H', Nx H' → ∃ m', m' < m ∧ W (k + 1) m' H') ∧ ∀ x H', (Its (tx l)).yld k H x H' → (gName i) x (wipe σ [i]) H' fun s2 H2 => wipe s2 [i] = wipe σ [i] ∧ tt s2 H2 fun c H3 =>
        if c = true then te s2 H3 fun y H4 => ∃ acc, H4 D = some (.lst acc) ∧ acc.length < sizeLine ∧ Nx (upd H4 D (.lst (acc ++ [y]))) else Nx H3) := by
  have mem : ∀ k, k < l.length → l.getD k 0 ∈ l := fun k hk => by
    rw [List.getD_eq_getElem?_getD, List.getElem?_eq_getElem hk]
    exact List.getElem_mem hk
  have w : Walk (Its (tx l)) l.length (fun _ => True) (fun k H x H' => H' = H ∧ x = .str (tx [l.getD k 0])) := by
    refine ⟨fun k H hk _ => by show k < (tx l).cps.size; simpa using hk, fun H _ => by show (tx l).cps.size ≤ l.length; simp, fun k H x H' hk _ y => ?_⟩
    obtain ⟨e, c, hc, rfl⟩ := y
    refine ⟨e, ?_⟩
    have hc : l[k]? = some c := by simpa using hc
    rw [List.getD_eq_getElem?_getD, hc]
    rfl
  refine lc_gen (b := fun k => b (l.getD k 0)) (f := fun k => f (l.getD k 0)) w (fun _ _ => trivial) hn (fun k hk H1 s1 R r => ht _ (mem k hk) H1 s1 R r) (fun k hk c H1 s1 R r => he _ (mem k hk) c H1 s1 R r) (fun D H' hD s' e => q D H' hD s' ?_)
  rw [e, range_map]
end
end Cw
set_option Elab.async false
set_option linter.all false
set_option maxRecDepth 100000
set_option maxHeartbeats 4000000
namespace Cw
open PySem PySem.Spec L2
/-! ### a comprehension of two fors over texts -/
theorem lc_in {J : It} {n : Nat} {G : Hp → Prop} {Y : Nat → Hp → V → Hp → Prop} (w : Walk J n G Y) {g : TG} {tt : TT} {te : TE} {vs : List Nat} {σ : St} {H1 : Hp} {D : Addr} {Qd : Hp → Prop} (Pv : Nat → Hp → Prop) (h0 : Pv 0 H1) (hG : ∀ i H, i ≤ n → Pv i H → G H)
    (hs : ∀ i x H H', i < n → Pv i H → Y i H x H' → g x (wipe σ vs) H' fun s2 H2 => wipe s2 vs = wipe σ vs ∧ tt s2 H2 fun b H3 =>
      if b = true then te s2 H3 fun y H4 => ∃ acc, H4 D = some (.lst acc) ∧ acc.length < sizeLine ∧ Pv (i + 1) (upd H4 D (.lst (acc ++ [y]))) else Pv (i + 1) H3) (hd : ∀ H, Pv n H → Qd H) :
    ∃ W : Nat → Nat → Hp → Prop, (∃ m, W 0 m H1) ∧ ∀ i m H, W i m H →
      (J.stop i H ∧ Qd H) ∨ (J.go i H ∧ ∃ Nx : Hp → Prop, (∀ H', Nx H' → ∃ m', m' < m ∧ W (i + 1) m' H') ∧ ∀ x H', J.yld i H x H' → g x (wipe σ vs) H' fun s2 H2 => wipe s2 vs = wipe σ vs ∧ tt s2 H2 fun b H3 =>
        if b = true then te s2 H3 fun y H4 => ∃ acc, H4 D = some (.lst acc) ∧ acc.length < sizeLine ∧ Nx (upd H4 D (.lst (acc ++ [y]))) else Nx H3) := by
  refine ⟨fun i m H => m = n - i ∧ i ≤ n ∧ Pv i H, ⟨n, rfl, Nat.zero_le _, h0⟩, ?_⟩
  rintro i m H ⟨rfl, hi, p⟩
  by_cases c : i < n
  · exact Or.inr ⟨w.goes i H c (hG i H hi p), Pv (i + 1), fun H' p' => ⟨_, by omega, rfl, c, p'⟩, fun x H' y => hs i x H H' c p (w.yields i H x H' c (hG i H hi p) y)⟩
  · have e : i = n := by omega
    rw [e] at p ⊢
    exact Or.inl ⟨w.stops H (hG n H (Nat.le_refl _) p), hd H p⟩
theorem walk_tx (l : List Nat) : Walk (Its (tx l)) l.length (fun _ => True) (fun k H x H' => H' = H ∧ x = .str (tx [l.getD k 0])) := by
  refine ⟨fun k H hk _ => by show k < (tx l).cps.size; simpa using hk, fun H _ => by show (tx l).cps.size ≤ l.length; simp, fun k H x H' hk _ y => ?_⟩
  obtain ⟨e, c, hc, rfl⟩ := y
  refine ⟨e, ?_⟩
  have hc : l[k]? = some c := by simpa using hc
  rw [List.getD_eq_getElem?_getD, hc]
  rfl
theorem getD_mem {l : List Nat} {k : Nat} (hk : k < l.length) : l.getD k 0 ∈ l := by
  rw [List.getD_eq_getElem?_getD, List.getElem?_eq_getElem hk]
  exact List.getElem_mem hk
theorem take_getD {l : List Nat} {k : Nat} (hk : k < l.length) : l.take (k + 1) = l.take k ++ [l.getD k 0] := by
  rw [List.take_add_one, List.getD_eq_getElem?_getD, List.getElem?_eq_getElem hk]
  rfl
section
variable {σ : St} {H : Hp} {Q : VK} {tt1 : TT} {te t1 : TE} {i j : Nat}
theorem v_lc2S {la lb : List Nat} {b : Nat → Nat → Bool} {f : Nat → Nat → V} (hij : i ≠ j) (hsz : la.length * lb.length < 1000000)
    (h1 : ∀ c, c ∈ la → ∀ H1, Same H H1 → ∀ R : VK, R (.str (tx lb)) H1 → t1 (((σ.set j none).set i none).set i (some (.str (tx [c])))) H1 R)
    (ht : ∀ c d, c ∈ la → d ∈ lb → ∀ H1, Same H H1 → ∀ R : Bool → Hp → Prop, (∀ H2, Same H1 H2 → R (b c d) H2) → tt1 (((((σ.set j none).set i none).set i (some (.str (tx [c])))).set j none).set j (some (.str (tx [d])))) H1 R)
    (he : ∀ c d, c ∈ la → d ∈ lb → b c d = true → ∀ H1, Same H H1 → ∀ R : VK, (∀ H2, Same H1 H2 → R (f c d) H2) → te (((((σ.set j none).set i none).set i (some (.str (tx [c])))).set j none).set j (some (.str (tx [d])))) H1 R)
    (q : ∀ D H', H D = none → Same H H' → H' D = some (.lst (la.flatMap fun c => (lb.filter (b c)).map (f c))) → Q (.ref D) H') :
    tLc2 (iStr (tC (.str (tx la)))) (gName i) tYes (iStr t1) (gName j) tt1 te [i, j] [j] σ H Q := by
  refine ⟨tx la, rfl, fun D hD => ?_⟩
  have len : ∀ l : List Nat, (l.flatMap fun c => (lb.filter (b c)).map (f c)).length ≤ l.length * lb.length := by
    intro l
    induction l with
    | nil => simp
    | cons c r ih =>
      rw [List.flatMap_cons, List.length_append, List.length_map, List.length_cons, Nat.succ_mul]
      have := List.length_filter_le (b c) lb
      omega
  refine ⟨fun k m H' => m = la.length - k ∧ k ≤ la.length ∧ Same H H' ∧ H' D = some (.lst ((la.take k).flatMap fun c => (lb.filter (b c)).map (f c))), ⟨_, rfl, Nat.zero_le _, Same.new hD, upd_same⟩, ?_⟩
  rintro k m H1 ⟨rfl, hk, s1, e1⟩
  have w := walk_tx la
  by_cases c : k < la.length
  · refine Or.inr ⟨w.goes k H1 c trivial, fun H' => Same H H' ∧ H' D = some (.lst ((la.take (k + 1)).flatMap fun c => (lb.filter (b c)).map (f c))), fun H' p => ⟨_, by omega, rfl, c, p.1, p.2⟩, fun x H2 y => ?_⟩
    obtain ⟨rfl, rfl⟩ := w.yields k H1 x H2 c trivial y
    have hm := getD_mem c
    refine ⟨?_, ?_⟩
    · show ((((σ.set j none).set i none).set i _).set j none).set i none = (σ.set j none).set i none
      rw [List.set_comm _ _ hij.symm, List.set_set, List.set_set, List.set_comm _ _ hij, List.set_set]
    · unfold tYes
      refine iteT ?_
      refine h1 _ hm _ s1 _ ⟨tx lb, rfl, ?_⟩
      refine lc_in (walk_tx lb) (fun z H' => Same H H' ∧ H' D = some (.lst (((la.take k).flatMap fun c => (lb.filter (b c)).map (f c)) ++ ((lb.take z).filter (b (la.getD k 0))).map (f (la.getD k 0))))) ⟨s1, by simpa using e1⟩ (fun _ _ _ _ => trivial) ?_ ?_
      · rintro z x H3 H4 hz ⟨s3, e3⟩ ⟨rfl, rfl⟩
        have hm2 := getD_mem hz
        have et := take_getD hz
        refine ⟨?_, ht _ _ hm hm2 _ s3 _ fun H5 s5 => ?_⟩
        · exact wipe1
        · show (if b (la.getD k 0) (lb.getD z 0) = true then _ else _)
          by_cases cb : b (la.getD k 0) (lb.getD z 0) = true
          · rw [if_pos cb]
            refine he _ _ hm hm2 cb _ (s3.trans s5) _ fun H6 s6 => ⟨_, s6 _ _ (s5 _ _ e3), ?_, fun a o ha => ?_, ?_⟩
            · have n1 := len (la.take k)
              have n2 : ((lb.take z).filter (b (la.getD k 0))).length ≤ z := by
                have := List.length_filter_le (b (la.getD k 0)) (lb.take z)
                rw [List.length_take] at this
                omega
              rw [List.length_append, List.length_map]
              rw [List.length_take, Nat.min_eq_left (by omega)] at n1
              have n3 : k * lb.length + lb.length ≤ la.length * lb.length := by
                rw [← Nat.succ_mul]
                exact Nat.mul_le_mul_right _ c
              exact szlt (by omega)
            · rw [upd_ne (ne_of_none ha hD)]
              exact s6 _ _ (s5 _ _ (s3 _ _ ha))
            · rw [upd_same, et, List.filter_append, List.map_append, List.append_assoc, List.filter_cons, if_pos cb]
              rfl
          · rw [if_neg cb]
            refine ⟨s3.trans s5, ?_⟩
            rw [s5 _ _ e3, et, List.filter_append, List.filter_cons, if_neg cb, List.filter_nil, List.append_nil]
      · rintro H' ⟨s', e'⟩
        refine ⟨s', ?_⟩
        rw [e', take_getD c, List.flatMap_append, List.take_of_length_le (Nat.le_refl _)]
        simp
  · have e : k = la.length := by omega
    subst e
    refine Or.inl ⟨w.stops H1 trivial, q D H1 hD s1 ?_⟩
    rw [e1, List.take_of_length_le (Nat.le_refl _)]
end
end Cw
set_option Elab.async false
set_option linter.all false
set_option maxRecDepth 100000
set_option maxHeartbeats 4000000
/-! plain words about plans -/
namespace Cw
open PySem L2
def LET : List Nat := [97, 98, 99, 100, 101, 102, 103, 104, 105, 106, 107, 108, 109, 110, 111, 112, 113, 114, 115, 116, 117, 118, 119, 120, 121, 122]
def ascOf (l : List Nat) : List Nat := LET.filter fun c => decide (c ∈ l)
def pairsOf (found : List (List Nat)) : List (List Nat) := LET.flatMap fun a => (LET.filter fun b => decide ([a, b] ∈ found)).map fun b => [a, b]
def crossOf (ks : List Nat) (ps : List (List Nat)) (k : Nat) : List Nat := ks.filter fun o => decide ([k, o] ∈ ps) || decide ([o, k] ∈ ps)
/-- the pairs that a plan may be told by: two different kinds each -/
def PairsIn (ks : List Nat) (ps : List (List Nat)) : Prop := ∀ p ∈ ps, ∃ a b, p = [a, b] ∧ a ≠ b ∧ a ∈ ks ∧ b ∈ ks
def crossKV (ks : List Nat) (ps : List (List Nat)) (l : List Nat) : List (Key × V) := l.map fun k => (Sum.inr (tx [k]), V.str (tx (crossOf ks ps k)))
/-- a list of texts as values -/
abbrev strsV (ls : List (List Nat)) : List V := ls.map fun l => V.str (tx l)
theorem LET_lt {c : Nat} (h : c ∈ LET) : 97 ≤ c ∧ c < 123 := by
  unfold LET at h
  simp only [List.mem_cons, List.not_mem_nil, or_false] at h
  omega
theorem ascOf_mem {l : List Nat} {c : Nat} : c ∈ ascOf l ↔ c ∈ LET ∧ c ∈ l := by
  unfold ascOf
  rw [List.mem_filter, decide_eq_true_iff]
theorem ascOf_len (l : List Nat) : (ascOf l).length ≤ 26 := List.length_filter_le _ _
theorem LET_nodup : LET.Nodup := by decide
theorem ascOf_nodup (l : List Nat) : (ascOf l).Nodup := LET_nodup.filter _
theorem pairsOf_mem {f : List (List Nat)} {p : List Nat} : p ∈ pairsOf f ↔ ∃ a b, p = [a, b] ∧ a ∈ LET ∧ b ∈ LET ∧ [a, b] ∈ f := by
  unfold pairsOf
  simp only [List.mem_flatMap, List.mem_map, List.mem_filter, decide_eq_true_iff]
  constructor
  · rintro ⟨a, ha, b, ⟨hb, hf⟩, rfl⟩
    exact ⟨a, b, rfl, ha, hb, hf⟩
  · rintro ⟨a, b, rfl, ha, hb, hf⟩
    exact ⟨a, ha, b, ⟨hb, hf⟩, rfl⟩
theorem pairsOf_congr {f g : List (List Nat)} (h : ∀ a b, a ∈ LET → b ∈ LET → ([a, b] ∈ f ↔ [a, b] ∈ g)) : pairsOf f = pairsOf g := by
  unfold pairsOf
  have h2 : ∀ l : List Nat, (∀ a ∈ l, a ∈ LET) → (l.flatMap fun a => (LET.filter fun b => decide ([a, b] ∈ f)).map fun b => [a, b]) = (l.flatMap fun a => (LET.filter fun b => decide ([a, b] ∈ g)).map fun b => [a, b]) := by
    intro l
    induction l with
    | nil => intro _; rfl
    | cons c r ih =>
      intro hm
      rw [List.flatMap_cons, List.flatMap_cons, ih fun a ha => hm a (List.mem_cons_of_mem _ ha)]
      congr 2
      refine List.filter_congr fun b hb => ?_
      exact decide_eq_decide.mpr (h c b (hm c (List.mem_cons_self ..)) hb)
  exact h2 LET fun a ha => ha
theorem filter_yes {α : Type} (l : List α) : l.filter (fun _ => true) = l := List.filter_eq_self.mpr fun _ _ => rfl
theorem flat_ones (l : List Nat) : (l.map fun c => [c]).flatten = l := by
  induction l with
  | nil => rfl
  | cons c r ih => rw [List.map_cons, List.flatten_cons, ih]; rfl
theorem strs_ones (l : List Nat) : (l.map fun c => V.str (tx [c])) = strsV (l.map fun c => [c]) := by
  unfold strsV
  rw [List.map_map]
  rfl
theorem nodup_ones {l : List Nat} : (l.map fun c => tx [c]).Nodup ↔ l.Nodup := by
  induction l with
  | nil => simp
  | cons c r ih =>
    rw [List.map_cons, List.nodup_cons, List.nodup_cons, ih]
    refine and_congr_left fun _ => not_congr ?_
    rw [List.mem_map]
    constructor
    · rintro ⟨d, hd, e⟩
      have : [d] = [c] := tx_inj.mp e
      injection this with e _
      exact e ▸ hd
    · intro h
      exact ⟨c, h, rfl⟩
theorem metOf_ones (l : List Nat) : ((metOf (l.map fun c => tx [c])).length = l.length) ↔ l.Nodup := by
  by_cases h : l.Nodup
  · rw [metOf_nodup (nodup_ones.mpr h), List.length_map]
    exact ⟨fun _ => h, fun _ => rfl⟩
  · have := metOf_lt (fun n => h (nodup_ones.mp n))
    rw [List.length_map] at this
    exact ⟨fun e => by omega, fun n => absurd n h⟩
theorem crossOf_len (ks : List Nat) (ps : List (List Nat)) (k : Nat) : (crossOf ks ps k).length ≤ ks.length := List.length_filter_le _ _
section
variable {σ : L2.St} {H : Hp} {Q : VK} {te : TE} {K : PySem.W.Frag}
theorem e_iStr {R : It → Hp → Prop} (q : te σ H fun v H1 => ∃ x, v = .str x ∧ R (Its x) H1) : iStr te σ H R := q
theorem e_iL {R : It → Hp → Prop} (q : te σ H fun x H1 => ∃ a, x = .ref a ∧ (∃ xs, SqL K H1 a xs) ∧ R (Itl K a) H1) : iList K te σ H R := q
theorem v_iL {P : Addr → Prop} {a : Addr} {xs : List V} (h : H a = some (.lst xs)) (q : P a) : ∃ a', V.ref a = .ref a' ∧ (∃ xs, SqL K H a' xs) ∧ P a' := ⟨a, rfl, ⟨xs, SqL.of h⟩, q⟩
theorem e_iR1 {ta : TA} {R : It → Hp → Prop} (q : ta σ H fun vs H1 => ∃ j : Int, vs = [.int j] ∧ -(2 ^ 62) ≤ j ∧ j < 2 ^ 62 ∧ R (Itr 0 j.toNat) H1) : iRng1 ta σ H R := q
theorem v_iR1 {P : Int → Prop} {j : Int} (h1 : -1000000 ≤ j) (h2 : j < 1000000) (q : P j) : ∃ j' : Int, [V.int j] = [.int j'] ∧ -(2 ^ 62) ≤ j' ∧ j' < 2 ^ 62 ∧ P j' := ⟨j, rfl, by omega, by omega, q⟩
theorem e_iR2 {ta : TA} {R : It → Hp → Prop} (q : ta σ H fun vs H1 => ∃ i j : Int, vs = [.int i, .int j] ∧ (-(2 ^ 62) ≤ i ∧ i < 2 ^ 62 ∧ -(2 ^ 62) ≤ j ∧ j < 2 ^ 62) ∧ R (Itr i (j - i).toNat) H1) : iRng2 ta σ H R := q
theorem v_iR2 {P : Int → Int → Prop} {i j : Int} (h1 : -1000000 ≤ i ∧ i < 1000000 ∧ -1000000 ≤ j ∧ j < 1000000) (q : P i j) : ∃ i' j' : Int, [V.int i, V.int j] = [.int i', .int j'] ∧ (-(2 ^ 62) ≤ i' ∧ i' < 2 ^ 62 ∧ -(2 ^ 62) ≤ j' ∧ j' < 2 ^ 62) ∧ P i' j' := ⟨i, j, rfl, by omega, q⟩
theorem e_for {wi : TI} {g : TG} {tb : TS} {D : Ends} (q : wi σ H fun J H1 => ∃ W : Nat → Nat → L2.St → Hp → Prop, (∃ m, W 0 m σ H1) ∧ ∀ i m σ H, W i m σ H →
    (J.stop i H ∧ D.nx σ H) ∨ (J.go i H ∧ ∃ N : L2.St → Hp → Prop, (∀ σ' H', N σ' H' → ∃ m', m' < m ∧ W (i + 1) m' σ' H') ∧ ∀ x H', J.yld i H x H' → g x σ H' fun s2 H2 => tb { D with nx := N, ct := N, bk := D.nx } s2 H2)) : tFor wi g tb D σ H := q
theorem iteNT {A B : Prop} (h : B) : if (!true) = true then A else B := by
  rw [if_neg (by decide)]
  exact h
theorem iteNF {A B : Prop} (h : A) : if (!false) = true then A else B := by
  rw [if_pos (by decide)]
  exact h
theorem e_yes {Q : Bool → Hp → Prop} (q : Q true H) : tYes σ H Q := q
theorem v_isiS {x : Str} (q : Q (.bl true) H) : rIsi K [.str x, .ty "str"] H Q := ⟨.str x, .ty "str", .type "str", .type "str", true, rfl, .ty "str", .base (.str x), kit_ty (by decide +kernel), q⟩
theorem v_all {p : Addr} {bs : List Bool} (h : H p = some (.lst (bs.map V.bl))) (q : Q (.bl (bs.all id)) H) : rAll K [.ref p] H Q := ⟨p, bs, rfl, SqL.of h, q⟩
theorem v_fld {P : V → Prop} {a C dx : Addr} {fs : List (Str × V)} {f : Str} {v : V} (h : H a = some (.ins C dx fs)) (c : Cls K C) (n : NoAttr K C f) (l : fs.lookup f = some v) (q : P v) : ∃ a' C dx fs v, V.ref a = .ref a' ∧ H a' = some (.ins C dx fs) ∧ Cls K C ∧ NoAttr K C f ∧ fs.lookup f = some v ∧ P v := ⟨a, C, dx, fs, v, rfl, h, c, n, l, q⟩
theorem e_sfld {ta tv : TE} {f : Str} {D : Ends} (q : tv σ H fun y H1 => ta σ H1 fun x H2 => ∃ a C dx fs, x = .ref a ∧ H2 a = some (.ins C dx fs) ∧ Cls K C ∧ NoAttr K C f ∧ fs.length < 1000 ∧ D.nx σ (upd H2 a (.ins C dx (putF f y fs)))) : sFld K ta tv f D σ H := q
theorem v_sfld {P : Hp → Prop} {a C dx : Addr} {fs : List (Str × V)} {f : Str} {y : V} (h : H a = some (.ins C dx fs)) (c : Cls K C) (n : NoAttr K C f) (l : fs.length < 1000) (q : ∀ H', Keep a H H' → H' a = some (.ins C dx (putF f y fs)) → P H') :
    ∃ a' C dx fs, V.ref a = .ref a' ∧ H a' = some (.ins C dx fs) ∧ Cls K C ∧ NoAttr K C f ∧ fs.length < 1000 ∧ P (upd H a' (.ins C dx (putF f y fs))) := ⟨a, C, dx, fs, rfl, h, c, n, l, q _ Keep.put upd_same⟩
/-- a class of the text -/
structure ClsF (K : PySem.W.Frag) (mg : Str → Option Value) (x : Str) (C : Addr) : Prop where
  «at» : mg x = some (.ref C)
  cl : Cls K C
  mks : PySem.W.makesIn K C = true
  kp : PySem.W.keepIn K (.ref C) = true
  ha : PySem.W.findIn K (.ref C) "__class__" = some (some (.builtin "object.__class__"))
  hn : PySem.W.specialIn K (.builtin "object.__class__") "__get__" = some (some (.builtin "getset_descriptor.__get__"))
  ht : PySem.W.takesIn K (.builtin "object.__class__") = some true
  hm : PySem.W.mroIn K C (.type "object") = some true
  ob : PySem.W.subIn K (.ref C) (.type "object") = some true
  ne : PySem.W.findIn K (.ref C) "__ne__" = some (some (.builtin "object.__ne__"))
theorem kit_same {C : Addr} : PySem.W.kitOne K (.ref C) (.ref C) = some true := by
  unfold PySem.W.kitOne
  rw [if_pos (by simp)]
theorem v_isiC {mg : Str → Option Value} {x : Str} {a C dx : Addr} {fs : List (Str × V)} (F : ClsF K mg x C) (h : H a = some (.ins C dx fs)) (q : Q (.bl true) H) : rIsi K [.ref a, .ref C] H Q :=
  ⟨.ref a, .ref C, .ref C, .ref C, true, rfl, .own C, .base (.ins h F.cl F.ha F.hn F.ht F.hm), kit_same, q⟩
theorem v_isiL {p t : Addr} {xs : List V} (h : H p = some (.lst xs)) (ht : H t = some (.tup [.ty "list", .ty "tuple"])) (q : Q (.bl true) H) : rIsiT K [.ref p, .ref t] H Q :=
  ⟨.ref p, t, _, .type "list", [.type "list", .type "tuple"], true, rfl, ht, .cons (.ty _) (.cons (.ty _) .nil), .base (.lst h), kitAny_cons (b := true) (kit_ty (by decide +kernel)) (fun z => nomatch z) (fun _ => rfl), q⟩
end
def rTuple (K : PySem.W.Frag) : List V → Hp → VK → Prop := fun xs H Q => ∃ p ys, xs = [.ref p] ∧ ((SqL K H p ys ∧ ∀ l, H l = none → Q (.ref l) (upd H l (.tup ys))) ∨ (SqT K H p ys ∧ Q (.ref p) H))
theorem c_tuple {X : Cx} : CallR X (.type "tuple") (rTuple X.K) := call_tuple_of
theorem v_tuple {K : PySem.W.Frag} {H : Hp} {Q : VK} {p : Addr} {ys : List V} (h : H p = some (.lst ys)) (q : ∀ l H', H l = none → Same H H' → H' l = some (.tup ys) → Q (.ref l) H') : rTuple K [.ref p] H Q :=
  ⟨p, ys, rfl, .inl ⟨SqL.of h, fun l hl => q l _ hl (Same.new hl) upd_same⟩⟩
def rList (K : PySem.W.Frag) : List V → Hp → VK → Prop := fun xs H Q => ∃ p ys, xs = [.ref p] ∧ (SqL K H p ys ∨ SqT K H p ys) ∧ ∀ l, H l = none → Q (.ref l) (upd H l (.lst ys))
theorem c_list {X : Cx} : CallR X (.type "list") (rList X.K) := call_list_of
theorem v_list {K : PySem.W.Frag} {H : Hp} {Q : VK} {p : Addr} {ys : List V} (h : SqL K H p ys) (q : ∀ l H', H l = none → Same H H' → H' l = some (.lst ys) → Q (.ref l) H') : rList K [.ref p] H Q :=
  ⟨p, ys, rfl, .inl h, fun l hl => q l _ hl (Same.new hl) upd_same⟩
section
variable {σ : L2.St} {H : Hp} {Q : VK} {K : PySem.W.Frag}
theorem e_bm {T : String} {r : V → List V → Hp → VK → Prop} {to : TE} {t : TA} (q : to σ H fun x H1 => tyV K T x H1 ∧ t σ H1 fun xs H2 => r x xs H2 Q) : tBM K T r to t σ H Q := q
theorem e_bm0 {T : String} {r : V → List V → Hp → VK → Prop} {to : TE} (q : to σ H fun x H1 => tyV K T x H1 ∧ r x [] H1 Q) : tBM0 K T r to σ H Q := q
theorem v_tyL {P : Prop} {p : Addr} {xs : List V} (h : H p = some (.lst xs)) (q : P) : tyV K "list" (.ref p) H ∧ P := ⟨.inl ⟨rfl, _, SqL.of h⟩, q⟩
theorem v_app {p : Addr} {xs : List V} {y : V} (h : H p = some (.lst xs)) (hl : xs.length < 1000000) (q : ∀ H', Keep p H H' → H' p = some (.lst (xs ++ [y])) → Q .non H') : rAppend (.ref p) [y] H Q :=
  ⟨p, xs, y, rfl, rfl, h, szlt hl, q _ Keep.put upd_same⟩
end
/-! ### rules with the written part named (in a comprehension's block too) -/
section
variable {X : Cx} {K : PySem.W.Frag}
theorem op_inLK (h : X.K = K) : OpR X (compareOp .In) (rIn K false) := h ▸ op_in_seq
theorem ix_LK (h : X.K = K) : IxR X (rIxL K) := h ▸ ix_list
theorem ix_TK (h : X.K = K) : IxR X (rIxT K) := h ▸ ix_tup
theorem pe_flK {e : Expr} {f : Str} {pos : PySem.Pos} {ta : TE} (h : X.K = K) (he : PE X e ta) (hb : attributeBase e f X.env (eval e X.env) = eval e X.env) : PE X (.Attribute e f pos) (tFld K ta f) := h ▸ pe_fld he hb
theorem ps_flK {o value : Expr} {f : Str} {pos pos' : PySem.Pos} {ta tv : TE} (h : X.K = K) (ha : PE X o ta) (hv : PE X value tv) (hs : swapsWith value (some (.Attribute o f pos')) pos.line X.env = pure false) : PS X (.Assign [.Attribute o f pos'] value pos) (sFld K ta tv f) := h ▸ ps_fld ha hv hs
theorem pe_joinK {o e : Expr} {to te : TE} {apos pos : PySem.Pos} (h : X.K = K) (ho : PE X o to) (he : PE X e te) (hs : starEach [e] X.env = [(false, eval e X.env)] := by rfl) (hbase : attributeBase o "join" X.env (eval o X.env) = eval o X.env := by rfl) (hline : (apos.endLine == pos.line) = true := by rfl) :
    PE X (.Call (.Attribute o "join" apos) [e] [] pos) (tM1 (rJoinT K) to te) := h ▸ pe_joinT ho he hs hbase hline
theorem c_lenK (h : X.K = K) : CallR X (.builtin "len") (rLen K) := h ▸ c_len
theorem c_isiK (h : X.K = K) : CallR X (.builtin "isinstance") (rIsi K) := h ▸ call_isi
theorem c_isiTK (h : X.K = K) : CallR X (.builtin "isinstance") (rIsiT K) := h ▸ call_isiT
theorem c_listK (h : X.K = K) : CallR X (.type "list") (rList K) := h ▸ c_list
theorem c_tupleK (h : X.K = K) : CallR X (.type "tuple") (rTuple K) := h ▸ c_tuple
theorem c_allK (h : X.K = K) (hc : X.calm = true) : CallR X (.builtin "all") (rAll K) := h ▸ cr_all hc
theorem sl_LK (h : X.K = K) : SlR X (rSlL K) := h ▸ sl_list
theorem op_eqDK (h : X.K = K) (hu : X.A.units + 64 < cLine) : OpR X (compareOp .Eq) (rEqD K) := h ▸ op_eqD hu
theorem op_neDK (h : X.K = K) (hu : X.A.units + 64 < cLine) : OpR X (compareOp .NotEq) (rNeD K) := h ▸ op_neD hu
theorem pi_listK {tg e : Expr} {te : TE} (h : X.K = K) (he : PE X e te) : PI X tg e (iList K te) := h ▸ pi_list he
theorem pi_tupK {tg e : Expr} {te : TE} (h : X.K = K) (he : PE X e te) : PI X tg e (iTup K te) := h ▸ pi_tup he
theorem pe_appK {o e : Expr} {to te : TE} {apos cpos : PySem.Pos} (h : X.K = K) (ho : PE X o to) (he : PE X e te) (hbase : attributeBase o "append" X.env (eval o X.env) = eval o X.env := by rfl)
    (hfew : ((backTo cpos (starEach [e] X.env)).all (fun x => !x.1) && (backToKw cpos (keywordEach [] X.env)).all (fun x => x.1.isSome) && decide ([e].length + ([] : List Keyword).length + (if ([] : List Keyword).isEmpty then 0 else 1) < 30)) = true := by rfl)
    (hline : (apos.endLine == cpos.line) = true := by rfl) (hs : starEach [e] X.env = (false, eval e X.env) :: starEach [] X.env := by rfl) (hplain : (backTo cpos (starEach [] X.env)).any (·.1) = false := by rfl) :
    PE X (.Call (.Attribute o "append" apos) [e] [] cpos) (tBM K "list" rAppend to (tCons te tNil)) := h ▸ pe_bm PySem.F.plainAttrs_list PySem.F.slot_list_append PySem.F.type_list_append mt_append ho (pa_cons he pa_nil hs) hbase hfew hline hs hplain
end
/-- two readings of one walk -/
def iOr (a b : TI) : TI := fun σ H R => a σ H R ∨ b σ H R
theorem pi_or {X : Cx} {tg e : Expr} {a b : TI} (h1 : PI X tg e a) (h2 : PI X tg e b) : PI X tg e (iOr a b) :=
  ⟨fun pos s σ H R I h => h.elim (h1.run pos s σ H R I) (h2.run pos s σ H R I)⟩
/-- a list or a tuple, or the empty tuple of the top -/
def SeqO (K : PySem.W.Frag) (H : Hp) (p : Addr) (xs : List V) : Prop := H p = some (.lst xs) ∨ H p = some (.tup xs) ∨ (xs = [] ∧ ∃ o n, K.lookup p = some o ∧ o.cls = .type "tuple" ∧ o.data = .seq #[] n)
section
variable {K : PySem.W.Frag} {H H' : Hp} {p x : Addr} {xs : List V}
theorem SeqO.go (h : SeqO K H p xs) (s : ∀ o, H p = some o → H' p = some o) : SeqO K H' p xs := h.imp (s _) (fun z => z.imp (s _) id)
theorem SeqO.same (h : SeqO K H p xs) (s : Same H H') : SeqO K H' p xs := h.go (s _)
theorem SeqO.keepI {C dx : Addr} {fs : List (Str × V)} (h : SeqO K H p xs) (s : Keep x H H') (hx : H x = some (.ins C dx fs)) : SeqO K H' p xs := by
  rcases h with h | h | h
  · exact .inl (s _ _ h (ne_of h hx (by intro z; cases z)))
  · exact .inr (.inl (s _ _ h (ne_of h hx (by intro z; cases z))))
  · exact .inr (.inr h)
theorem v_isiQ {Q : VK} {t : Addr} (h : SeqO K H p xs) (ht : H t = some (.tup [.ty "list", .ty "tuple"])) (q : Q (.bl true) H) : rIsiT K [.ref p, .ref t] H Q := by
  have key : TyX K H (.ref p) (.type "tuple") → rIsiT K [.ref p, .ref t] H Q := fun ty => ⟨.ref p, t, _, .type "tuple", [.type "list", .type "tuple"], true, rfl, ht, .cons (.ty _) (.cons (.ty _) .nil), ty, kitAny_cons (b := false) (kit_ty (by decide +kernel)) (fun _ => kitAny_cons (b := true) (kit_ty (by decide +kernel)) (fun z => nomatch z) (fun _ => rfl)) (fun z => nomatch z), q⟩
  rcases h with h | h | ⟨_, o, n, h, c, _⟩
  · exact v_isiL h ht q
  · exact key (.base (.tup h))
  · exact key (.kTuple h c)
/-- a for over a list or a tuple -/
theorem e_forSeq {te : TE} {g : TG} {tb : TS} {D : Ends} {σ : L2.St} {H0 : Hp} (hp : SeqO K H0 p xs) (s0 : Same H0 H) (ht : ∀ Q : VK, Q (.ref p) H → te σ H Q) (Pv : Nat → L2.St → Hp → Prop) (h0 : Pv 0 σ H) (hG : ∀ i σ' H', Pv i σ' H' → Same H0 H')
    (hs : ∀ i x σ H H', i < xs.length → Pv i σ H → YAt xs i H x H' → g x σ H' fun σ2 H2 => tb { D with nx := Pv (i + 1), ct := Pv (i + 1), bk := D.nx } σ2 H2) (hd : ∀ σ H, Pv xs.length σ H → D.nx σ H) : tFor (iOr (iList K te) (iTup K te)) g tb D σ H := by
  rcases hp with hp | hp | ⟨rfl, o, n, h, c, e⟩
  · exact Or.inl (ht _ ⟨p, rfl, ⟨xs, SqL.of (s0 _ _ hp)⟩, for_it walk_list Pv h0 (fun i σ' H' _ z => SqL.of (hG i σ' H' z _ _ hp)) hs hd⟩)
  · exact Or.inr (ht _ ⟨p, rfl, ⟨xs, SqT.of (s0 _ _ hp)⟩, for_it walk_tup Pv h0 (fun i σ' H' _ z => SqT.of (hG i σ' H' z _ _ hp)) hs hd⟩)
  · have k : ∀ H', SqT K H' p [] := fun H' => .inr ⟨o, #[], n, h, c, e, by decide, .nil⟩
    exact Or.inr (ht _ ⟨p, rfl, ⟨[], k _⟩, for_it walk_tup Pv h0 (fun i σ' H' _ z => k _) hs hd⟩)
end
theorem DPut.cross {H : Hp} {a : Addr} {kvs : List (Key × V)} {l : List Nat} {v : V} (e : H a = some (.dK kvs)) (hn : valV kvs (Sum.inr (tx l)) = none) (hl : kvs.length < 1000000) : DPut H a (.str (tx l)) v (upd H a (.dK (kvs ++ [(Sum.inr (tx l), v)]))) := by
  have h := DPut.k (k := Sum.inr (tx l)) (v := v) e (szlt hl)
  rw [putK_new v hn] at h
  exact h
theorem key_tx {a b : List Nat} : (Sum.inr (tx a) : Key) = Sum.inr (tx b) ↔ a = b := by
  constructor
  · intro h
    injection h with h
    exact tx_inj.mp h
  · intro h
    rw [h]
/-- a dict by letters -/
theorem letV_none {g : Nat → V} {k : Nat} : ∀ {l : List Nat}, ¬ k ∈ l → valV (l.map fun c => ((Sum.inr (tx [c]) : Key), g c)) (Sum.inr (tx [k])) = none
  | [], _ => rfl
  | c :: r, h => by
    rw [List.map_cons, valV_neg, letV_none fun z => h (List.mem_cons_of_mem _ z)]
    intro e
    have := key_tx.mp e
    injection this with e _
    exact h (e ▸ List.mem_cons_self ..)
theorem letV_some {g : Nat → V} {k : Nat} : ∀ {l : List Nat}, k ∈ l → valV (l.map fun c => ((Sum.inr (tx [c]) : Key), g c)) (Sum.inr (tx [k])) = some (g k)
  | [], h => by cases h
  | c :: r, h => by
    by_cases e : c = k
    · subst e
      rw [List.map_cons, valV_pos rfl]
    · rw [List.map_cons, valV_neg, letV_some ((List.mem_cons.mp h).resolve_left fun z => e z.symm)]
      intro z
      have := key_tx.mp z
      injection this with z _
      exact e z
theorem dget_let {H : Hp} {d : Addr} {g : Nat → V} {k : Nat} {l : List Nat} (h : H d = some (.dK (l.map fun c => ((Sum.inr (tx [c]) : Key), g c)))) (hk : k ∈ l) : DGet H d (.str (tx [k])) (some (g k)) := by
  have e := DGet.k (k := Sum.inr (tx [k])) h
  rw [letV_some hk] at e
  exact e
theorem take_notin {l : List Nat} (h : l.Nodup) {i : Nat} (hi : i < l.length) : ¬ l.getD i 0 ∈ l.take i := by
  intro m
  obtain ⟨j, hj, e⟩ := List.mem_iff_getElem.mp m
  rw [List.length_take] at hj
  rw [List.getElem_take, List.getD_eq_getElem?_getD, List.getElem?_eq_getElem hi] at e
  have := (List.getElem_inj h).mp e
  omega
end Cw
set_option Elab.async false
set_option linter.all false
set_option maxRecDepth 100000
set_option maxHeartbeats 4000000
/-! C(..) as a call with a promise of its own -/
namespace Cw
open PySem PySem.Spec L2
/-- from what a caller wants of C(..) to what __init__ promises -/
def Conv (C : Addr) (sp0 sp : Sp) : Prop := ∀ vs H Q E, sp vs H Q E → ∀ x dx, H x = none → H dx = none → dx ≠ x → sp0 (.ref x :: vs) (upd (upd H dx (.own x)) x (.ins C dx [])) (fun v H2 => v = .non ∧ Q (.ref x) H2) E
structure CDef (P : Program) (w : World) (K : PySem.W.Frag) (mg : Str → Option Value) (base : Heap) (CX : CXT) (k : Nat) (x : Str) (C : Addr) (sp : Sp) : Prop where
  ex : ∃ f fd ps sp0, mg x = some (.ref C) ∧ Mk K C f ∧ Binds K fd ps [] ∧ FnOk P w K mg base CX k f fd ps sp0 ∧ Conv C sp0 sp
section
variable {X : Cx} {CX : CXT} {k : Nat} {sp : Sp} {E : XK} {x : Str} {C : Addr} {p pos : PySem.Pos} {e : Expr} {es : List Expr} {t : TA}
theorem pe_mk (D : CDef X.prog X.w X.K X.mg X.base CX k x C sp) (hr : Room (k + 1) X.A) (hx : Passes CX X E) (ha : PA X (e :: es) t) (hg : Gl X x := by rfl) (hdb : (x == ("__debug__" : Str)) = false := by decide)
    (he : starEach (e :: es) X.env = (false, eval e X.env) :: starEach es X.env := by rfl) (hpl : (backTo pos (starEach es X.env)).any (·.1) = false := by rfl) : PE X (.Call (.Name x p) (e :: es) [] pos) (tCall sp [] E t) := by
  obtain ⟨f, fd, ps, sp0, hm, M, hb, F, cv⟩ := D.ex
  refine ⟨fun pins s σ H Q I h => ?_⟩
  refine wpAny_Call_Name_kw (ld_glob I hg hm ?_ hdb)
  refine PySem.W.callWith_K (h₀ := X.base) I.ok.mod.kin M.kp (thn (ha.run pos pins s σ H _ I h) fun us s1 ⟨vs, H1, I1, r, q⟩ => ⟨I1.kIn, ?_⟩) he hpl
  refine run_make M F hr hb .nil hx I1 r fun a da n1 n2 n3 => ?_
  have q : sp (vs ++ []) H1 Q E := q
  rw [List.append_nil] at q ⊢
  exact cv vs H1 Q E q a da n1 n2 n3
end
/-- a method with defaults, all parameters given -/
structure MAtD (K : PySem.W.Frag) (C : Addr) (m qual : Str) (st : Stmt) (dvs : List V) : Prop where
  ex : ∃ f fd, PySem.W.findIn K (.ref C) m = some (some (.ref f)) ∧ PySem.W.isFn K (.ref f) = true ∧ FunD K m qual (defArgs st) (defBody st) (defScope st) dvs [] f fd
section
variable {P : Program} {w : World} {K : PySem.W.Frag} {mg : Str → Option Value} {base : Heap} {CX : CXT} {k : Nat} {C : Addr} {x qual : Str} {ps N : List Str} {sp sp0 : Sp} {st : Stmt} {dvs : List V}
/-- C(..) by its __init__ -/
structure CMk (P : Program) (w : World) (K : PySem.W.Frag) (mg : Str → Option Value) (base : Heap) (CX : CXT) (k : Nat) (x : Str) (C : Addr) (sp : Sp) (ps : List Str) (qual : Str) (st : Stmt) (dvs : List V) : Prop where
  ex : ∃ f fd sp0, mg x = some (.ref C) ∧ Mk K C f ∧ Binds K fd ps [] ∧ FnOk P w K mg base CX k f fd ps sp0 ∧ Conv C sp0 sp ∧ FunD K "__init__" qual (defArgs st) (defBody st) (defScope st) dvs [] f fd
theorem CMk.cdef (D : CMk P w K mg base CX k x C sp ps qual st dvs) : CDef P w K mg base CX k x C sp := by
  obtain ⟨f, fd, sp0, a, b, c, d, e, _⟩ := D.ex
  exact ⟨f, fd, ps, sp0, a, b, c, d, e⟩
/-- C(..) by its __init__, that lets nothing out; h: how the arguments bind where all are given -/
theorem MAtD.make (F : MAtD K C "__init__" qual st dvs) (cf : ClsF K mg x C) (S : FnScope N ps (defScope st)) (hd : dvs ≠ [])
    (hb : ∀ (T : Addr) (kV doc pm : Value) (an : Option Addr) (cdv ct : Value) (us its : List Value), us.length = ps.length → its.length = dvs.length →
      ∃ k, bindArgs (PySem.W.fnOf "__init__" qual (defArgs st) (defBody st) (defScope st) (.ref T) kV doc pm an cdv ct) ⟨us, []⟩ = seqItems? (.ref T) >>= k ∧ k (some its.toArray) = pure (ps.zip (us ++ its.drop dvs.length)))
    (len : ∀ vs H Q E, sp0 vs H Q E → vs.length = ps.length) (cv : Conv C sp0 sp)
    (hbody : ∀ (f : Addr) (cdv : Value) (A : Around) (outer : List Env) (s : Shared) (H : Hp) (vs : List V) (Q : VK) (E : XK), Room k (A.deeper (PyProof.Rows.envOfC qual (defScope st) s.heap.objs.size f cdv)) → sp0 vs H Q E →
      ∃ t, PSs (cxOf CX0 P w K mg base N qual (defScope st) f cdv A outer s H E).nox (defBody st) t ∧ t { nx := fun _ H' => Q .non H', rt := Q } (start N vs) H) : CMk P w K mg base CX0 (k + 1) x C sp ps qual st dvs := by
  obtain ⟨f, fd, h1, h2, F⟩ := F.ex
  have B : Binds K fd ps [] := by
    obtain ⟨ds, r, b⟩ := F.binds1 (ps := ps) ps.length dvs.length hd (by omega) fun T kV doc pm an cdv ct us its l1 l2 => hb T kV doc pm an cdv ct us its l1 l2
    rw [List.drop_of_length_le (Nat.le_refl _)] at r
    cases r
    exact b
  refine ⟨f, fd, sp0, cf.at, ⟨cf.mks, h1, h2, cf.kp⟩, B, F.ok S len fun cdv A outer s H vs Q E hr h => ?_, cv, F⟩
  obtain ⟨t, a, b⟩ := hbody f cdv A outer s H vs Q E hr h
  exact ⟨t, a.nox, b⟩
theorem CDef.mono {j : Nat} (D : CDef P w K mg base CX j x C sp) (h : j ≤ k) : CDef P w K mg base CX k x C sp := by
  obtain ⟨f, fd, ps, sp0, a, b, c, d, e⟩ := D.ex
  exact ⟨f, fd, ps, sp0, a, b, c, d.mono h, e⟩
end
end Cw
set_option Elab.async false
set_option linter.all false
set_option maxRecDepth 100000
set_option maxHeartbeats 4000000
/-! enumerate(text) -/
namespace Cw
open PySem PySem.Spec L2
def Itx (l : List Nat) : It := ⟨fun i _ => i < l.length, fun i H v H' => ∃ T c, v = .ref T ∧ H T = none ∧ H' = upd H T (.tup [.int (i : Nat), .str (tx [c])]) ∧ l[i]? = some c, fun i _ => l.length ≤ i⟩
theorem turn_enumS {P : Program} {w : World} {K : PySem.W.Frag} {elts : List Expr} {kk : Nat} {tpos : PySem.Pos} (l : List Nat) (t : Tok) (e it : Addr) (hne : e ≠ it) :
    Turn P w K (.Tuple elts kk tpos) (Itx l) [e, it] e (fun i h => i ≤ l.length ∧ (∃ old, IsEnum h e it (i : Nat) old) ∧ h.IsStrIter it (strIterType (tx l)) (tx l) t i) where
  mem := by simp
  obj := fun i h st b hb => by
    obtain ⟨_, ⟨old, he⟩, ⟨o, ho, hc, hd⟩⟩ := st
    simp only [List.mem_cons, List.not_mem_nil, or_false] at hb
    rcases hb with z | z
    · subst z; exact ⟨_, he, fun v q => nomatch q⟩
    · subst z; exact ⟨o, ho, fun v q => by rw [hd] at q; cases q⟩
  keep := fun i h h' st k => by
    obtain ⟨a, ⟨old, he⟩, ⟨o, ho, r⟩⟩ := st
    exact ⟨a, ⟨old, k e (by simp) _ he⟩, ⟨o, k it (by simp) o ho, r⟩⟩
  item := by
    intro X hP hw hK hc i pins s σ H E I hf st hg
    subst hP hw hK
    obtain ⟨hi, st⟩ := st
    have hg : i < l.length := hg
    have W := WalksT.enumerateD (A := X.A) (Draws.text (prog := X.prog) (w := X.w) (A := X.A.in1) (I.ok.hd hc) it (tx l) t) e hne (by simp [hne]) (by simp)
    have hel : e < s.heap.objs.size := by obtain ⟨⟨_, he⟩, _⟩ := st; exact Heap.lt_size he
    have hil : it < s.heap.objs.size := by obtain ⟨_, ⟨_, q, _⟩⟩ := st; exact Heap.lt_size q
    refine W.item i s _ E (by simpa using hg) st fun T vals h' tk hv hT isT mid kp => ⟨_, rfl, W.go elts kk tpos i T { s with heap := h', toks := tk } _ E mid fun h2 st2 kp2 => ?_⟩
    obtain ⟨t', x, hx, rfl⟩ := hv
    obtain ⟨c, u, hc', rfl⟩ := hx
    have hTw := W.apart i T h' mid
    obtain ⟨o, ho, r⟩ := isT
    have isT2 : h2.IsTuple T #[.int i t', .str ⟨#[c]⟩ u] := ⟨o, kp2 T o hTw ho, r⟩
    have new : ObjOk X.prog X.w (upd H T (.tup [.int (i : Nat), .str (tx [c])])) h2 T (.tup [.int (i : Nat), .str (tx [c])]) := ⟨by show 2 ≤ sizeLine; decide, [.int i t', .str ⟨#[c]⟩ u], .cons ⟨_, rfl⟩ (.cons ⟨_, rfl⟩ .nil), isT2⟩
    refine ⟨.ref T, _, I.turnedNew (ch := [e, it]) (t' := tk) (fun b ob hb q => kp2 b ob hb (kp b ob hb q)) hf hT new, rfl, ⟨T, c, rfl, I.hok.fresh hT, rfl, by simpa using hc'⟩, ⟨hg, st2⟩, fun b hb => ?_⟩
    have hb2 : b < T := by
      simp only [List.mem_cons, List.not_mem_nil, or_false] at hb
      rcases hb with z | z
      · rw [z]; exact Nat.lt_of_lt_of_le hel hT
      · rw [z]; exact Nat.lt_of_lt_of_le hil hT
    rw [upd_ne (Nat.ne_of_lt hb2)]
    exact (hf b hb).1
  done := by
    intro X hP hw hK hc i pins s σ H E I hf st hg
    subst hP hw hK
    obtain ⟨hi, st⟩ := st
    have hg : l.length ≤ i := hg
    have e1 : i = (tx l).cps.size := by
      have : (tx l).cps.size = l.length := by simp
      omega
    subst e1
    have W := WalksT.enumerateD (A := X.A) (Draws.text (prog := X.prog) (w := X.w) (A := X.A.in1) (I.ok.hd hc) it (tx l) t) e hne (by simp [hne]) (by simp)
    exact W.done s _ E st fun h' tk kp => ⟨rfl, I.turnedL kp hf⟩
  self := fun A i s Q E st h => by
    obtain ⟨_, ⟨_, he⟩, _⟩ := st
    exact wpAny_pyIter_enum he h
def iEnumS (ta : TA) : TI := fun σ H R => ta σ H fun vs H1 => ∃ l : List Nat, vs = [.str (tx l)] ∧ R (Itx l) H1
theorem pi_enumS {X : Cx} {e : Expr} {ta : TA} {p pos tpos : PySem.Pos} {elts : List Expr} {kk : Nat} (hg : Gl X "enumerate") (hm : X.mg "enumerate" = none) (ha : PA X [e] ta) (hs : starEach [e] X.env = [(false, eval e X.env)] := by rfl) :
    PI X (.Tuple elts kk tpos) (.Call (.Name "enumerate" p) [e] [] pos) (iEnumS ta) := by
  refine ⟨fun pins s σ H R I h => ?_⟩
  refine PyProof.Rows.Call_ (ld_blt I hg hm PyProof.Rows.boot_enumerate (PyProof.Rows.callWith_type1 (thn (ha.run pos pins s σ H _ I h) fun us s1 ⟨vs, H1, I1, r1, l, ex, q⟩ => ?_) hs rfl))
  subst ex
  obtain ⟨u, rfl, t, rfl⟩ := vals1 r1
  refine call_enumerate_str fun h' he hit hsz hk => wpAny_pyIter_enum he ?_
  have I2 : L2.Inv X pins σ H1 { s1 with heap := h' } := I1.kept (t' := s1.toks) hk
  refine ⟨s1.heap.objs.size + 1, [s1.heap.objs.size + 1, s1.heap.objs.size], _, _, H1, rfl, I2, turn_enumS l t (s1.heap.objs.size + 1) s1.heap.objs.size (Nat.succ_ne_self _), ⟨Nat.zero_le _, ⟨.none, he⟩, hit⟩, fun b hb => ?_, q⟩
  have hle : s1.heap.objs.size ≤ b := by
    simp only [List.mem_cons, List.not_mem_nil, or_false] at hb
    rcases hb with z | z
    · rw [z]; exact Nat.le_succ _
    · rw [z]; exact Nat.le_refl _
  exact I1.fpOk hle (I1.hok.fresh hle)
theorem walk_enumS (l : List Nat) : Walk (Itx l) l.length (fun _ => True) (fun i H v H' => ∃ T c, v = .ref T ∧ H T = none ∧ H' = upd H T (.tup [.int (i : Nat), .str (tx [c])]) ∧ l[i]? = some c) :=
  ⟨fun _ _ hi _ => hi, fun _ _ => Nat.le_refl _, fun _ _ _ _ _ _ y => y⟩
section
variable {σ : St} {H : Hp}
theorem e_iEnumS {ta : TA} {R : It → Hp → Prop} (q : ta σ H fun vs H1 => ∃ l : List Nat, vs = [.str (tx l)] ∧ R (Itx l) H1) : iEnumS ta σ H R := q
theorem v_iEnumS {P : List Nat → Prop} {l : List Nat} (q : P l) : ∃ l' : List Nat, [V.str (tx l)] = [.str (tx l')] ∧ P l' := ⟨l, rfl, q⟩
end
end Cw
set_option Elab.async false
set_option linter.all false
set_option maxRecDepth 100000
set_option maxHeartbeats 4000000
/-! pairs of a number and a text, compared -/
namespace Cw
open PySem PySem.Spec L2
section
variable {X : Cx} {op : CmpOp} {ri : Int → Int → Bool} {rs : List Nat → List Nat → Bool} {z : Bool}
end
end Cw
set_option Elab.async false
set_option linter.all false
set_option maxRecDepth 100000
set_option maxHeartbeats 4000000
/-! names: one step, as a plain function -/
namespace Cw
open PySem PySem.Spec L2
/-- the name (turned about) without its last letters out of part, and these -/
def splitB (part : List Nat) : List Nat → List Nat → List Nat × List Nat
  | [], b => ([], b)
  | x :: r, b => if x ∈ part then splitB part r (x :: b) else (x :: r, b)
def putIn (k : Nat) (b : List Nat) : List Nat := b.takeWhile (fun c => decide (c < k)) ++ k :: b.dropWhile (fun c => decide (c < k))
def stepAt (k : Nat) (ra b : List Nat) : List Nat := if ra.head? = some k then ra.tail.reverse ++ b else ra.reverse ++ putIn k b
def stepOf (part name : List Nat) (k : Nat) : List Nat := stepAt k (splitB part name.reverse []).1 (splitB part name.reverse []).2
def joinOf (ks : List Nat) (ps : List (List Nat)) (name way : List Nat) : List Nat := way.foldl (fun n k => stepOf (crossOf ks ps k) n k) name
def backOf (ks : List Nat) (ps : List (List Nat)) (name : List Nat) : List Nat := joinOf ks ps [] name.reverse
def wayOf (ks : List Nat) (ps : List (List Nat)) (name goal : List Nat) : List Nat := joinOf ks ps (backOf ks ps name) goal
theorem splitB_eq (part : List Nat) : ∀ ra b : List Nat, (splitB part ra b).1.reverse ++ (splitB part ra b).2 = ra.reverse ++ b
  | [], b => rfl
  | x :: r, b => by
    unfold splitB
    by_cases h : x ∈ part
    · rw [if_pos h, splitB_eq part r (x :: b), List.reverse_cons, List.append_assoc]
      rfl
    · rw [if_neg h]
theorem putIn_len (k : Nat) (b : List Nat) : (putIn k b).length = b.length + 1 := by
  unfold putIn
  have h : (b.takeWhile (fun c => decide (c < k)) ++ b.dropWhile (fun c => decide (c < k))).length = b.length := by rw [List.takeWhile_append_dropWhile]
  rw [List.length_append] at h
  rw [List.length_append, List.length_cons]
  omega
theorem putIn_mem {k c : Nat} {b : List Nat} (h : c ∈ putIn k b) : c = k ∨ c ∈ b := by
  unfold putIn at h
  rw [List.mem_append, List.mem_cons] at h
  rcases h with h | h | h
  · exact .inr (List.takeWhile_sublist _ |>.subset h)
  · exact .inl h
  · exact .inr (List.dropWhile_sublist _ |>.subset h)
theorem stepAt_len (k : Nat) (ra b : List Nat) : (stepAt k ra b).length ≤ ra.length + b.length + 1 := by
  unfold stepAt
  split
  · rw [List.length_append, List.length_reverse, List.length_tail]
    omega
  · rw [List.length_append, List.length_reverse, putIn_len]
    omega
theorem stepAt_mem {k c : Nat} {ra b : List Nat} (h : c ∈ stepAt k ra b) : c = k ∨ c ∈ ra.reverse ++ b := by
  unfold stepAt at h
  split at h
  · rw [List.mem_append, List.mem_reverse] at h
    rcases h with h | h
    · exact .inr (List.mem_append_left _ (List.mem_reverse.mpr (List.mem_of_mem_tail h)))
    · exact .inr (List.mem_append_right _ h)
  · rw [List.mem_append] at h
    rcases h with h | h
    · exact .inr (List.mem_append_left _ h)
    · rcases putIn_mem h with e | e
      · exact .inl e
      · exact .inr (List.mem_append_right _ e)
theorem stepOf_len (part name : List Nat) (k : Nat) : (stepOf part name k).length ≤ name.length + 1 := by
  have h := congrArg List.length (splitB_eq part name.reverse [])
  simp only [List.length_append, List.length_reverse, List.length_nil] at h
  have := stepAt_len k (splitB part name.reverse []).1 (splitB part name.reverse []).2
  unfold stepOf
  omega
theorem stepOf_mem {part name : List Nat} {k c : Nat} (h : c ∈ stepOf part name k) : c = k ∨ c ∈ name := by
  have := stepAt_mem h
  rw [splitB_eq, List.reverse_reverse, List.append_nil] at this
  exact this
theorem joinOf_len (ks : List Nat) (ps : List (List Nat)) : ∀ (way name : List Nat), (joinOf ks ps name way).length ≤ name.length + way.length
  | [], name => Nat.le_refl _
  | k :: r, name => by
    show (joinOf ks ps (stepOf (crossOf ks ps k) name k) r).length ≤ _
    have := joinOf_len ks ps r (stepOf (crossOf ks ps k) name k)
    have := stepOf_len (crossOf ks ps k) name k
    rw [List.length_cons]
    omega
theorem joinOf_mem {ks : List Nat} {ps : List (List Nat)} {c : Nat} : ∀ {way name : List Nat}, c ∈ joinOf ks ps name way → c ∈ name ∨ c ∈ way
  | [], name, h => .inl h
  | k :: r, name, h => by
    rcases joinOf_mem (way := r) (name := stepOf (crossOf ks ps k) name k) h with z | z
    · rcases stepOf_mem z with e | e
      · exact .inr (e ▸ List.mem_cons_self ..)
      · exact .inl e
    · exact .inr (List.mem_cons_of_mem _ z)
theorem joinOf_snoc {ks : List Nat} {ps : List (List Nat)} {name way : List Nat} {k : Nat} : joinOf ks ps name (way ++ [k]) = stepOf (crossOf ks ps k) (joinOf ks ps name way) k := by
  unfold joinOf
  rw [List.foldl_append]
  rfl
theorem backOf_len (ks : List Nat) (ps : List (List Nat)) (name : List Nat) : (backOf ks ps name).length ≤ name.length := by
  have := joinOf_len ks ps name.reverse []
  rw [List.length_reverse, List.length_nil] at this
  unfold backOf
  omega
theorem backOf_mem {ks : List Nat} {ps : List (List Nat)} {c : Nat} {name : List Nat} (h : c ∈ backOf ks ps name) : c ∈ name := by
  rcases joinOf_mem h with z | z
  · cases z
  · exact List.mem_reverse.mp z
theorem wayOf_len (ks : List Nat) (ps : List (List Nat)) (name goal : List Nat) : (wayOf ks ps name goal).length ≤ name.length + goal.length := by
  have := joinOf_len ks ps goal (backOf ks ps name)
  have := backOf_len ks ps name
  unfold wayOf
  omega
/-! ### letters at their places -/
theorem at_last {x : Nat} {r b : List Nat} : atI ((x :: r).reverse ++ b) (((x :: r).length : Int) - 1) = some x := by
  have e : (((x :: r).length : Int) - 1) = ((r.length : Nat) : Int) := by
    rw [List.length_cons]
    omega
  rw [e]
  refine atI_nat ?_
  rw [List.reverse_cons, List.append_assoc, List.getElem?_append_right (by rw [List.length_reverse]; exact Nat.le_refl _), List.length_reverse, Nat.sub_self]
  rfl
theorem at_mid {x : Nat} {a b : List Nat} : atI (a ++ x :: b) ((a.length : Nat) : Int) = some x := by
  refine atI_nat ?_
  rw [List.getElem?_append_right (Nat.le_refl _), Nat.sub_self]
  rfl
theorem lt_one {a k : Nat} : decide ([a] < [k]) = decide (a < k) := by
  refine decide_eq_decide.mpr ⟨fun h => ?_, fun h => List.Lex.rel h⟩
  cases h with
  | rel h => exact h
  | cons h => cases h
section
variable {σ : St} {H : Hp} {tb : TS} {D : Ends} {tt : TT}
theorem g_nm {i : Nat} {v : V} {Q : St → Hp → Prop} (q : Q (σ.set i (some v)) H) : gName i v σ H Q := q
theorem s_while (W : Nat → St → Hp → Prop) (m : Nat) (h0 : W m σ H) (hs : ∀ m σ H, W m σ H → tt σ H fun b H1 => if b = true then ∃ N : St → Hp → Prop, (∀ σ' H', N σ' H' → ∃ m', m' < m ∧ W m' σ' H') ∧ tb { D with nx := N, ct := N, bk := D.nx } σ H1 else D.nx σ H1) : tWhile tt tb D σ H := ⟨W, ⟨m, h0⟩, hs⟩
theorem v_turn {W : Nat → St → Hp → Prop} {m : Nat} (q : tb { D with nx := fun σ' H' => ∃ m', m' < m ∧ W m' σ' H', ct := fun σ' H' => ∃ m', m' < m ∧ W m' σ' H', bk := D.nx } σ H) : ∃ N : St → Hp → Prop, (∀ σ' H', N σ' H' → ∃ m', m' < m ∧ W m' σ' H') ∧ tb { D with nx := N, ct := N, bk := D.nx } σ H := ⟨_, fun _ _ h => h, q⟩
end
section
variable {H : Hp} {Q : VK} {K : PySem.W.Frag} {p q : Addr}
theorem ok_strs {ls : List (List Nat)} (h : ∀ l ∈ ls, ∀ c ∈ l, c < 1000) : ∀ x ∈ ls.map tx, PyData.strOk x = true := by
  intro x hx
  obtain ⟨l, hl, rfl⟩ := List.mem_map.mp hx
  exact ok_tx (h l hl)
theorem map_tx_inj {a b : List (List Nat)} : a.map tx = b.map tx ↔ a = b := by
  constructor
  · intro h
    induction a generalizing b with
    | nil => cases b with
      | nil => rfl
      | cons y b => cases h
    | cons x a ih => cases b with
      | nil => cases h
      | cons y b =>
        rw [List.map_cons, List.map_cons] at h
        injection h with h1 h2
        rw [tx_inj.mp h1, ih h2]
  · intro h
    rw [h]
theorem strsV_map (ls : List (List Nat)) : strsV ls = (ls.map tx).map V.str := by
  unfold strsV
  rw [List.map_map]
  rfl
theorem v_eqT {a b : List (List Nat)} (h1 : H p = some (.tup (strsV a))) (h2 : H q = some (.tup (strsV b))) (ha : ∀ l ∈ a, ∀ c ∈ l, c < 1000) (hb : ∀ l ∈ b, ∀ c ∈ l, c < 1000) (k : Q (.bl (decide (a = b))) H) : rEqD K (.ref p) (.ref q) H Q := by
  rw [strsV_map] at h1 h2
  refine ⟨.tuple ((a.map tx).map PyData.str), .tuple ((b.map tx).map PyData.str), .tup (SqT.of h1) (dp_strs _), .tup (SqT.of h2) (dp_strs _), shaped_strsT _ (ok_strs ha), shaped_strsT _ (ok_strs hb), ?_⟩
  have e : PyData.eqv (.tuple ((a.map tx).map PyData.str)) (.tuple ((b.map tx).map PyData.str)) = decide (a = b) := by
    show PyData.eqvAll _ _ = _
    rw [eqvAll_strs, decide_eq_decide]
    exact map_tx_inj
  rw [e]
  exact k
end
end Cw
set_option Elab.async false
set_option linter.all false
set_option maxRecDepth 100000
set_option maxHeartbeats 4000000
/-! errors of one's own without values -/
namespace Cw
open PySem PySem.Spec L2
/-- an error class of the text, down from ValueError, without an __init__ -/
structure ExcF (K : PySem.W.Frag) (mg : Str → Option Value) (x : Str) (C : Addr) : Prop where
  «at» : mg x = some (.ref C)
  exc : PySem.W.excIn K C [.type "ValueError", .type "Exception", .type "BaseException", .type "object"] "ValueError.__new__" = true
  kp : PySem.W.keepIn K (.ref C) = true
  ty : PySem.W.typeIn K (.ref C) = some (.type "type")
  ec : ExcC K C
section
variable {X : Cx} {C : Addr} {x : Str} {p pos : PySem.Pos}
theorem pmk_own0 (F : ExcF X.K X.mg x C) (hg : Gl X x := by rfl) (hdb : (x == ("__debug__" : Str)) = false := by decide) : PMk X (.Call (.Name x p) [] [] pos) (fun _ H Q => Q (.ref C) none H) := by
  intro pins s σ H Q I h
  refine PySem.wpAny_Call_Name_kw (ld_glob I hg F.at ?_ hdb)
  refine PySem.W.callWith_K0 I.kIn F.kp ?_
  show wpAny _ _ (call (.ref C) []) _ _ _
  obtain ⟨bm, N, nm, qn, bs, hdct, sn, sub, ab, col, dd, k0, k1, k2, k3, k5, mN, hC, hN, hni, T⟩ := exc_obj I.kIn F.exc
  refine wpAny_call_exc_subT PySem.F.excBase_ValueError T hC hN hni (fun h' e hm => ?_) (Nat.zero_le _)
  exact mk_of I hm (raises_own F.ec.hs F.ty) h (I.hok.gone hm.new)
end
theorem v_gTup2 {K : PySem.W.Frag} {n i j : Nat} {σ : St} {H : Hp} {Q : St → Hp → Prop} {p : Addr} {a b : V} (hn : n = 2) (h : H p = some (.tup [a, b])) (q : Q ((σ.set i (some a)).set j (some b)) H) : gTup K n (gCons (gName i) (gCons (gName j) gNil)) (.ref p) σ H Q :=
  ⟨p, _, rfl, SqT.of h, hn.symm, a, [b], rfl, b, [], rfl, rfl, q⟩
theorem e_md {C : Addr} {m : Str} {sp : Sp} {E : XK} {ta : TE} {t : TA} {σ : St} {H : Hp} {Q : VK} (q : ta σ H fun x H1 => ∃ a dx fs, x = .ref a ∧ H1 a = some (.ins C dx fs) ∧ fs.lookup m = none ∧ t σ H1 fun vs H2 => sp (x :: vs) H2 Q E) : tMeth C m sp [] E ta t σ H Q := by
  have e : tMeth C m sp [] E ta t = fun σ H Q => ta σ H fun x H1 => ∃ a dx fs, x = .ref a ∧ H1 a = some (.ins C dx fs) ∧ fs.lookup m = none ∧ t σ H1 fun vs H2 => sp (x :: vs) H2 Q E := by
    unfold tMeth
    simp only [List.append_nil]
  rw [e]
  exact q
theorem v_md {P : Addr → Prop} {C a dx : Addr} {fs : List (Str × V)} {m : Str} {H : Hp} (h : H a = some (.ins C dx fs)) (hn : fs.lookup m = none) (q : P a) : ∃ a' dx fs, V.ref a = .ref a' ∧ H a' = some (.ins C dx fs) ∧ fs.lookup m = none ∧ P a' := ⟨a, dx, fs, rfl, h, hn, q⟩
/-- a suite that is walked only where q holds -/
theorem pss_given {X : Cx} {b : List Stmt} {t : TS} {q : Prop} (h : q → PSs X b t) : PSs X b (fun D σ H => q ∧ t D σ H) := by
  by_cases e : q
  · exact ⟨fun pins s σ H D I z => (h e).run pins s σ H D I z.2⟩
  · exact ⟨fun pins s σ H D I z => absurd z.1 e⟩
end Cw
set_option Elab.async false
set_option linter.all false
set_option maxRecDepth 100000
set_option maxHeartbeats 4000000
/-! an own exception over ValueError whose __init__ calls super().__init__(..) -/
namespace Cw
open PySem PySem.Spec L2
section
variable {X : Cx} {pins : List (Addr × Obj)} {σ : L2.St} {H : Hp} {s : Shared} {C a f cda cc : Addr}
/-- a parameter is read -/
theorem ld_par {E : Value → Shared → Prop} {i : Nat} {x : Str} {v : V} {Q : Value → Shared → Prop} (I : Inv X pins σ H s) (hN : X.N[i]? = some x) (hk : X.env.scope.names.lookup x = some .local) (e : σ[i]? = some (some v)) (h : ∀ u, RelV v u → Q u s) : wpAny (model X.prog X.w) X.A (loadName X.env x) Q E s := by
  obtain ⟨m, hn, hl⟩ := I.loc
  obtain ⟨u, r, l⟩ := hl i x v hN e (Or.inl hk)
  rcases l with ⟨_, hm⟩ | ⟨hk2, c, hc, hcell⟩
  · exact wpAny_loadName_local I.ok.kind hk hn hm (h u r)
  · have hk : X.env.kindOf x = some .local := hk
    rcases hk2 with hk2 | hk2
    · rw [hk] at hk2
      cases hk2
    · rw [hk] at hk2
      cases hk2
/-- what the written part says of the def -/
structure SupC (P : Program) (K : PySem.W.Frag) (C f cda cc : Addr) (fd : FuncData) (sf : Str) : Prop where
  fn : ∃ oc od osl, K.lookup f = some ⟨oc, od, .func fd, osl⟩
  par : ∃ ar, (fd.params.posonlyargs ++ fd.params.args).head? = some ar ∧ ar.arg = sf
  code : ∃ ccl cdd vs ccs file tf, K.lookup cda = some ⟨ccl, cdd, .fields vs, ccs⟩ ∧ vs[2]? = some (.str file tf) ∧ ((P.main.file : Str) == file) = true
  top : (P.main.scope.names.lookup ("super" : Str)).isSome = false
  cell : ∃ cl cld csl, K.lookup cc = some ⟨cl, cld, .cell (some (.ref C)), csl⟩
  op : PySem.W.nsIn K PySem.cStatics "thirdparty.any" = some none
  up : PySem.W.ks_superIn K C C "__init__" = some (some (.builtin "ValueError.__init__"))
/-- super().__init__(v, ..) -/
theorem ws_super {body : List Stmt} {fd : FuncData} {self : Str} {es : List Expr} {p0 p1 p2 p3 p4 : PySem.Pos} {Q : Flow → Shared → Prop} {pl : Sem Bool} (S : SupC X.prog X.K C f cda cc fd self) (I : Inv X pins σ H s) (T : OexC X.K C) (ea : H a = some (exo a C none))
    (hks : X.env.kindOf "super" = some .globalImplicit) (hkc : X.env.kindOf "__class__" = some .free) (hfu : X.env.func = some f) (hco : X.env.code = .ref cda) (hcl : X.env.cells.lookup ("__class__" : Str) = some cc) (hm : X.mg "super" = none) (hN : X.N[0]? = some self) (hself : X.env.scope.names.lookup self = some .local)
    (e0 : σ[0]? = some (some (.ref a))) (hargs : ∀ s', Inv X pins σ H s' → ∀ (Q : List Value → Shared → Prop), (∀ us, us.length ≤ sizeLine → Q us s') → wpAny (model X.prog X.w) X.A (spliced (backTo p3 (starEach es X.env))) Q X.xe s')
    (hpl : (backTo p3 (starEach es X.env)).any (·.1) = false) (hi : interactive X.env = false) (hcons : ∃ m r, backTo p3 (starEach es X.env) = (false, m) :: r)
    (he : eval (.Call (.Attribute (.Call (.Name "super" p0) [] [] p1) "__init__" p2) es [] p3) X.env = (do
      let ov ← attributeBase (.Call (.Name "super" p0) [] [] p1) "__init__" X.env (eval (.Call (.Name "super" p0) [] [] p1) X.env)
      standAt p2.atName
      let (f, first) ← holding [ov] (getMethod ov "__init__" pl)
      callWith p3 f first (backTo p3 (starEach es X.env)) []))
    (q : ∀ s', Inv X pins σ H s' → Q .next s') :
    PySem.wpAt (model X.prog X.w) X.A (.func body X.env) (exec (.Expr (.Call (.Attribute (.Call (.Name "super" p0) [] [] p1) "__init__" p2) es [] p3) p4) X.env) Q X.xe s := by
  obtain ⟨nm, qn, N, bs, bm, sn, sub, ab, col, dd, k0, k1, k2, k3, k5, hC, hbm⟩ := T.cls
  have hcl' : PySem.W.clsIn X.K C = some { name := nm, bases := bs, mro := .ref C :: bm, ns := N, qualname := qn, hasDict := true, slotNames := sn, subclasses := sub, abstract := ab, collection := col, hasDel := false } := by unfold PySem.W.clsIn; rw [hC] <;> rfl
  obtain ⟨oc, od, osl, hf⟩ := S.fn
  obtain ⟨ar, hp, har⟩ := S.par
  obtain ⟨ccl, cdd, vs, ccs, file, tf, hcode, hvs, hfile⟩ := S.code
  obtain ⟨cl, cld, csl, hcell⟩ := S.cell
  have hup : PySem.W.alongIn X.K "__init__" bm = some (some (.builtin "ValueError.__init__")) := by
    have h := S.up
    unfold PySem.W.ks_superIn at h
    rw [hcl'] at h
    have e : ((Value.ref C :: bm).dropWhile (· != .ref C)).drop 1 = bm := by simp [List.dropWhile]
    exact e ▸ h
  refine PySem.ks_wpAt_Expr_any (hi := hi) (PySem.ks_wpAt_MethodCall (pl := pl) ?_ he)
  refine PySem.ks_wpAt_super_base hks hkc (by decide +kernel) hfu (I.kIn _ _ hf) rfl hp hco (I.kIn _ _ hcode) rfl hvs hfile S.top ?_
  obtain ⟨mb, g1, g2⟩ := I.mod.blt
  refine PySem.W.ks_loadName_global I.ok.kind hks (Calls.loadGlobal_builtin (by rw [I.ok.glob]; exact I.mod.glob.keeps I.bk) hm (by rw [I.ok.blt]; exact g1.keeps I.bk) ((g2 "super" (by decide)).trans (show bootBuiltins "super" = some (.type "super") by decide +kernel)) ⟨rfl, ?_⟩)
  refine wpAny_loadName_free I.ok.kind hkc hcl ⟨_, I.kIn _ _ hcell, rfl⟩ ?_
  rw [har]
  refine ld_par I hN hself e0 fun u ru => ?_
  obtain rfl : u = Value.ref a := ru
  obtain ⟨t1, ho⟩ := exo_at I.hok ea
  have hCh := I.kIn _ _ hC
  refine PySem.ks_wpAny_isType_cls hCh rfl ⟨rfl, ?_⟩
  have naC : a ≠ C := by
    rintro rfl
    rw [hCh] at ho
    injection ho with ho
    injection ho with _ _ z
    cases z
  have hne : (Value.ref C :: bm).isEmpty = false := rfl
  have hmro : ∀ v : Value, (Value.ref C :: bm).contains v = true → PySem.W.mroIn X.K C v = some true := fun v hv => by
    unfold PySem.W.mroIn
    rw [hcl', Option.bind_some, if_neg (by rw [hne]; decide), hv]
  have hsub : PySem.W.Looks (model X.prog X.w) s.heap (isSubtype (.ref C) (.ref C)) true := PySem.W.looks_mroIn I.kIn (hmro _ (by simp))
  obtain ⟨hp0, g, d, t, os⟩ := s
  refine PySem.ks_wpAny_call_super hCh rfl ho rfl (fun c z => nomatch z) hsub fun h1 hso k1 => ?_
  have I1 := I.kept (t' := t) k1
  have J1 : PySem.W.InstAt h1 a ({ cls := .ref C, dict := none, data := .fields #[.ref t1, .none, .none, .none, .bool false, .none] } : Obj) C none := ⟨k1 _ _ ho, rfl, rfl, trivial⟩
  have hVE : (Value.ref C :: bm).contains (.type "ValueError") = true := by
    rw [List.contains_cons, PySem.HandSPX.refsVE_contains "ValueError" bm hbm]
    simp
  refine PySem.W.kxs_getMethod PySem.W.kxs_ValueError hso (PySem.W.looks_opaque I1.kIn S.op) (l₀ := .ref C :: bm) ((PySem.W.looks_clsIn I1.kIn hcl').andThen .now) (by simp [List.dropWhile]) I1.kIn hup (J1.type.andThen (PySem.W.looks_mroIn I1.kIn (hmro _ hVE))) naC (by decide +kernel) ?_
  have k2 : ∀ b o, h1.get? b = some o → (h1.push (PySem.W.kxs_mw "ValueError.__init__" a)).get? b = some o := fun b o e => Heap.get?_push_of_some _ e
  have I2 := I1.kept (t' := t + 1) k2
  have hu : (h1.push (PySem.W.kxs_mw "ValueError.__init__" a)).get? h1.objs.size = some (PySem.W.kxs_mw "ValueError.__init__" a) := Heap.get?_push_at rfl rfl
  have ho2 := k2 _ _ (k1 _ _ ho)
  obtain ⟨m0, r0, hc0⟩ := hcons
  have ha := hargs _ I2 (fun vs s₁ => PySem.W.KxsAt "ValueError.__init__" h1.objs.size a s₁.heap ∧ wpAny (model X.prog X.w) X.A (call (.ref h1.objs.size) vs) (fun _ => Q .next) X.xe s₁)
  rw [hc0] at hpl ha ⊢
  refine PySem.W.kxs_callWith (i := "ValueError.__init__") (x := a) hpl (PySem.Calls.evalArgs_plain (ha fun us hus => ⟨hu, ?_⟩))
  refine wpAny_call (codeAny_of_tree ?_)
  show wpAny _ X.A.in1 (callAny (.ref h1.objs.size) ⟨us, []⟩) _ _ _
  simp only [callAny]
  refine wpAny_bind (wpAny_load hu ?_)
  simp only [PySem.W.kxs_mw, show (Value.type "method-wrapper" == Value.type "method" || Value.type "method-wrapper" == Value.type "builtin_function_or_method" || Value.type "method-wrapper" == Value.type "method-wrapper") = true by decide, if_true]
  refine PySem.W.KFB.if_so (by decide) ?_
  refine wpAny_bind (PySem.W.check_bound_init PySem.F.excBase_ValueError.toExcCallFacts (I2.kIn _ _ hC) ho2 rfl ?_)
  refine wpAny_bind (wpAny_pure (wpAny_pure ?_))
  refine ⟨plainId_quiet PySem.F.excBase_ValueError.init.plain _, codeAny_builtin PySem.F.excBase_ValueError.initEntry ?_⟩
  refine PySem.W.exc_init_tree (cls := .ref C) (t0 := t1) (dv := none) (c2 := .none) (c3 := .none) (b4 := .bool false) ho2 hus fun h3 k3 e3 _ => ?_
  have J := I2.write (t' := t + 1) (x := a) (e := a) (o := exo a C none) (by rw [ea]; exact True.intro) (.inl rfl) k3 ⟨_, e3⟩ (exo_ok e3)
  have eu : upd H a (exo a C none) = H := by
    funext b
    by_cases hb : b = a
    · rw [hb, upd_same, ea]
    · rw [upd_ne hb]
  rw [eu] at J
  exact q _ J
theorem sp_name2 {y z : Str} {i j : Nat} {v u : V} {q q2 p3 : PySem.Pos} (I : Inv X pins σ H s) (hN : X.N[i]? = some y) (hk : X.env.scope.names.lookup y = some .local) (e : σ[i]? = some (some v)) (hd : (y == ("__debug__" : Str)) = false)
    (hN2 : X.N[j]? = some z) (hk2 : X.env.scope.names.lookup z = some .local) (e2 : σ[j]? = some (some u)) (hd2 : (z == ("__debug__" : Str)) = false) {Q : List Value → Shared → Prop} (h : ∀ us, us.length ≤ sizeLine → Q us s) :
    wpAny (model X.prog X.w) X.A (spliced (backTo p3 (starEach [.Name y q, .Name z q2] X.env))) Q X.xe s := by
  show wpAny _ _ (spliced ((false, eval (.Name y q) X.env) :: backTo p3 (starEach [.Name z q2] X.env))) _ _ s
  refine Calls.spliced_cons (wpAny_Name (ld_par I hN hk e fun a1 _ => ?_) hd)
  show wpAny _ _ (spliced ((false, eval (.Name z q2) X.env) :: backTo p3 (starEach [] X.env))) _ _ s
  exact Calls.spliced_cons (wpAny_Name (ld_par I hN2 hk2 e2 fun a2 _ => Calls.spliced_nil (h [a1, a2] (by show 2 ≤ sizeLine; decide))) hd2)
end
section
variable {CX : CXT} {P : Program} {w : World} {K : PySem.W.Frag} {mg : Str → Option Value} {base : Heap} {k : Nat} {C f cc : Addr} {N ps : List Str} {sp : Sp}
/-- such a def by its body -/
theorem exc_init {fd : FuncData} {F : NdefX.NF} {sf : Str} {es : List Expr} {rest : List Stmt} {p0 p1 p2 p3 p4 : PySem.Pos} {pl : Env → Sem Bool} (S : SupC P K C f F.c cc fd sf)
    (hfd : ∃ kV doc pm an ct, fd = PySem.W.fnX F.name F.qual F.params F.body F.scope F.cl .none kV doc pm an (.ref F.c) ct) (hcl : F.cl = [(("__class__" : Str), cc)]) (hcd : PySem.W.codeIn K (.ref F.c) F.qual = true) (NS : NdefX.NScope N ps ["__class__"] F.scope)
    (hb : F.body = .Expr (.Call (.Attribute (.Call (.Name "super" p0) [] [] p1) "__init__" p2) es [] p3) p4 :: rest) (hm : mg "super" = none) (h0 : N[0]? = some sf) (hsf : F.scope.names.lookup sf = some .local) (hks : F.scope.names.lookup ("super" : Str) = some .globalImplicit)
    (len : ∀ vs H Q E, sp vs H Q E → vs.length = ps.length)
    (hcons : ∀ env : Env, ∃ m r, backTo p3 (starEach es env) = (false, m) :: r) (hpl : ∀ env : Env, (backTo p3 (starEach es env)).any (·.1) = false)
    (he : ∀ env : Env, eval (.Call (.Attribute (.Call (.Name "super" p0) [] [] p1) "__init__" p2) es [] p3) env = (do
      let ov ← attributeBase (.Call (.Name "super" p0) [] [] p1) "__init__" env (eval (.Call (.Name "super" p0) [] [] p1) env)
      standAt p2.atName
      let (f, first) ← holding [ov] (getMethod ov "__init__" (pl env))
      callWith p3 f first (backTo p3 (starEach es env)) []))
    (hgo : ∀ (A : Around) (outer : List Env) (s : Shared) (H : Hp) (vs : List V) (Q : VK) (E : XK), Room k (A.deeper (NdefX.envF F f s.heap.objs.size)) → sp vs H Q E → ∃ a vs', vs = .ref a :: vs' ∧ OexC K C ∧ H a = some (exo a C none) ∧
      (∀ s', Inv (NdefX.ncx CX P w K mg base N F f A outer s H E) [] (NdefX.startF N vs [some (.ref C)]) H s' → ∀ (Q : List Value → Shared → Prop), (∀ us, us.length ≤ sizeLine → Q us s') → wpAny (model P w) (A.deeper (NdefX.envF F f s.heap.objs.size)) (spliced (backTo p3 (starEach es (NdefX.envF F f s.heap.objs.size)))) Q (NdefX.ncx CX P w K mg base N F f A outer s H E).xe s') ∧
      ∃ t, PSs (NdefX.ncx CX P w K mg base N F f A outer s H E) rest t ∧ t { nx := fun _ H' => Q .non H', rt := Q } (NdefX.startF N vs [some (.ref C)]) H) : FnOk P w K mg base CX (k + 1) f fd ps sp := by
  refine ⟨len, fun A outer s H args us vs Q E hr e0 hbd r hsp => ?_⟩
  have hl := len _ _ _ _ hsp
  obtain ⟨kV, doc, pm, an, ct, rfl⟩ := hfd
  obtain ⟨oc, od, osl, lk⟩ := S.fn
  obtain ⟨cl, cld, csl, hcell⟩ := S.cell
  have KX : K.In s.heap := e0.mod.kin.keeps fun b o e => (e0.bs b o e).1
  have lim : s.heap.NoLimit := e0.mod.nolimit.keeps fun b o e => (e0.bs b o e).1
  refine PySem.ks_codeAny_call_defAt (body := F.body) hr.depth (KX _ _ lk) rfl lim (PySem.W.codeRec_of KX hcd) rfl hbd NS.nocell (fun ⟨n, v⟩ hy => NS.par n (List.of_mem_zip hy).1) (fun h₁ hns kp => ?_) NS.co NS.gen NS.kind
  obtain ⟨a, vs', rfl, T, ea, hargs, t, ht, hq⟩ := hgo A outer s H vs Q E (hr.deeper _) hsp
  have hccH : H cc = none := (e0.bs cc _ (e0.mod.kin _ _ hcell)).2
  have hccI : s.heap.IsCell cc (some (.ref C)) := ⟨_, KX _ _ hcell, rfl⟩
  have lk1 : ∀ y c, F.cl.lookup y = some c → y = "__class__" ∧ c = cc := fun y c h => by
    rw [hcl] at h
    by_cases e : y = ("__class__" : Str)
    · subst e
      simp [List.lookup] at h
      exact ⟨rfl, h.symm⟩
    · have e' : (y == ("__class__" : Str)) = false := by simpa using e
      simp [List.lookup, e'] at h
  have hcc : F.cl.lookup ("__class__" : Str) = some cc := by rw [hcl]; simp [List.lookup]
  have C1 : NdefX.CellsAt F.cl ["__class__"] [some (.ref C)] s.heap H := {
    len := rfl
    all := fun y c h => by
      obtain ⟨_, rfl⟩ := lk1 y c h
      exact ⟨hccH, _, hccI⟩
    inj := fun x y c h1 h2 => (lk1 x c h1).1.trans (lk1 y c h2).1.symm
    has := fun i y h => by
      cases i with
      | succ i => simp at h
      | zero =>
        simp at h
        subst h
        refine ⟨cc, hcc, fun v hv => ?_⟩
        simp at hv
        subst hv
        exact ⟨_, rfl, hccI⟩ }
  have I : Inv (NdefX.ncx CX P w K mg base N F f A outer s H E) [] (NdefX.startF N (.ref a :: vs') [some (.ref C)]) H { s with heap := h₁, toks := s.toks + (ps.zip us).length } := NdefX.inv_startN NS hr.hd e0 hl r C1 hns kp
  show PySem.wpAt (model P w) (A.deeper (NdefX.envF F f s.heap.objs.size)) (.func F.body (NdefX.envF F f s.heap.objs.size)) (execs F.body (NdefX.envF F f s.heap.objs.size)) _ _ _
  rw [hb]
  refine PySem.ks_wpAt_execs_cons ?_
  refine ws_super (X := NdefX.ncx CX P w K mg base N F f A outer s H E) (a := a) (cc := cc) S I T ea hks (NS.frk _ (List.mem_singleton_self _)) rfl rfl hcc hm h0 hsf rfl hargs (hpl _) (by unfold interactive; simp [show (NdefX.ncx CX P w K mg base N F f A outer s H E).env.scope.kind = .function from NS.kind]) (hcons _) (he _) fun s' J => ?_
  show PySem.wpAt _ _ _ (execs rest _) _ _ _
  refine PySem.wpAt_of_wpAny (wpAny_mono (ht.run [] s' _ H _ J hq) (fun fl s2 hs => ?_) fun e s2 hs => hs)
  have fin : ∀ {σ' : L2.St} {H' : Hp} {v : V} {u : Value}, Inv (NdefX.ncx CX P w K mg base N F f A outer s H E) [] σ' H' s2 → L2.RelV v u → Q v H' → CE outer P w H s Q u s2 :=
    fun {σ' H' v u} J rv q => ⟨v, H', J.os, J.bare, J.base, J.hok, rv, q⟩
  cases fl with
  | ret u =>
    obtain ⟨v, σ', H', J, rv, q⟩ := hs
    exact fin J rv q
  | next =>
    obtain ⟨σ', H', J, q⟩ := hs
    exact fin (v := V.non) (u := Value.none) J rfl q
  | brk =>
    obtain ⟨_, _, _, q⟩ := hs
    exact False.elim q
  | cont =>
    obtain ⟨_, _, _, q⟩ := hs
    exact False.elim q
end
end Cw
set_option Elab.async false
set_option linter.all false
set_option maxRecDepth 100000
set_option maxHeartbeats 4000000
/-! own exceptions with fields: made, raised -/
namespace Cw
open PySem PySem.Spec L2
/-- what the top has left of such a class; st: its __init__ -/
structure ExcE (P : Program) (K : PySem.W.Frag) (mg : Str → Option Value) (x : Str) (B : Addr) (qual : Str) (st : Stmt) : Prop where
  «at» : mg x = some (.ref B)
  oex : OexC K B
  xf : XfC K B
  ec : ExcC K B
  init : ∃ (f cda cc : Addr) (fd : FuncData) (kV doc pm : Value) (an : Option Addr) (ct : Value), PySem.W.findIn K (.ref B) "__init__" = some (some (.ref f)) ∧ PySem.W.typeIn K (.ref f) = some (.type "function") ∧
    fd = PySem.W.fnX "__init__" qual (defArgs st) (defBody st) (defScope st) [(("__class__" : Str), cc)] .none kV doc pm an (.ref cda) ct ∧ PySem.W.codeIn K (.ref cda) qual = true ∧ SupC P K B f cda cc fd "self"
/-- its __init__: g tells the fields of the arguments -/
def spE (B : Addr) (n : Nat) (g : List V → List (Str × V)) : Sp := fun vs H Q _ => ∃ (a : Addr) (ws : List V), vs = .ref a :: ws ∧ ws.length = n ∧ H a = some (exo a B none) ∧
  ∀ d H', H d = none → d ≠ a → H' a = some (exo a B (some d)) → H' d = some (exd d (g ws)) → (∀ b, b ≠ a → b ≠ d → H' b = H b) → Q .non H'
structure XDef (P : Program) (w : World) (K : PySem.W.Frag) (mg : Str → Option Value) (base : Heap) (k : Nat) (x : Str) (B : Addr) (n : Nat) (g : List V → List (Str × V)) : Prop where
  «at» : mg x = some (.ref B)
  oex : OexC K B
  ex : ∃ (f : Addr) (fd : FuncData) (ps : List Str), PySem.W.findIn K (.ref B) "__init__" = some (some (.ref f)) ∧ PySem.W.typeIn K (.ref f) = some (.type "function") ∧ Binds K fd ps [] ∧ FnOk P w K mg base CX0 k f fd ps (spE B n g)
theorem XDef.mono {P : Program} {w : World} {K : PySem.W.Frag} {mg : Str → Option Value} {base : Heap} {j k : Nat} {x : Str} {B : Addr} {n : Nat} {g : List V → List (Str × V)} (D : XDef P w K mg base j x B n g) (h : j ≤ k) : XDef P w K mg base k x B n g := by
  obtain ⟨f, fd, ps, a, b, c, d⟩ := D.ex
  exact ⟨D.at, D.oex, f, fd, ps, a, b, c, d.mono h⟩
section
variable {X : Cx} {k n : Nat} {x : Str} {B : Addr} {g : List V → List (Str × V)} {e : Expr} {es : List Expr} {ta : TA} {p pos : PySem.Pos}
end
/-- it is made -/
theorem v_mkE {B : Addr} {n : Nat} {g : List V → List (Str × V)} {H1 : Hp} {Q : XK} {ws : List V} (hl : ws.length = n) (hn : n ≤ 1000) (q : ∀ d, H1 d = none → Q (.ref B) (some d) (upd H1 d (.xd (g ws)))) :
    ws.length ≤ 1000 ∧ ∀ a, H1 a = none → spE B n g (.ref a :: (ws ++ [])) (upd H1 a (exo a B none)) (fun v H2 => v = .non ∧ ∃ (d : Addr) (fs : List (Str × V)), H2 a = some (exo a B (some d)) ∧ H2 d = some (exd d fs) ∧ H1 d = none ∧ Q (.ref B) (some d) (upd (del H2 a) d (.xd fs))) (fun _ _ _ => False) := by
  refine ⟨by omega, fun a ha => ⟨a, ws ++ [], rfl, by rw [List.append_nil]; exact hl, upd_same, fun d H' hd nd ea ed kp => ?_⟩⟩
  rw [List.append_nil] at ed
  rw [upd_ne nd] at hd
  refine ⟨rfl, d, _, ea, ed, hd, ?_⟩
  have e : upd (del H' a) d (.xd (g ws)) = upd H1 d (.xd (g ws)) := by
    funext b
    by_cases h1 : b = d
    · rw [h1, upd_same, upd_same]
    · rw [upd_ne h1, upd_ne h1]
      by_cases h2 : b = a
      · rw [h2, del_same, ha]
      · rw [del_ne h2, kp b h2 h1, upd_ne h2]
  rw [e]
  exact q d hd
section
variable {P : Program} {w : World} {K : PySem.W.Frag} {mg : Str → Option Value} {base : Heap} {k : Nat} {x qual : Str} {B : Addr} {st : Stmt}
/-- two fields -/
theorem ok_E2 {fld fld2 y z : Str} {p0 p1 p2 p3 p4 q0 q1 q2 q3 q4 q5 q6 q7 q8 q9 : PySem.Pos} {pl : Env → Sem Bool} (E : ExcE P K mg x B qual st) (hs : mg "super" = none) (hno : PySem.W.findIn K (.ref B) fld = some none) (hno2 : PySem.W.findIn K (.ref B) fld2 = some none)
    (hb : defBody st = [.Expr (.Call (.Attribute (.Call (.Name "super" p0) [] [] p1) "__init__" p2) [.Name y q4, .Name z q5] [] p3) p4, .Assign [.Attribute (.Name "self" q0) fld q1] (.Name y q2) q3, .Assign [.Attribute (.Name "self" q6) fld2 q7] (.Name z q8) q9])
    (NS : NdefX.NScope ["self", y, z, "__class__"] ["self", y, z] ["__class__"] (defScope st)) (hks : (defScope st).names.lookup ("super" : Str) = some .globalImplicit) (hd : (y == ("__debug__" : Str)) = false) (hd2 : (y == ("__classdict__" : Str)) = false) (hz : (z == ("__debug__" : Str)) = false) (hz2 : (z == ("__classdict__" : Str)) = false)
    (hbd : ∀ (kV doc pm : Value) (an : Option Addr) (cda cc : Addr) (ct : Value) (us : List Value), us.length = 3 → bindArgs (PySem.W.fnX "__init__" qual (defArgs st) (defBody st) (defScope st) [(("__class__" : Str), cc)] .none kV doc pm an (.ref cda) ct) ⟨us, []⟩ = pure ((["self", y, z] : List Str).zip us))
    (he : ∀ env : Env, eval (.Call (.Attribute (.Call (.Name "super" p0) [] [] p1) "__init__" p2) [.Name y q4, .Name z q5] [] p3) env = (do
      let ov ← attributeBase (.Call (.Name "super" p0) [] [] p1) "__init__" env (eval (.Call (.Name "super" p0) [] [] p1) env)
      standAt p2.atName
      let (f, first) ← holding [ov] (getMethod ov "__init__" (pl env))
      callWith p3 f first (backTo p3 (starEach [.Name y q4, .Name z q5] env)) [])) :
    XDef P w K mg base (k + 1) x B 2 (fun ws => [(fld2, ws.getD 1 .non), (fld, ws.getD 0 .non)]) := by
  obtain ⟨f, cda, cc, fd, kV, doc, pm, an, ct, hi, ht, hfd, hcd, S⟩ := E.init
  refine ⟨E.at, E.oex, f, fd, ["self", y, z], hi, ht, .all fun us hl => by rw [hfd]; exact hbd kV doc pm an cda cc ct us hl, ?_⟩
  have ls := NS.par "self" (by simp)
  have ly := NS.par y (by simp)
  have lz := NS.par z (by simp)
  refine exc_init (F := ⟨"__init__", qual, defArgs st, defBody st, defScope st, [(("__class__" : Str), cc)], cda⟩) S ⟨kV, doc, pm, an, ct, hfd⟩ rfl hcd NS hb hs rfl ls hks (fun vs H Q E h => ?_) (fun env => ⟨_, _, rfl⟩) (fun env => rfl) he fun A outer s H vs Q E' hr h => ?_
  · obtain ⟨a, ws, rfl, hw, _⟩ := h
    show ws.length + 1 = 3
    omega
  obtain ⟨a, ws, rfl, hw, ea, q⟩ := h
  obtain ⟨v, u, rfl⟩ : ∃ v u, ws = [v, u] := by
    match ws, hw with
    | [v, u], _ => exact ⟨v, u, rfl⟩
  refine ⟨a, [v, u], rfl, E.oex, ea, fun s' I Q h => sp_name2 (i := 1) (j := 2) (v := v) (u := u) I rfl ly rfl hd rfl lz rfl hz h, _, pss_cons (ps_ost (pe_var (i := 0) rfl (Or.inl ls)) (pe_var (i := 1) rfl (Or.inl ly) hd hd2)) (pss_one (ps_ost (pe_var (i := 0) rfl (Or.inl ls)) (pe_var (i := 2) rfl (Or.inl lz) hz hz2))), ?_⟩
  refine ⟨v, rfl, .ref a, rfl, a, B, rfl, E.oex, hno, .inl ⟨ea, fun d hd nd => ?_⟩⟩
  refine ⟨u, rfl, .ref a, rfl, a, B, rfl, E.oex, hno2, .inr ⟨d, _, upd_same, by rw [upd_ne nd, upd_same], by show 1 ≤ 900; decide, ?_⟩⟩
  refine q d _ hd nd (by rw [upd_ne (Ne.symm nd), upd_same]) (by rw [upd_same]; rfl) fun b h1 h2 => by rw [upd_ne h2, upd_ne h1, upd_ne h2]
end
end Cw
set_option Elab.async false
set_option linter.all false
set_option maxRecDepth 100000
set_option maxHeartbeats 4000000
/-! what the laws' own helpers need: copies of dicts, pop, several names at once, walks over dicts -/
namespace Cw
open PySem PySem.Spec L2
section
variable {σ : St} {H : Hp} {Q : VK} {D : Ends} {K : PySem.W.Frag} {X : Cx}
theorem v_listD {a : Addr} {kvs : List (Key × V)} (h : H a = some (.dK kvs)) (q : ∀ p H', H p = none → Same H H' → H' p = some (.lst (kvs.map fun kv => kV kv.1)) → Q (.ref p) H') : rListD [.ref a] H Q := ⟨a, kvs, rfl, h, fun p hp => q p _ hp (Same.new hp) upd_same⟩
theorem pe_popK {o e : Expr} {to te : TE} {apos cpos : PySem.Pos} (h : X.K = K) (ho : PE X o to) (he : PE X e te) (hbase : attributeBase o "pop" X.env (eval o X.env) = eval o X.env := by rfl)
    (hfew : ((backTo cpos (starEach [e] X.env)).all (fun x => !x.1) && (backToKw cpos (keywordEach [] X.env)).all (fun x => x.1.isSome) && decide ([e].length + ([] : List Keyword).length + (if ([] : List Keyword).isEmpty then 0 else 1) < 30)) = true := by rfl)
    (hline : (apos.endLine == cpos.line) = true := by rfl) (hs : starEach [e] X.env = (false, eval e X.env) :: starEach [] X.env := by rfl) (hplain : (backTo cpos (starEach [] X.env)).any (·.1) = false := by rfl) :
    PE X (.Call (.Attribute o "pop" apos) [e] [] cpos) (tBM K "list" rPopAt to (tCons te tNil)) := h ▸ pe_bm PySem.F.plainAttrs_list PySem.F.slot_list_pop PySem.F.type_list_pop mt_popAt ho (pa_cons he pa_nil hs) hbase hfew hline hs hplain
theorem v_pop {p : Addr} {xs : List V} {i : Int} {y : V} (h : H p = some (.lst xs)) (h0 : 0 ≤ i) (h1 : i < xs.length) (h2 : xs.length ≤ 1000000) (hy : xs[i.toNat]? = some y) (q : ∀ H', Keep p H H' → H' p = some (.lst (xs.eraseIdx i.toNat)) → Q y H') : rPopAt (.ref p) [.int i] H Q := by
  refine ⟨p, xs, i, i.toNat, y, rfl, rfl, h, by omega, by omega, ?_, hy, q _ Keep.put upd_same⟩
  unfold seqIndex?
  simp only [if_neg (show ¬ i < 0 by omega)]
  first
    | rw [if_pos (by omega)]
    | simp [h0, h1]
theorem e_par {i j : Nat} {ta : TA} (q : ta σ H fun vs H1 => ∃ v w, vs = [v, w] ∧ D.nx ((σ.set i (some v)).set j (some w)) H1) : tPar i j ta D σ H := q
theorem v_par {v w : V} {P : V → V → Prop} (q : P v w) : ∃ v' w', [v, w] = [v', w'] ∧ P v' w' := ⟨v, w, rfl, q⟩
theorem e_par3 {i j l : Nat} {ta : TA} (q : ta σ H fun vs H1 => ∃ u v w, vs = [u, v, w] ∧ D.nx (((σ.set i (some u)).set j (some v)).set l (some w)) H1) : tPar3 i j l ta D σ H := q
theorem v_par3 {u v w : V} {P : V → V → V → Prop} (q : P u v w) : ∃ u' v' w', [u, v, w] = [u', v', w'] ∧ P u' v' w' := ⟨u, v, w, rfl, q⟩
theorem e_lock {t : TS} {d : Addr} {u : HO} (h : H d = some u) (m : Mut (some u)) (q : ∀ od, t ⟨fun σ' H' => H' d = some (.frz od u) ∧ D.nx σ' (upd H' d u), fun v H' => H' d = some (.frz od u) ∧ D.rt v (upd H' d u), fun σ' H' => H' d = some (.frz od u) ∧ D.bk σ' (upd H' d u), fun σ' H' => H' d = some (.frz od u) ∧ D.ct σ' (upd H' d u)⟩ σ (upd H d (.frz od u))) : tLock t D σ H := ⟨d, u, h, m, q⟩
theorem e_iK {td : TE} {R : It → Hp → Prop} (q : td σ H fun x H1 => ∃ d o, x = .ref d ∧ ((∃ kvs, H1 d = some (.frz o (.dK kvs)) ∧ R (Itk d o kvs) H1) ∨ ∃ kvs, H1 d = some (.frz o (.dT kvs)) ∧ R (Itkt d o kvs) H1)) : iKeys td σ H R := q
theorem e_dnotin {ty td : TE} (q : ty σ H fun y H1 => td σ H1 fun x H2 => ∃ a o, x = .ref a ∧ DGet H2 a y o ∧ Q (.bl (!o.isSome)) H2) : tDNotIn ty td σ H Q := q
end
theorem erase_perm {α : Type} : ∀ (l : List α) (i : Nat) (h : i < l.length), (l[i] :: l.eraseIdx i).Perm l
  | x :: r, 0, _ => .refl _
  | x :: r, i + 1, h => by
    have h' : i < r.length := by simpa using h
    have ih := erase_perm r i h'
    show (r[i] :: x :: r.eraseIdx i).Perm (x :: r)
    exact (List.Perm.swap x _ _).trans (ih.cons x)
theorem erase_map {α β : Type} (f : α → β) : ∀ (l : List α) (i : Nat), (l.map f).eraseIdx i = (l.eraseIdx i).map f
  | [], _ => rfl
  | x :: r, 0 => rfl
  | x :: r, i + 1 => by
    show f x :: (r.map f).eraseIdx i = f x :: (r.eraseIdx i).map f
    rw [erase_map f r i]
/-! ### tables by letters -/
def tabKV (ls : List Nat) (f : Nat → List Nat) : List (Key × V) := ls.map fun c => ((Sum.inr (tx [c]) : Key), V.str (tx (f c)))
structure Tab (ls : List Nat) (f : Nat → List Nat) : Prop where
  nd : ls.Nodup
  lt : ∀ c ∈ ls, c ∈ LET
  len : ls.length ≤ 8
  sub : ∀ a ∈ ls, ∀ b ∈ f a, b ∈ ls ∧ b ≠ a ∧ a ∈ f b
  gl : ∀ a ∈ ls, (f a).length ≤ 8
def tabPairs (ls : List Nat) (f : Nat → List Nat) : List (List Nat) := pairsOf (ls.flatMap fun a => (f a).map fun b => ascOf [a, b])
theorem tab_get {H : Hp} {d : Addr} {ls : List Nat} {f : Nat → List Nat} {k : Nat} (h : H d = some (.dK (tabKV ls f))) (hk : k ∈ ls) : DGet H d (.str (tx [k])) (some (.str (tx (f k)))) := dget_let (g := fun c => V.str (tx (f c))) h hk
theorem tab_getF {H : Hp} {d : Addr} {o : Obj} {ls : List Nat} {f : Nat → List Nat} {k : Nat} (h : H d = some (.frz o (.dK (tabKV ls f)))) (hk : k ∈ ls) : DGet H d (.str (tx [k])) (some (.str (tx (f k)))) :=
  .inl ⟨_, Sum.inr (tx [k]), .inr ⟨o, h⟩, rfl, (letV_some (g := fun c => V.str (tx (f c))) hk).symm⟩
theorem tab_keys (ls : List Nat) (f : Nat → List Nat) : ((tabKV ls f).map fun kv => kV kv.1) = ls.map fun c => V.str (tx [c]) := by
  unfold tabKV
  rw [List.map_map]
  rfl
theorem putTab {f : Nat → List Nat} {k : Nat} {z : List Nat} : ∀ {ls : List Nat}, k ∈ ls → putK (tabKV ls f) (Sum.inr (tx [k])) (V.str (tx z)) = tabKV ls (fun c => if c = k then z else f c) := by
  intro ls hk
  unfold putK
  have h1 : valV (tabKV ls f) (Sum.inr (tx [k])) = some (V.str (tx (f k))) := letV_some (g := fun c => V.str (tx (f c))) hk
  rw [if_pos (by rw [valV_any, h1]; rfl)]
  unfold tabKV
  rw [List.map_map]
  refine List.map_congr_left fun c _ => ?_
  show (if (Sum.inr (tx [c]) : Key) = Sum.inr (tx [k]) then _ else _) = _
  by_cases e : c = k
  · subst e
    rw [if_pos rfl]
    show (_, _) = (_, V.str (tx (if c = c then z else f c)))
    rw [if_pos rfl]
  · rw [if_neg (fun z => e (by have := key_tx.mp z; injection this))]
    show (_, _) = (_, V.str (tx (if c = k then z else f c)))
    rw [if_neg e]
theorem tab_put {H : Hp} {d : Addr} {ls : List Nat} {f : Nat → List Nat} {k : Nat} {z : List Nat} (h : H d = some (.dK (tabKV ls f))) (hk : k ∈ ls) (hl : ls.length < 1000000) : DPut H d (.str (tx [k])) (.str (tx z)) (upd H d (.dK (tabKV ls (fun c => if c = k then z else f c)))) := by
  have e := DPut.k (k := Sum.inr (tx [k])) (v := V.str (tx z)) h (szlt (by unfold tabKV; rw [List.length_map]; exact hl))
  rw [putTab hk] at e
  exact e
theorem tab_new {H : Hp} {d : Addr} {ls : List Nat} {f : Nat → List Nat} {k : Nat} (h : H d = some (.dK (tabKV ls f))) (hk : ¬ k ∈ ls) (hf : f k = []) (hl : ls.length < 1000000) : DPut H d (.str (tx [k])) (.str (tx [])) (upd H d (.dK (tabKV (ls ++ [k]) f))) := by
  have e := DPut.cross (l := [k]) (v := V.str (tx [])) h (letV_none (g := fun c => V.str (tx (f c))) hk) (by unfold tabKV; rw [List.length_map]; exact hl)
  have e2 : tabKV (ls ++ [k]) f = tabKV ls f ++ [((Sum.inr (tx [k]) : Key), V.str (tx []))] := by
    unfold tabKV
    rw [List.map_append]
    show _ ++ [((Sum.inr (tx [k]) : Key), V.str (tx (f k)))] = _
    rw [hf]
  rw [e2]
  exact e
theorem asc2_all : ∀ a ∈ LET, ∀ b ∈ LET, a < b → ascOf [a, b] = [a, b] ∧ ascOf [b, a] = [a, b] := by decide +kernel
theorem asc2 {a b : Nat} (ha : a ∈ LET) (hb : b ∈ LET) (h : a < b) : ascOf [a, b] = [a, b] ∧ ascOf [b, a] = [a, b] := asc2_all a ha b hb h
theorem pairsOf_small (f : List (List Nat)) : ∀ l ∈ pairsOf f, ∀ c ∈ l, c < 1000 := by
  intro l hl c hc
  obtain ⟨a, b, rfl, ha, hb, _⟩ := pairsOf_mem.mp hl
  have h1 := LET_lt ha
  have h2 := LET_lt hb
  simp only [List.mem_cons, List.not_mem_nil, or_false] at hc
  rcases hc with rfl | rfl <;> omega
end Cw
set_option Elab.async false
set_option linter.all false
set_option maxRecDepth 100000
set_option maxHeartbeats 4000000
/-! the drawn tables, in plain words -/
namespace Cw
open PySem PySem.Spec L2
def ABC : List (List Nat) := [[97, 98, 99, 100, 101, 102, 103, 104], [98, 100, 102, 104, 106, 108, 110, 112], [115, 116, 117, 118, 119, 120, 121, 122]]
def addRel (rel : Nat → Nat → Bool) (x y : Nat) : Nat → Nat → Bool := fun a b => rel a b || (a == x && b == y) || (a == y && b == x)
/-- which kinds cross: both ways, never with itself, kinds alone -/
structure RelOk (ls : List Nat) (rel : Nat → Nat → Bool) : Prop where
  sym : ∀ a b, rel a b = rel b a
  «in» : ∀ a b, rel a b = true → a ∈ ls ∧ b ∈ ls ∧ a ≠ b
/-- only pairs up to here -/
def Upto (ls : List Nat) (rel : Nat → Nat → Bool) (i j : Nat) : Prop := ∀ i1 j1, i1 < j1 → j1 < ls.length → rel (ls.getD i1 0) (ls.getD j1 0) = true → i1 < i ∨ (i1 = i ∧ j1 < j)
def crossBy (ls : List Nat) (rel : Nat → Nat → Bool) (c : Nat) : List Nat := ls.filter (rel c)
theorem getD_inj {ls : List Nat} (h : ls.Nodup) {i j : Nat} (hi : i < ls.length) (hj : j < ls.length) (e : ls.getD i 0 = ls.getD j 0) : i = j := by
  rw [List.getD_eq_getElem?_getD, List.getD_eq_getElem?_getD, List.getElem?_eq_getElem hi, List.getElem?_eq_getElem hj] at e
  exact (List.getElem_inj h).mp e
theorem filter_snoc {ls : List Nat} {p : Nat → Bool} {j : Nat} (hn : ls.Nodup) (hj : j < ls.length) (hz : ∀ j', j ≤ j' → j' < ls.length → p (ls.getD j' 0) = false) : ls.filter (fun c => p c || c == ls.getD j 0) = ls.filter p ++ [ls.getD j 0] := by
  have e : ls = ls.take j ++ ls.getD j 0 :: ls.drop (j + 1) := by
    rw [List.getD_eq_getElem?_getD, List.getElem?_eq_getElem hj]
    show ls = ls.take j ++ ls[j] :: ls.drop (j + 1)
    rw [← List.drop_eq_getElem_cons hj, List.take_append_drop]
  have hd : ∀ c ∈ ls.drop (j + 1), p c = false ∧ c ≠ ls.getD j 0 := by
    intro c hc
    obtain ⟨k, hk, e⟩ := List.mem_iff_getElem.mp hc
    rw [List.length_drop] at hk
    rw [List.getElem_drop] at e
    have hk2 : j + 1 + k < ls.length := by omega
    have e2 : ls.getD (j + 1 + k) 0 = c := by
      rw [List.getD_eq_getElem?_getD, List.getElem?_eq_getElem hk2]
      exact e
    refine ⟨e2 ▸ hz _ (by omega) hk2, fun z => ?_⟩
    have := getD_inj hn hk2 hj (e2.trans z)
    omega
  have ht : ∀ c ∈ ls.take j, c ≠ ls.getD j 0 := fun c hc z => take_notin hn hj (z ▸ hc)
  have hpy : p (ls.getD j 0) = false := hz j (Nat.le_refl _) hj
  generalize ls.getD j 0 = y at *
  have h1 : ls.filter (fun c => p c || c == y) = (ls.take j).filter p ++ [y] := by
    conv => lhs; rw [e]
    rw [List.filter_append, List.filter_cons_of_pos (by simp)]
    congr 1
    · refine List.filter_congr fun c hc => ?_
      have := ht c hc
      simp [this]
    · congr 1
      rw [List.filter_eq_nil_iff]
      intro c hc
      obtain ⟨a, b⟩ := hd c hc
      simp [a, b]
  have h2 : ls.filter p = (ls.take j).filter p := by
    conv => lhs; rw [e]
    rw [List.filter_append, List.filter_cons_of_neg (by rw [hpy]; decide)]
    have : (ls.drop (j + 1)).filter p = [] := by
      rw [List.filter_eq_nil_iff]
      intro c hc
      rw [(hd c hc).1]
      decide
    rw [this, List.append_nil]
  rw [h1, h2]
section
variable {ls : List Nat} {rel : Nat → Nat → Bool} {i j : Nat}
theorem tabStep (hn : ls.Nodup) (ok : RelOk ls rel) (hij : i < j) (hj : j < ls.length) (up : Upto ls rel i j) :
    ∀ c ∈ ls, (if c = ls.getD j 0 then (if ls.getD j 0 = ls.getD i 0 then crossBy ls rel (ls.getD i 0) ++ [ls.getD j 0] else crossBy ls rel (ls.getD j 0)) ++ [ls.getD i 0] else if c = ls.getD i 0 then crossBy ls rel (ls.getD i 0) ++ [ls.getD j 0] else crossBy ls rel c) = crossBy ls (addRel rel (ls.getD i 0) (ls.getD j 0)) c := by
  intro c hc
  have hi : i < ls.length := by omega
  have ne : ls.getD j 0 ≠ ls.getD i 0 := fun z => by have := getD_inj hn hj hi z; omega
  by_cases e1 : c = ls.getD j 0
  · subst e1
    rw [if_pos rfl, if_neg ne]
    unfold crossBy
    rw [← filter_snoc hn hi]
    · refine List.filter_congr fun b _ => ?_
      unfold addRel
      have e : (ls.getD j 0 == ls.getD i 0) = false := beq_eq_false_iff_ne.mpr ne
      rw [e]
      simp
    · intro j' h1 h2
      by_cases h3 : j' = j
      · subst h3
        cases z : rel (ls.getD j' 0) (ls.getD j' 0) with
        | false => rfl
        | true => exact absurd rfl (ok.in _ _ z).2.2
      · cases z : rel (ls.getD j 0) (ls.getD j' 0) with
        | false => rfl
        | true =>
          rcases Nat.lt_or_gt_of_ne h3 with h4 | h4
          · rw [ok.sym] at z
            have := up j' j h4 hj z
            omega
          · have := up j j' h4 h2 z
            omega
  · rw [if_neg e1]
    by_cases e2 : c = ls.getD i 0
    · subst e2
      rw [if_pos rfl]
      unfold crossBy
      rw [← filter_snoc hn hj]
      · refine List.filter_congr fun b _ => ?_
        unfold addRel
        have e : (ls.getD i 0 == ls.getD j 0) = false := beq_eq_false_iff_ne.mpr e1
        rw [e]
        simp
      · intro j' h1 h2
        cases z : rel (ls.getD i 0) (ls.getD j' 0) with
        | false => rfl
        | true =>
          have := up i j' (by omega) h2 z
          omega
    · rw [if_neg e2]
      unfold crossBy
      refine List.filter_congr fun b _ => ?_
      unfold addRel
      have a1 : (c == ls.getD i 0) = false := beq_eq_false_iff_ne.mpr e2
      have a2 : (c == ls.getD j 0) = false := beq_eq_false_iff_ne.mpr e1
      rw [a1, a2]
      simp
theorem RelOk.add (ok : RelOk ls rel) {x y : Nat} (hx : x ∈ ls) (hy : y ∈ ls) (ne : x ≠ y) : RelOk ls (addRel rel x y) where
  sym a b := by
    unfold addRel
    rw [ok.sym a b, Bool.or_assoc, Bool.or_assoc]
    congr 1
    rw [Bool.or_comm, Bool.and_comm, Bool.and_comm (a == x)]
  «in» a b h := by
    unfold addRel at h
    simp only [Bool.or_eq_true, Bool.and_eq_true, beq_iff_eq] at h
    rcases h with (h | ⟨rfl, rfl⟩) | ⟨rfl, rfl⟩
    · exact ok.in a b h
    · exact ⟨hx, hy, ne⟩
    · exact ⟨hy, hx, ne.symm⟩
theorem Upto.add (hn : ls.Nodup) (hij : i < j) (hj : j < ls.length) (up : Upto ls rel i j) : Upto ls (addRel rel (ls.getD i 0) (ls.getD j 0)) i (j + 1) := by
  intro i1 j1 h1 h2 h3
  unfold addRel at h3
  simp only [Bool.or_eq_true, Bool.and_eq_true, beq_iff_eq] at h3
  rcases h3 with (h | ⟨h4, h5⟩) | ⟨h4, h5⟩
  · have := up i1 j1 h1 h2 h
    omega
  · have a := getD_inj hn (by omega) (by omega) h4
    have b := getD_inj hn h2 hj h5
    omega
  · have a := getD_inj hn (by omega) hj h4
    have b := getD_inj hn h2 (by omega) h5
    omega
theorem Upto.more (up : Upto ls rel i j) : Upto ls rel i (j + 1) := fun i1 j1 h1 h2 h3 => by
  have := up i1 j1 h1 h2 h3
  omega
theorem Upto.turn {k : Nat} (up : Upto ls rel i j) (h : ls.length ≤ j) : Upto ls rel (i + 1) k := fun i1 j1 h1 h2 h3 => by
  have := up i1 j1 h1 h2 h3
  omega
end
theorem walk_rI {lo : Int} {n : Nat} (f : Nat → Int) (h : ∀ k : Nat, lo + (k : Int) = f k) : Walk (Itr lo n) n (fun _ => True) (YFn fun k => .int (f k)) :=
  walk_range.mono (fun _ h => h) fun i H x H' _ _ y => ⟨y.1, by show x = V.int (f i); rw [← h i]; exact y.2⟩
theorem at_getD {ls : List Nat} {i : Nat} (h : i < ls.length) : atI ls ((i : Nat) : Int) = some (ls.getD i 0) := by
  refine atI_nat ?_
  rw [List.getD_eq_getElem?_getD, List.getElem?_eq_getElem h]
  rfl
theorem tabKV_congr {ls : List Nat} {f g : Nat → List Nat} (h : ∀ c ∈ ls, f c = g c) : tabKV ls f = tabKV ls g := by
  unfold tabKV
  refine List.map_congr_left fun c hc => ?_
  rw [h c hc]
theorem ascOf_congr {a b : List Nat} (h : ∀ c, c ∈ a ↔ c ∈ b) : ascOf a = ascOf b := by
  unfold ascOf
  exact List.filter_congr fun c _ => decide_eq_decide.mpr (h c)
/-- the pairs that the laws tell a plan by -/
theorem tabPairs_eq {ls : List Nat} {f : Nat → List Nat} {ps : List (List Nat)} (T : Tab ls f) (h1 : ∀ p ∈ ps, ∃ a b, p = [a, b] ∧ a ∈ ls ∧ b ∈ f a) (h2 : ∀ a ∈ ls, ∀ b ∈ f a, a < b → [a, b] ∈ ps) : pairsOf (ps.map ascOf) = tabPairs ls f := by
  unfold tabPairs
  refine pairsOf_congr fun a b _ _ => ?_
  rw [List.mem_map, List.mem_flatMap]
  constructor
  · rintro ⟨p, hp, e⟩
    obtain ⟨x, y, rfl, hx, hy⟩ := h1 p hp
    exact ⟨x, hx, List.mem_map.mpr ⟨y, hy, e⟩⟩
  · rintro ⟨x, hx, hm⟩
    obtain ⟨y, hy, e⟩ := List.mem_map.mp hm
    obtain ⟨y1, y2, y3⟩ := T.sub x hx y hy
    by_cases h : x < y
    · exact ⟨_, h2 x hx y hy h, e⟩
    · have hlt : y < x := by omega
      refine ⟨_, h2 y y1 x y3 hlt, ?_⟩
      have := asc2 (T.lt y y1) (T.lt x hx) hlt
      rw [this.1, ← this.2]
      exact e
/-- a drawn table: a beginning of one of the three texts -/
structure Flr (num : Nat) (ls : List Nat) (rel : Nat → Nat → Bool) : Prop where
  cut : ∃ t ∈ ABC, ∃ m, 1 ≤ m ∧ m ≤ num ∧ ls = t.take m
  ok : RelOk ls rel
theorem abc_ok : ∀ t ∈ ABC, t.Nodup ∧ (∀ c ∈ t, c ∈ LET) ∧ t.length = 8 ∧ t.Pairwise (· < ·) := by decide +kernel
section
variable {num : Nat} {ls : List Nat} {rel : Nat → Nat → Bool}
theorem cut_nd (h : ∃ t ∈ ABC, ∃ m, 1 ≤ m ∧ m ≤ num ∧ ls = t.take m) : ls.Nodup := by
  obtain ⟨t, ht, m, h1, h2, rfl⟩ := h
  exact (List.take_sublist m t).nodup (abc_ok t ht).1
theorem cut_lt (h : ∃ t ∈ ABC, ∃ m, 1 ≤ m ∧ m ≤ num ∧ ls = t.take m) : ∀ c ∈ ls, c ∈ LET := by
  obtain ⟨t, ht, m, h1, h2, rfl⟩ := h
  exact fun c hc => (abc_ok t ht).2.1 c ((List.take_sublist m t).subset hc)
theorem cut_len (h : ∃ t ∈ ABC, ∃ m, 1 ≤ m ∧ m ≤ num ∧ ls = t.take m) : ls.length ≤ 8 ∧ ls.length ≤ num ∧ 1 ≤ ls.length := by
  obtain ⟨t, ht, m, h1, h2, rfl⟩ := h
  have := (abc_ok t ht).2.2.1
  rw [List.length_take]
  omega
theorem cut_lt' (h : ∃ t ∈ ABC, ∃ m, 1 ≤ m ∧ m ≤ num ∧ ls = t.take m) : ls.Pairwise (· < ·) := by
  obtain ⟨t, ht, m, h1, h2, rfl⟩ := h
  exact List.Pairwise.sublist (List.take_sublist m t) (abc_ok t ht).2.2.2
theorem Flr.tab (h : Flr num ls rel) : Tab ls (crossBy ls rel) where
  nd := cut_nd h.cut
  lt := cut_lt h.cut
  len := (cut_len h.cut).1
  sub a ha b hb := by
    obtain ⟨h1, h2⟩ := List.mem_filter.mp hb
    refine ⟨h1, (h.ok.in a b h2).2.2.symm, List.mem_filter.mpr ⟨ha, ?_⟩⟩
    rw [h.ok.sym]
    exact h2
  gl a ha := Nat.le_trans (List.length_filter_le _ _) (cut_len h.cut).1
end
end Cw
set_option Elab.async false
set_option linter.all false
set_option maxRecDepth 100000
set_option maxHeartbeats 4000000
/-! calls within a try; calls that raise nothing after all -/
namespace Cw
open PySem PySem.Spec L2
section
variable {P : Program} {w : World} {K : PySem.W.Frag} {mg : Str → Option Value} {base : Heap} {k : Nat} {f : Addr} {fd : FuncData} {ps : List Str} {sp : Sp}
/-- a promise whose wishes for errors are none -/
def calmOf (sp : Sp) : Sp := fun vs H Q _ => sp vs H Q fun _ _ _ => False
theorem calm_fn (F : FnOk P w K mg base (L2.CX P w) k f fd ps sp) : FnOk P w K mg base CX0 k f fd ps (calmOf sp) := by
  refine ⟨fun vs H Q E h => F.len _ _ _ _ h, fun A outer s H args us vs Q E hr e0 hb hv h => ?_⟩
  refine codeAny_mono (F.run A outer s H args us vs Q (fun _ _ _ => False) hr e0 hb hv h) fun r s' q => ?_
  cases r with
  | ok fl => cases fl <;> exact q
  | error e =>
    obtain ⟨a, B, H', cls, d, _, _, _, _, _, _, _, z⟩ := q
    exact z.elim
theorem Def.calm {x : Str} (D : Def P w K mg base (L2.CX P w) k x ps sp) : Def P w K mg base CX0 k x ps (calmOf sp) := by
  obtain ⟨f, fd, a, b, c, d⟩ := D.ex
  exact ⟨f, fd, a, b, c, calm_fn d⟩
theorem MDef.calm {C : Addr} {m : Str} (D : MDef P w K mg base (L2.CX P w) k C m ps sp) : MDef P w K mg base CX0 k C m ps (calmOf sp) := by
  obtain ⟨f, fd, a, b, c, d, e⟩ := D.ex
  exact ⟨f, fd, a, b, c, d, calm_fn e⟩
end
section
variable {X : Cx} {CX : CXT} {k : Nat} {C : Addr} {x m : Str} {ps : List Str} {sp : Sp} {E : St → XK} {p pos apos : PySem.Pos} {o e : Expr} {es : List Expr} {ta : TE} {t : TA}
def tMethS (C : Addr) (m : Str) (sp : Sp) (E : St → XK) (ta : TE) (t : TA) : TE := fun σ H Q => ta σ H fun x H1 => ∃ a dx fs, x = .ref a ∧ H1 a = some (.ins C dx fs) ∧ fs.lookup m = none ∧ t σ H1 fun vs H2 => sp (x :: vs) H2 Q (E σ)
end
/-- a try with one clause, its reading by name -/
def tTryA (K : PySem.W.Frag) (c : Value) (i : Nat) (ts : Addr → Value → Option Addr → TS) (Wout : WX) (tb : WX → TS) : TS := fun D σ H => tb (wAs K c i ts Wout D) D σ H
theorem e_tryA {K : PySem.W.Frag} {c : Value} {i : Nat} {ts : Addr → Value → Option Addr → TS} {Wout : WX} {tb : WX → TS} {D : Ends} {σ : St} {H : Hp} (q : tb (wAs K c i ts Wout D) D σ H) : tTryA K c i ts Wout tb D σ H := q
section
variable {σ : St} {H : Hp} {Q : VK} {C : Addr} {m : Str} {sp : Sp} {E : St → XK} {ta : TE} {t : TA}
theorem e_callS (q : t σ H fun vs H1 => sp vs H1 Q (E σ)) : tCallS sp E t σ H Q := q
theorem e_mdS (q : ta σ H fun x H1 => ∃ a dx fs, x = .ref a ∧ H1 a = some (.ins C dx fs) ∧ fs.lookup m = none ∧ t σ H1 fun vs H2 => sp (x :: vs) H2 Q (E σ)) : tMethS C m sp E ta t σ H Q := q
end
theorem s_asgT {te : TE} {K : PySem.W.Frag} {n : Nat} {t : TGs} {D : Ends} {σ : St} {H : Hp} (q : te σ H fun v H1 => gTup K n t v σ H1 fun σ' H' => D.nx σ' H') : tAsg te (gTup K n t) D σ H := q
theorem e_pr {tk tv : TE} {r : List (TE × TE)} {σ : St} {H : Hp} {Q : List (V × V) → Hp → Prop} (q : tk σ H fun x H1 => tv σ H1 fun y H2 => tPairs r σ H2 fun ps H3 => Q ((x, y) :: ps) H3) : tPairs ((tk, tv) :: r) σ H Q := q
theorem e_pr0 {σ : St} {H : Hp} {Q : List (V × V) → Hp → Prop} (q : Q [] H) : tPairs [] σ H Q := q
theorem e_disp {trs : List (TE × TE)} {σ : St} {H : Hp} {Q : VK} (q : ∀ p, H p = none → tPairs trs σ (upd H p (.dK [])) fun ps H2 => H2 p = some (.dK []) ∧ ∃ kvs : List (Key × V), ps = kvs.map (fun kv => (kV kv.1, kv.2)) ∧ kvs.length ≤ 15 ∧ Q (.ref p) (upd H2 p (.dK (mergeK [] kvs)))) : tDisp trs σ H Q := q
theorem sqL_same {K : PySem.W.Frag} {H H' : Hp} {a : Addr} {xs : List V} (h : SqL K H a xs) (s : Same H H') : SqL K H' a xs := by
  rcases h with (h | ⟨o, h⟩) | h
  · exact .inl (.inl (s _ _ h))
  · exact .inl (.inr ⟨o, s _ _ h⟩)
  · exact .inr h
theorem v_slL {K : PySem.W.Frag} {H : Hp} {Q : VK} {a : Addr} {xs : List V} {lo hi : Option Int} (h : SqL K H a xs) (q : ∀ p H', H p = none → Same H H' → H' p = some (.lst (cutV xs lo hi)) → Q (.ref p) H') : rSlL K (.ref a) lo hi H Q := ⟨a, xs, rfl, h, fun p hp => q p _ hp (Same.new hp) upd_same⟩
end Cw
set_option Elab.async false
set_option linter.all false
set_option maxRecDepth 100000
set_option maxHeartbeats 4000000
/-! in the suite: an own exception with fields -/
namespace Cw
open PySem PySem.Spec L2
def rIsEd (K : PySem.W.Frag) (D a : Addr) (d : Option Addr) : List V → Hp → VK → Prop := fun xs H Q => ∃ (dd : Addr) (fs : List (Str × V)) (c : V) (cv : Value) (b : Bool), d = some dd ∧ H dd = some (.xd fs) ∧ xs = [.ref a, c] ∧ (∀ u, RelV c u → u = cv) ∧ PySem.W.kitOne K (.ref D) cv = some b ∧ Q (.bl b) H
theorem call_isEd {X : Cx} {a D : Addr} {oe : Obj} {d : Option Addr} {cls : Value} {pn : List (Addr × Obj)} (C : ExcC X.K D) (hc : cls = .ref D) (hz : Zc cls d oe) (hf : ∃ vs, oe.data = .fields vs) : CallR (X.suite a ((a, oe) :: pn)) (.builtin "isinstance") (rIsEd X.K D a d) := by
  intro pins s σ H xs us Q I r h
  obtain ⟨dd, fs, c, cv, b, rfl, ea, rfl, hcv, e, q⟩ := h
  subst hc
  cases r with
  | cons rx rr =>
    cases rr with
    | cons rt rr =>
      cases rr
      cases rx
      have ec := hcv _ rt
      subst ec
      obtain ⟨ha, _⟩ := I.pin (a, oe) (List.mem_append_left _ List.mem_cons_self)
      obtain ⟨vs, hd⟩ := hf
      have hx : ObjOk X.prog X.w H s.heap dd (.xd fs) := I.hok dd _ ea
      obtain ⟨mA, hns, hr⟩ := hx
      obtain ⟨od, ho, hl⟩ := lookIn_ns hns
      have J : PySem.W.InstAt s.heap a oe D (some od) := ⟨ha, hz.1, by unfold PySem.W.notCls; rw [hd] <;> rfl, by rw [hz.2]; exact ho⟩
      have hcl : (PySem.W.clsIn X.K D).isSome = true := by
        have hd := C.hd
        unfold PySem.W.hasDictIn at hd
        obtain ⟨cd, hc, _⟩ := PySem.W.any_some hd
        rw [hc]
        rfl
      refine PySem.W.kia_one (PySem.W.kitx_exc hcl C.hg C.hk C.hs C.ha C.hn C.ht C.hm) I.kIn J e (fun z => nomatch z) fun tk => ⟨.bl b, H, I.kept (t' := tk) fun _ _ z => z, rfl, q⟩
end Cw
set_option Elab.async false
set_option linter.all false
set_option maxRecDepth 100000
set_option maxHeartbeats 4000000
/-! a list comprehension within an except suite (the handled exception's context is None), its iterator a list's -/
namespace Cw
open PySem PySem.Spec PyProof.Rows L2 L2H HotX
section
variable {prog : Program} {w : World} {A : Around} {E : Value → Shared → Prop} {s : Shared}
theorem pyNext_list_end_hot {it l x1 : Addr} {i : Nat} {items : Array Value} {Q : Option Value → Shared → Prop} (hot : HotAt A x1 s.heap)
    (hit : s.heap.IsListIter it l i) (hl : s.heap.IsList l items) (hx : items[i]? = none)
    (hQ : ∀ h', (∀ b o, b ≠ it → s.heap.get? b = some o → h'.get? b = some o) → Q none { s with heap := h' }) : wpAny (model prog w) A (pyNext (.ref it)) Q E s := by
  obtain ⟨o, ho, hc, hd⟩ := id hit
  obtain ⟨ol, hol, _, nl, hdl⟩ := hl
  obtain ⟨hh, o1, vs1, h1, d1, c1⟩ := hot
  have hne : x1 ≠ it := fun z => by
    rw [z, ho] at h1; cases h1
    rw [hd] at d1
    have e := Data.fields.inj d1
    rw [← e] at c1
    simp at c1
  unfold pyNext
  refine wpAny_bind (wpAny_attempt (wpAny_callSpecial?_slot (name := Str.ofString "__next__") hit.typeIs slot_listiter_next
    (wpAny_call_entry slot_listiter_next hit.typeIs entry_listiter_next ?_ (args_listiter_next _))))
  show wpAny _ _ (field (.ref it) 0 >>= _) _ _ s
  refine wpAny_bind (wpAny_field ho hd (x := .ref l) rfl ?_)
  show wpAny _ _ (if (Value.ref l == Value.none) = true then _ else _) _ _ s
  rw [if_neg (show ¬ ((Value.ref l == Value.none) = true) from Bool.false_ne_true)]
  show wpAny _ _ (field (.ref it) 1 >>= _) _ _ s
  refine wpAny_bind (wpAny_field ho hd (x := .int i 0) rfl ?_)
  show wpAny _ _ (seqItems? (.ref l) >>= _) _ _ s
  refine wpAny_bind (wpAny_seqItems hol hdl ?_)
  simp only [Int.toNat_natCast, hx]
  refine wpAny_bind (wpAny_rule (wpAny_bind (wpAny_setField ho hd (by simp) ?_)))
  show wpAny _ _ (newExc (.type "StopIteration") [] >>= _) _ _ _
  refine wpAny_bind ?_
  simp only [newExc, newTuple]
  refine wpAny_bind (wpAny_newObj_type ?_ (by size_fits))
  refine wpAny_bind (m := firstArgMember _ _) (wpAny_of_eq (a := Value.none) (by first | rfl | (simp only [firstArgMember]; rfl)) ?_)
  refine wpAny_newObj_type ?_ (by size_fits)
  have g1 : ∀ b o, b ≠ it → s.heap.get? b = some o → (s.heap.update it (Obj.mapFields (·.setIfInBounds 0 Value.none))).get? b = some o := fun b o hb e => by
    rw [Heap.get?_update_other _ _ (Ne.symm hb)]
    exact e
  refine raiseNew_hot ⟨hh, o1, vs1, Heap.get?_push_of_some _ (Heap.get?_push_of_some _ (g1 _ _ hne h1)), d1, c1⟩ (Nat.ne_of_lt (Heap.lt_size (Heap.get?_push_of_some _ (g1 _ _ hne h1)))) (Heap.get?_push_size _ rfl) rfl (by first | (simp; done) | (simp; omega) | (simp only [Array.size_append]; simp; omega)) ?_
  refine wpAny_bind (wpAny_isInstance (T := "StopIteration") (b := true) ⟨_, Heap.get?_update_self _ (Heap.get?_push_size _ rfl) rfl, rfl⟩ isSubtype_stop ?_)
  refine wpAny_pure (hQ _ fun b o hb e => ?_)
  rw [Heap.get?_update_other _ _ (Nat.ne_of_gt (Heap.lt_size (Heap.get?_push_of_some _ (g1 _ _ hb e))))]
  exact Heap.get?_push_of_some _ (Heap.get?_push_of_some _ (g1 _ _ hb e))
end
/-- the handled exception among some pins -/
def HotP (X : Cx) (pins : List (Addr × Obj)) : Prop := ∃ p : Addr × Obj, Hot1 X.A p ∧ p ∈ pins
theorem HotP.at {X : Cx} {pins : List (Addr × Obj)} {σ : L2.St} {H : Hp} {s : Shared} (c : HotP X pins) (I : Inv X pins σ H s) : ∃ x1, HotAt X.A x1 s.heap := by
  obtain ⟨p, ⟨hh, v1, e1, c1⟩, hp⟩ := c
  exact ⟨p.1, hh, p.2, v1, (I.pin p (List.mem_append_right _ hp)).1, e1, c1⟩
theorem inv_addPin {X : Cx} {pins : List (Addr × Obj)} {σ : L2.St} {H : Hp} {s : Shared} {p : Addr × Obj} (I : Inv X pins σ H s) (h : s.heap.get? p.1 = some p.2 ∧ H p.1 = none ∧ p.1 ≠ X.env.locals ∧ p.1 ∉ X.fs ∧ ∀ v, p.2.data ≠ .cell v) : Inv X (p :: pins) σ H s :=
  ⟨I.ok, I.os, I.bare, I.base, I.loc, I.cell, I.free, I.freeC, fun q hq => by
    rcases List.mem_append.mp hq with z | z
    · exact I.pin q (List.mem_append_left _ z)
    · rcases List.mem_cons.mp z with z | z
      · rw [z]; exact h
      · exact I.pin q (List.mem_append_right _ z), I.hok, I.len⟩
structure TurnG (P : Program) (w : World) (K : PySem.W.Frag) (tg : Expr) (J : It) (fp : List Addr) (it : Addr) (tn : Nat → Heap → Prop) : Prop where
  mem : it ∈ fp
  obj : ∀ i h, tn i h → ∀ b ∈ fp, ∃ o, h.get? b = some o ∧ ∀ v, o.data ≠ .cell v
  keep : ∀ i h h', tn i h → (∀ b ∈ fp, ∀ o, h.get? b = some o → h'.get? b = some o) → tn i h'
  item : ∀ (X : Cx), X.prog = P → X.w = w → X.K = K → ∀ (i : Nat) (pins : List (Addr × Obj)) (s : Shared) (σ : L2.St) (H : Hp) (E : Value → Shared → Prop), HotP X pins → Inv X pins σ H s → (∀ b ∈ fp, FpOk X pins H b) → tn i s.heap → J.go i H →
    wpAny (model P w) X.A (pyNext (.ref it)) (fun r s1 => ∃ u, r = some u ∧
      wpAny (model P w) X.A (letOwnedTupleGo tg (.ref it) u) (fun _ s2 => ∃ x H', Inv X pins σ H' s2 ∧ RelV x u ∧ J.yld i H x H' ∧ tn (i + 1) s2.heap ∧ ∀ b ∈ fp, H' b = none) E s1) E s
  done : ∀ (X : Cx), X.prog = P → X.w = w → X.K = K → ∀ (i : Nat) (pins : List (Addr × Obj)) (s : Shared) (σ : L2.St) (H : Hp) (E : Value → Shared → Prop), HotP X pins → Inv X pins σ H s → (∀ b ∈ fp, FpOk X pins H b) → tn i s.heap → J.stop i H →
    wpAny (model P w) X.A (pyNext (.ref it)) (fun r s1 => r = none ∧ Inv X pins σ H s1) E s
  self : ∀ (A : Around) (i : Nat) (s : Shared) (Q : Value → Shared → Prop) (E : Value → Shared → Prop), tn i s.heap → Q (.ref it) s → wpAny (model P w) A (pyIter (.ref it)) Q E s
theorem turn_listG {P : Program} {w : World} {K : PySem.W.Frag} {tg : Expr} (a it : Addr) : TurnG P w K tg (Itl K a) [it] it (fun i h => h.IsListIter it a i) where
  mem := by simp
  obj := fun i h st b hb => by
    have e : b = it := by simpa using hb
    subst e
    obtain ⟨o, e, c, d⟩ := st
    exact ⟨o, e, fun v z => by rw [d] at z; cases z⟩
  keep := fun i h h' st k => st.at fun o e => k it (by simp) o e
  item := by
    intro X hP hw hK i pins s σ H E _ I hf st hg
    subst hP hw hK
    obtain ⟨xs, x, hq, hx⟩ := hg
    obtain ⟨its, rv, p, hz⟩ := I.list hq
    obtain ⟨u, hu, ru⟩ := rv.get hx
    obtain ⟨f0, f1, f2, f3, f4, f5⟩ := hf it (by simp)
    refine wpAny_pyNext_list_item st p.isList (x := u) (by simpa using hu) fun h' st' sb => ?_
    have I1 : Inv X pins σ H { s with heap := h' } := I.turned (t' := s.toks) (fun b o hb e => (sb.2 b hb).trans e) f0 f1 f3 f4 f5
    obtain ⟨o, e, c, d⟩ := id st'
    exact ⟨u, rfl, go_of (s := { s with heap := h' }) e c d (by decide) ⟨x, H, I1, ru, ⟨rfl, fun ys hy => by rw [I.list_inj hy hq]; exact hx⟩, st', fun b hb => (hf b hb).1⟩⟩
  done := by
    intro X hP hw hK i pins s σ H E hot I hf st hg
    subst hP hw hK
    obtain ⟨xs, hq, hx⟩ := hg
    obtain ⟨its, rv, p, hz⟩ := I.list hq
    obtain ⟨f0, f1, f2, f3, f4, f5⟩ := hf it (by simp)
    have hl := rv.length
    obtain ⟨x1, hot⟩ := hot.at I
    exact pyNext_list_end_hot hot st p.isList (by simp; omega) fun h' eb => ⟨rfl, I.turned (t' := s.toks) (fun b o hb e => eb b o hb e) f0 f1 f3 f4 f5⟩
  self := fun _ _ _ _ _ st h => wpAny_pyIter_listiter st h
def PIEG (X : Cx) (pins : List (Addr × Obj)) (σ : L2.St) (tg : Expr) (R : It → Hp → Prop) (itv : Value) (s2 : Shared) : Prop :=
  ∃ (it : Addr) (fp : List Addr) (tn : Nat → Heap → Prop) (J : It) (H' : Hp), itv = .ref it ∧ Inv X pins σ H' s2 ∧ TurnG X.prog X.w X.K tg J fp it tn ∧ tn 0 s2.heap ∧ (∀ b ∈ fp, FpOk X pins H' b) ∧ R J H'
structure PIG (X : Cx) (tg iter : Expr) (wi : TI) : Prop where
  run : ∀ (pins : List (Addr × Obj)) (s : Shared) (σ : L2.St) (H : Hp) (R : It → Hp → Prop), Inv X pins σ H s → wi σ H R →
    wpAny (model X.prog X.w) X.A (eval iter X.env) (fun v s1 => wpAny (model X.prog X.w) X.A (pyIter v) (PIEG X pins σ tg R) X.xe s1) X.xe s
theorem pi_listG {X : Cx} {tg l : Expr} {tl : TE} (hl : PE X l tl) : PIG X tg l (iList X.K tl) := by
  refine ⟨fun pins s σ H R I h => ?_⟩
  refine thn (hl.run pins s σ H _ I h) fun v s1 ⟨x, H1, I1, r1, q1⟩ => ?_
  obtain ⟨a, e, ⟨xs, hq⟩, q⟩ := q1
  subst e
  cases r1
  obtain ⟨its, rv, p, hz⟩ := I1.list hq
  refine wpAny_pyIter_list p.isList ?_
  refine ⟨s1.heap.objs.size, [s1.heap.objs.size], _, _, H1, rfl, I1.kept (t' := s1.toks) fun b o e => Heap.get?_push_of_some _ e, turn_listG a _, ⟨_, Heap.get?_push_size _ rfl, rfl, rfl⟩, fun b hb => ?_, q⟩
  have e : b = s1.heap.objs.size := by simpa using hb
  subst e
  exact I1.fpOk (Nat.le_refl _) (I1.hok.fresh (Nat.le_refl _))
section
variable {X : Cx}
theorem lc_coreG {pins : List (Addr × Obj)} {s : Shared} {σ : L2.St} {H : Hp} {Q : VK} {elt tg iter : Expr} {ifs : List Expr} {scope : Scope} {own : List (Str × Nat)} {pos pos' : Pos} {wi : TI} {g : TG} {tt : TT} {te : TE} {use : Option (Value → Sem Unit)} {Qf : Value → Shared → Prop}
    (hc : HotC X) (hN : X.N.Nodup) (I : Inv X pins σ H s) (hi : PIG X tg iter wi) (ok : BlkOk X.N X.env.scope scope own)
    (hg : ∀ (s : Shared) (H : Hp) (C : Addr) (cl : List (Str × Addr)) (fp : List Addr), PG (X.blk s H scope (compEnvC scope cl C X.env) fp) tg g) (ht : ∀ (s : Shared) (H : Hp) (C : Addr) (cl : List (Str × Addr)) (fp : List Addr), PTs (X.blk s H scope (compEnvC scope cl C X.env) fp) ifs tt)
    (he : ∀ (s : Shared) (H : Hp) (C : Addr) (cl : List (Str × Addr)) (fp : List Addr), PE (X.blk s H scope (compEnvC scope cl C X.env) fp) elt te) (hs : ∀ x, foldedSetIterable iter X.env x = pure x)
    (h : tLc wi g tt te (own.map (·.2)) σ H Q)
    (hRR : ∀ D C s' m H', Inv X pins σ H' s' → Q (.ref D) H' → s'.heap.Ns C m → FpOk X pins H' C → compPost (model X.prog X.w) X.A X.xe use Qf (.ref D) C (.ok .next) s') :
    wpAny (model X.prog X.w) X.A (comprehension (.ListComp elt [⟨tg, iter, ifs, 0⟩] scope pos) scope X.env pos' (newList []) false (eval iter X.env) use) Qf X.xe s := by
  have hfree : ∀ y ∈ scope.names, y.2 = .free → ∃ c, X.env.cells.lookup y.1 = some c := fun y hy e => by
    rcases ok.free y hy e with k | k
    · exact I.ok.has _ (.inl k)
    · exact I.ok.has _ (.inr k)
  refine wpAny_comprehension_free (use := use) rfl hs (closure_ok hfree) ok.kind (fun y hy e => by rw [ok.uniq y hy, e])
    (thn (hi.run pins s σ H _ I h) fun xv s1 hx => thn hx fun itv s2 h2 => ?_)
  obtain ⟨it, fp, tn, J, H2, e, I2, T, st2, f2, q⟩ := h2
  subst e
  refine wpAny_newObj_type (newEnv_comp ?_) (by show 0 ≤ sizeLine; decide)
  generalize hD : s2.heap.objs.size = D
  have hDn : H2 D = none := I2.hok.fresh (Nat.le_of_eq hD)
  obtain ⟨W, ⟨m0, w0⟩, turn⟩ := q D hDn
  -- the new list
  generalize hs3 : ({ s2 with heap := s2.heap.push { cls := .type "list", data := .seq ([] : List Value).toArray } } : Shared) = s3
  have I3 : Inv X pins σ (upd H2 D (.lst [])) s3 := by
    rw [← hs3]
    refine I2.laid (t' := s2.toks) (fun b o e => Heap.get?_push_of_some _ e) (Nat.le_of_eq hD) ⟨Nat.zero_le _, [], 0, .nil, ?_⟩
    rw [← hD]
    exact Heap.get?_push_size _ rfl
  have h3 : s3.heap = s2.heap.push { cls := .type "list", data := .seq ([] : List Value).toArray } := by rw [← hs3]
  have sz : ∀ b ∈ fp, b < s2.heap.objs.size := fun b hb => by
    obtain ⟨o, e, _⟩ := T.obj _ _ st2 b hb
    exact Heap.lt_size e
  have f3 : ∀ b ∈ fp, FpOk X pins (upd H2 D (.lst [])) b ∧ b < s3.heap.objs.size := fun b hb => by
    have hlt := sz b hb
    refine ⟨⟨?_, (f2 b hb).2⟩, by rw [h3, Heap.size_push]; exact Nat.lt_succ_of_lt hlt⟩
    rw [upd_ne (by rw [← hD]; exact Nat.ne_of_lt hlt)]
    exact (f2 b hb).1
  have st3 : tn 0 s3.heap := T.keep _ _ _ st2 fun b _ o e => by rw [h3]; exact Heap.get?_push_of_some _ e
  have I4' := block_start I3 ok hN f3
  obtain ⟨pn, hot, hpn⟩ := hc
  have P3 := I3.pin pn (List.mem_append_left _ hpn)
  have I4 := inv_addPin (p := pn) I4' ⟨pushCells_keeps _ _ _ _ (Heap.get?_push_of_some _ P3.1), P3.2.1, Nat.ne_of_lt (Heap.lt_size P3.1), fun hb => ((List.mem_cons.mp (I3.stkSub pn.1 hb)).elim P3.2.2.1 P3.2.2.2.1), P3.2.2.2.2⟩
  have pg := hg s3 (upd H2 D (.lst [])) s3.heap.objs.size (cellsFrom (s3.heap.objs.size + 1) scope.names (cloFrom X.env.cells scope.names [])) fp
  have pt := ht s3 (upd H2 D (.lst [])) s3.heap.objs.size (cellsFrom (s3.heap.objs.size + 1) scope.names (cloFrom X.env.cells scope.names [])) fp
  have pe := he s3 (upd H2 D (.lst [])) s3.heap.objs.size (cellsFrom (s3.heap.objs.size + 1) scope.names (cloFrom X.env.cells scope.names [])) fp
  show codeAny _ _ (.compStart (.ListComp elt [⟨tg, iter, ifs, 0⟩] scope pos) 0 (.ref it) (.ref D) (compEnvC scope (cellsFrom (s3.heap.objs.size + 1) scope.names (cloFrom X.env.cells scope.names [])) s3.heap.objs.size X.env)) (compPost (model X.prog X.w) X.A X.xe use Qf (.ref D) s3.heap.objs.size) { s3 with heap := pushCells (s3.heap.push { cls := .type "dict", data := .dict #[] }) scope.names }
  have nfp : ∀ b ∈ fp, (upd H2 D (.lst [])) b = none := fun b hb => (f3 b hb).1.1
  generalize hce : compEnvC scope (cellsFrom (s3.heap.objs.size + 1) scope.names (cloFrom X.env.cells scope.names [])) s3.heap.objs.size X.env = ce at I4 pg pt pe ⊢
  have cL : ce.locals = s3.heap.objs.size := by subst hce; rfl
  generalize hH3 : upd H2 D (.lst []) = H3 at I3 I4 pg pt pe w0 nfp f3
  generalize hs4 : ({ s3 with heap := pushCells (s3.heap.push { cls := .type "dict", data := .dict #[] }) scope.names } : Shared) = s4 at I4 ⊢
  have st4 : tn 0 s4.heap := T.keep _ _ _ st3 fun b _ o e => by rw [← hs4]; exact pushCells_keeps _ _ _ _ (Heap.get?_push_of_some _ e)
  have stat : ∀ {σ' : L2.St} {H' : Hp} {s' : Shared}, Inv (X.blk s3 H3 scope ce fp) [pn] σ' H' s' → (∀ b ∈ fp, H' b = none) → ∀ b ∈ fp, FpOk (X.blk s3 H3 scope ce fp) [pn] H' b := fun {σ' H' s'} I' hn b hb => by
    refine ⟨hn b hb, (I'.ok.exf b hb).1, I'.ok.exfs b hb, .inl hb, fun x c e => (I'.ok.exf b hb).2 x c e, fun p hp z => ?_⟩
    have ep : p = pn := by simpa using (show p ∈ ([] : List (Addr × Obj)) ++ [pn] from hp)
    subst ep
    exact (f3 b hb).1.2.2.2.2.2 p (List.mem_append_left _ hpn) z
  have loop : codeAny (model X.prog X.w) X.A (.compLoop (.ListComp elt [⟨tg, iter, ifs, 0⟩] scope pos) 0 (.ref it) (.ref D) ce) (compPost (model X.prog X.w) X.A X.xe use Qf (.ref D) s3.heap.objs.size) s4 := by
    refine compLoop_any (fun n s' => ∃ i H', Inv (X.blk s3 H3 scope ce fp) [pn] (wipe σ (own.map (·.2))) H' s' ∧ tn i s'.heap ∧ (∀ b ∈ fp, H' b = none) ∧ W i n H') ?_ m0 ⟨0, H3, I4, st4, nfp, w0⟩
    rintro n s5 ⟨i, H5, I5, st5, n5, w5⟩
    rcases turn i n H5 w5 with ⟨stop, qq⟩ | ⟨go, Nx, hNx, step⟩
    · have td := T.done (X.blk s3 H3 scope ce fp) rfl rfl rfl i [pn] s5 _ H5 (fun _ _ => False) ⟨pn, hot, List.mem_cons_self⟩ I5 (stat I5 n5) st5 stop
      refine thnF td fun r s6 ⟨hr, I6⟩ => ?_
      subst hr
      -- back in the def's context
      have I7 : Inv X pins σ H5 s6 := I3.call' (ch := fp) I6.os I6.base I6.hok I6.bare fun b hb => ⟨(f3 b hb).1.2.2.2.1, (f3 b hb).1.2.1, (f3 b hb).1.2.2.2.2.1, (f3 b hb).1.2.2.2.2.2⟩
      have nC : H5 s3.heap.objs.size = none := by
        have z : H5 ce.locals = none := I6.free
        rw [cL] at z
        exact z
      obtain ⟨m, hn, _⟩ := I6.loc
      have hn : s6.heap.Ns ce.locals m := hn
      rw [cL] at hn
      exact hRR D s3.heap.objs.size s6 m H5 I7 qq hn (I3.fpOk (Nat.le_refl _) nC)
    · have ti := T.item (X.blk s3 H3 scope ce fp) rfl rfl rfl i [pn] s5 _ H5 (fun _ _ => False) ⟨pn, hot, List.mem_cons_self⟩ I5 (stat I5 n5) st5 go
      refine thnF ti fun r s6 ⟨u, hr, h6⟩ => ?_
      subst hr
      refine thnF h6 fun _ s7 ⟨x, H7, I7, r7, y7, st7, n7⟩ => ?_
      have I7' := I7.pinned (stat I7 n7) (T.obj _ _ st7)
      refine thnF (pg.run _ s7 _ H7 x u _ I7' r7 (step x H7 y7)) fun _ s8 ⟨σ8, H8, I8, hw8, q8⟩ => ?_
      refine thnF (pt.run _ s8 σ8 H8 _ I8 q8) fun b s9 ⟨H9, I9, q9⟩ => ?_
      -- the turn's end
      have fin : ∀ {s' : Shared} {H' : Hp}, Inv (X.blk s3 H3 scope ce fp) ([pn] ++ pinsAt fp s7.heap) σ8 H' s' → Nx H' → ∃ m, m < n ∧ ∃ i H', Inv (X.blk s3 H3 scope ce fp) [pn] (wipe σ (own.map (·.2))) H' s' ∧ tn i s'.heap ∧ (∀ b ∈ fp, H' b = none) ∧ W i m H' := fun {s' H'} I' nx => by
        obtain ⟨m', hm, w'⟩ := hNx H' nx
        have pin' : ∀ b ∈ fp, ∀ o, s7.heap.get? b = some o → s'.heap.get? b = some o ∧ H' b = none := fun b hb o e =>
          let z := I'.pin (b, o) (List.mem_append_right _ (List.mem_append_right _ (mem_pinsAt hb e)))
          ⟨z.1, z.2.1⟩
        have hl : (wipe σ (own.map (·.2))).length = σ8.length := by rw [← hw8, wipe_length]
        refine ⟨m', hm, i + 1, H', (I'.unpinned (pins := [pn])).weak hl (fun j v e => ?_), T.keep _ _ _ st7 fun b hb o e => (pin' b hb o e).1, fun b hb => ?_, w'⟩
        · rw [← hw8] at e
          exact (wipe_some e).1
        · obtain ⟨o, e, _⟩ := T.obj _ _ st7 b hb
          exact (pin' b hb o e).2
      cases b with
      | false =>
        simp only [Bool.false_eq_true, if_false] at q9 ⊢
        exact fin I9 q9
      | true =>
        simp only [if_true] at q9 ⊢
        refine thnF (pe.run _ s9 σ8 H9 _ I9 q9) fun z s10 ⟨yv, H10, I10, r10, acc, hD10, hz10, nx⟩ => ?_
        exact app_ok (X := X.blk s3 H3 scope ce fp) I10 hD10 hz10 r10 fun s11 I11 => fin I11 nx
  exact codeAny_compStart_list loop (T.self X.A 0 _ _ _ st4 loop)
theorem ps_setLcG {i : Nat} {y : Str} {py : Pos} {elt tg iter : Expr} {ifs : List Expr} {scope : Scope} {own : List (Str × Nat)} {pos spos : Pos} {wi : TI} {g : TG} {tt : TT} {te : TE} (hc : HotC X) (hN : X.N.Nodup) (hy : X.N[i]? = some y) (hyl : X.env.scope.names.lookup y = some .local)
    (hsw : swapsWith (.ListComp elt [⟨tg, iter, ifs, 0⟩] scope pos) (some (.Name y py)) spos.line X.env = pure true) (hi : PIG X tg iter wi) (ok : BlkOk X.N X.env.scope scope own)
    (hg : ∀ (s : Shared) (H : Hp) (C : Addr) (cl : List (Str × Addr)) (fp : List Addr), PG (X.blk s H scope (compEnvC scope cl C X.env) fp) tg g) (ht : ∀ (s : Shared) (H : Hp) (C : Addr) (cl : List (Str × Addr)) (fp : List Addr), PTs (X.blk s H scope (compEnvC scope cl C X.env) fp) ifs tt)
    (he : ∀ (s : Shared) (H : Hp) (C : Addr) (cl : List (Str × Addr)) (fp : List Addr), PE (X.blk s H scope (compEnvC scope cl C X.env) fp) elt te) (hs : ∀ x, foldedSetIterable iter X.env x = pure x := by intro _; rfl) :
    PS X (.Assign [.Name y py] (.ListComp elt [⟨tg, iter, ifs, 0⟩] scope pos) spos) (tAsg (tLc wi g tt te (own.map (·.2))) (gName i)) := by
  refine ⟨fun pins s σ H D I h => ?_⟩
  rw [exec_Assign_Name_used _ _ _ _ hsw]
  refine wpAny_bind (wpAny_standAt (wpAny_bind ?_))
  show wpAny _ X.A (do let _ ← comprehension (.ListComp elt [⟨tg, iter, ifs, 0⟩] scope pos) scope X.env (firstIterPos [⟨tg, iter, ifs, 0⟩] pos) (newList []) false (eval iter X.env) (some (assign (.Name y py) X.env))) _ _ s
  have h : tLc wi g tt te (own.map (·.2)) σ H (fun x H1 => gName i x σ H1 D.nx) := h
  refine wpAny_bind (thn (lc_coreG (Qf := fun _ s' => SP X pins D .next s') hc hN I hi ok hg ht he hs h fun L C s' m H' I' q hn f => ?_) fun _ s' hq => wpAny_pure (wpAny_pure hq))
  show wpAny _ _ (assign (.Name y py) X.env (.ref L)) _ _ _
  refine wpAny_assign_Name (store_ok2 (v := V.ref L) I' hN hy (.inl hyl) rfl (fun s2 I2 ⟨a, sb, ha⟩ => ?_) (.inr hyl))
  obtain ⟨f0, f1, f2, f3, f4, f5⟩ := f
  have haC : C ≠ a := by
    rcases ha with z | z
    · rw [z]; exact f1
    · exact fun e => f4 y a z e.symm
  refine ⟨m, hn.sameBut sb haC, fun h3 sb3 => ?_⟩
  exact ⟨_, H', I2.turned (t' := s2.toks) (fun b o hb e => (sb3.2 b hb).trans e) f0 f1 f3 f4 f5, q⟩
end
/-- the suite of an exception whose context is None -/
theorem hot_suite {X : Cx} {a : Addr} {oe : Obj} {cls : Value} {d : Option Addr} {pn : List (Addr × Obj)} (hz : L2N.Zn cls d oe) (hf : ∃ vs, oe.data = .fields vs) : HotC (X.suite a ((a, oe) :: pn)) := by
  obtain ⟨vs, hd⟩ := hf
  exact ⟨(a, oe), ⟨rfl, vs, hd, hz.2.2 vs hd⟩, List.mem_cons_self⟩
end Cw
set_option Elab.async false
set_option linter.all false
set_option maxRecDepth 100000
set_option maxHeartbeats 4000000
/-! own exceptions with fields whose context is None -/
namespace Cw
open PySem PySem.Spec PyProof.Rows L2
section
variable {X : Cx} {e : Expr} {es : List Expr} {ta : TA} {p pos : PySem.Pos}
theorem pmkN_oex {CX : CXT} {x : Str} {C fI : Addr} {k : Nat} {fd : FuncData} {ps : List Str} {sp : Sp} {ds : List Value} {dvs : List V} (T : OexC X.K C) (iC : PySem.W.findIn X.K (.ref C) "__init__" = some (some (.ref fI))) (tI : PySem.W.typeIn X.K (.ref fI) = some (.type "function"))
    (F1 : FnOk X.prog X.w X.K X.mg X.base CX k fI fd ps sp) (hr : Room (k + 1) X.A) (hb : Binds X.K fd ps ds) (hd : Vals dvs ds) (hx : Passes CX X (fun _ _ _ => False)) (hg : Gl X x) (hm : X.mg x = some (.ref C)) (ha : PA X (e :: es) ta)
    (hdb : (x == ("__debug__" : Str)) = false := by decide) (he : starEach (e :: es) X.env = (false, eval e X.env) :: starEach es X.env := by rfl) (hpl : (backTo pos (starEach es X.env)).any (·.1) = false := by rfl) :
    L2N.PMk X (.Call (.Name x p) (e :: es) [] pos) (tMkO C sp dvs ta) := by
  intro pins s σ H Q I h
  obtain ⟨nm, q, N, bs, bm, sn, sub, ab, col, dd, k0, k1, k2, k3, k5, hC, hbm⟩ := T.cls
  refine wpAny_Call_Name_kw (ld_glob I hg hm ?_ hdb)
  refine PySem.W.callWith_K (h₀ := X.base) I.ok.mod.kin T.kC (thn (ha.run pos pins s σ H _ I h) fun us s1 ⟨vs, H1, I1, r1, hz, q1⟩ => ⟨I1.kIn, ?_⟩) he hpl
  show wpAny _ _ (call (.ref C) us) _ _ _
  obtain ⟨hp, g, dr, tk, os⟩ := s1
  have hsz : hp.objs.size ≤ hp.objs.size + 1 := Nat.le_succ _
  have hn : H1 (hp.objs.size + 1) = none := I1.hok.fresh hsz
  have hq := q1 (hp.objs.size + 1) hn
  have kk : ∀ b o, hp.get? b = some o → ((hp.push (PySem.W.kdv_tup us)).push (PySem.HandSPX.excO C hp.objs.size)).get? b = some o := fun b o e => Heap.get?_push_of_some _ (Heap.get?_push_of_some _ e)
  have hget : ((hp.push (PySem.W.kdv_tup us)).push (PySem.HandSPX.excO C hp.objs.size)).get? (hp.objs.size + 1) = some (PySem.HandSPX.excO C hp.objs.size) := by heap_get
  have I2 : Inv X pins σ (upd H1 (hp.objs.size + 1) (exo (hp.objs.size + 1) C none)) ⟨(hp.push (PySem.W.kdv_tup us)).push (PySem.HandSPX.excO C hp.objs.size), g, dr, tk, os⟩ :=
    I1.laid (t' := tk) (a := hp.objs.size + 1) (o := exo (hp.objs.size + 1) C none) (h' := (hp.push (PySem.W.kdv_tup us)).push (PySem.HandSPX.excO C hp.objs.size)) kk hsz (exo_ok hget)
  have r2 : Vals (V.ref (hp.objs.size + 1) :: (vs ++ dvs)) (Value.ref (hp.objs.size + 1) :: (us ++ ds)) := .cons rfl (r1.append hd)
  have hl : (Value.ref (hp.objs.size + 1) :: us ++ ds).length = ps.length := by
    have e := r2.length
    rw [F1.len _ _ _ _ hq] at e
    exact e.symm
  have hus : us.length ≤ sizeLine := by
    rw [← Paired.length r1, sizeLine_eq]
    omega
  refine wpAny_call (PySem.HandSPX.call_own F.excBase_ValueError (fun Y => PySem.HandSPX.refsVE_contains Y bm hbm) (I1.kIn _ _ hC) (PySem.W.looks_findIn I1.kIn iC) (fun self => PySem.W.bind_fn I1.kIn self tI) hus
    (codeAny_mono (F1.run _ X.stack _ _ ⟨Value.ref (hp.objs.size + 1) :: us, []⟩ (Value.ref (hp.objs.size + 1) :: (us ++ ds)) _ _ (fun _ _ _ => False) (hr.make C us []) (I2.env0.make C us []) (hb _ (Value.ref (hp.objs.size + 1) :: us) I2.kIn hl) r2 hq) fun r s' hq' => ?_))
  cases r with
  | error er => exact hx pins σ _ _ er s' I2 hq'
  | ok fl =>
    cases fl with
    | ret u =>
      obtain ⟨v, H2, os2, bare2, un2, hok2, rv, ev, d, fs, ea, ed, hd1, q2⟩ := hq'
      subst ev
      obtain ⟨h2, g2, d2, t2, os'⟩ := s'
      obtain ⟨t0, G, J, kG, ge, hoe, na⟩ := mk_end0 (d2 := d2) (t2 := t2) I1 hsz kk un2 hok2 os2 bare2 ea ed hd1
      refine ⟨rv, hp.objs.size + 1, _, _, ⟨G, g2, d2, t2, os'⟩, _, .ref C, some d, rfl, J, kG, ge, hoe, ⟨rfl, rfl, fun vs hv => ?_⟩, rfl, rfl, na, rfl, bare2, raises_own T.exC T.tyC, q2⟩
      cases hv
      rfl
    | next => exact False.elim hq'
    | brk => exact False.elim hq'
    | cont => exact False.elim hq'
end
section
variable {X : Cx} {k n : Nat} {x : Str} {B : Addr} {g : List V → List (Str × V)} {e : Expr} {es : List Expr} {ta : TA} {p pos : PySem.Pos}
theorem pmkN_E (D : XDef X.prog X.w X.K X.mg X.base k x B n g) (hr : Room (k + 1) X.A) (ha : PA X (e :: es) ta) (hg : Gl X x := by rfl) (hdb : (x == ("__debug__" : Str)) = false := by decide)
    (he : starEach (e :: es) X.env = (false, eval e X.env) :: starEach es X.env := by rfl) (hpl : (backTo pos (starEach es X.env)).any (·.1) = false := by rfl) : L2N.PMk X (.Call (.Name x p) (e :: es) [] pos) (tMkO B (spE B n g) [] ta) := by
  obtain ⟨f, fd, ps, a, b, c, d⟩ := D.ex
  exact pmkN_oex D.oex a b d hr c .nil pass0 hg D.at ha hdb he hpl
end
theorem takes0N {X : Cx} : L2N.Takes X (fun _ _ _ _ => False) := fun _ _ x => by
  obtain ⟨_, _, _, _, _, _, _, _, _, _, _, _, _, _, _, _, z⟩ := x
  exact z.elim
section
variable {P : Program} {w : World} {K : PySem.W.Frag} {mg : Str → Option Value} {base : Heap} {k : Nat} {x : Str} {ps N : List Str} {sp : Sp} {st : Stmt}
/-- a def that may raise; what it lets out has no context -/
theorem FnAt.okN (F : FnAt K mg x st) (S : FnScope N ps (defScope st))
    (hb : ∀ (kV doc pm : Value) (an : Option Addr) (cdv ct : Value) (us : List Value), us.length = ps.length → bindArgs (PySem.W.fnOf x x (defArgs st) (defBody st) (defScope st) .none kV doc pm an cdv ct) ⟨us, []⟩ = pure (ps.zip us))
    (len : ∀ vs H Q E, sp vs H Q E → vs.length = ps.length)
    (hbody : ∀ (f : Addr) (cdv : Value) (A : Around) (outer : List Env) (s : Shared) (H : Hp) (vs : List V) (Q : VK) (E : XK), Room k (A.deeper (envOfC x (defScope st) s.heap.objs.size f cdv)) → sp vs H Q E →
      ∃ t, PSs (cxOf (L2N.CX P w) P w K mg base N x (defScope st) f cdv A outer s H E) (defBody st) t ∧ t { nx := fun _ H' => Q .non H', rt := Q } (start N vs) H) : Def P w K mg base (L2N.CX P w) (k + 1) x ps sp := by
  obtain ⟨f, fd, hm, F⟩ := F.ex
  refine ⟨f, fd, hm, F.kp, ⟨F.binds hb, funLk F⟩, ?_⟩
  obtain ⟨oc, od, kV, doc, pm, an, cdv, ct, osl, rfl, lk, hcd⟩ := F.ex
  exact fn_of lk hcd S len fun A outer s H vs Q E hr hsp => hbody f cdv A outer s H vs Q E hr hsp
end
theorem ps_tryN {X : Cx} {x n : Str} {c : Value} {i : Nat} {body suite : List Stmt} {b₀ : Stmt} {np pos pos' : PySem.Pos} {tb : WX → TS} {ts : Addr → Value → Option Addr → TS} {Wout : WX} (hs : X.stack = X.env :: X.outer) (hf : X.env.frame = some X.env.locals) (hN : X.N.Nodup) (hi : X.N[i]? = some n) (hln : X.env.kindOf n = some .local) (hc : Names X x c) (tk : L2N.Takes X Wout)
    (hb : ∀ (W : WX) (pn : List (Addr × Obj)) (xe : Value → Shared → Prop), L2N.Takes (X.tr pn xe) W → PassesOwn (model X.prog X.w) X.A X.env xe → PSs (X.tr pn xe) body (tb W))
    (hsu : ∀ (a : Addr) (oe : Obj) (cls : Value) (d : Option Addr) (pn : List (Addr × Obj)), L2H.HotC (X.suite a ((a, oe) :: pn)) → Zc cls d oe → (∃ vs, oe.data = .fields vs) → PSs (X.suite a ((a, oe) :: pn)) (b₀ :: suite) (ts a cls d)) :
    PS X (.Try body [.ExceptHandler (some (.Name x np)) (some n) (b₀ :: suite) pos'] [] [] pos) (tTryA X.K c i ts Wout tb) := L2N.ps_try_as hs hf hN hi hln hc tk hb fun a oe cls d pn hz hd => hsu a oe cls d pn (hot_suite hz hd) hz.zc hd
theorem pi_listGK {X : Cx} {K : PySem.W.Frag} {tg e : Expr} {te : TE} (h : X.K = K) (he : PE X e te) : PIG X tg e (iList K te) := h ▸ pi_listG he
end Cw
set_option Elab.async false
set_option linter.all false
set_option maxRecDepth 100000
set_option maxHeartbeats 4000000
/-! plans that are not equal, in plain words -/
namespace Cw
open PySem PySem.Spec L2
theorem tabPairs_lt {ls : List Nat} {f : Nat → List Nat} (T : Tab ls f) {p : List Nat} (h : p ∈ tabPairs ls f) : ∃ a b, p = [a, b] ∧ a < b ∧ a ∈ ls ∧ b ∈ ls ∧ b ∈ f a := by
  obtain ⟨a, b, rfl, ha, hb, hm⟩ := pairsOf_mem.mp h
  obtain ⟨x, hx, hm⟩ := List.mem_flatMap.mp hm
  obtain ⟨y, hy, e⟩ := List.mem_map.mp hm
  obtain ⟨y1, y2, y3⟩ := T.sub x hx y hy
  by_cases hl : x < y
  · rw [(asc2 (T.lt x hx) (T.lt y y1) hl).1] at e
    injection e with e1 e2
    injection e2 with e2
    subst e1 e2
    exact ⟨_, _, rfl, hl, hx, y1, hy⟩
  · have hl : y < x := by omega
    rw [(asc2 (T.lt y y1) (T.lt x hx) hl).2] at e
    injection e with e1 e2
    injection e2 with e2
    subst e1 e2
    exact ⟨_, _, rfl, hl, y1, hx, y3⟩
section
variable {K : PySem.W.Frag} {H : Hp} {Q : VK} {p q : Addr} {n m : Int} {a b : List Nat}
end
end Cw
set_option Elab.async false
set_option linter.all false
set_option maxRecDepth 100000
set_option maxHeartbeats 4000000
/-! names in plain words: no letter stands behind a greater or an equal one that it could be exchanged back to -/
namespace Cw
structure CrOk (cr : Nat → List Nat) : Prop where
  sym : ∀ a b, a ∈ cr b → b ∈ cr a
  irr : ∀ a, ¬ a ∈ cr a
/-- s may stand behind the letters of the list (the nearest first) -/
def okAt (cr : Nat → List Nat) (s : Nat) : List Nat → Prop
  | [] => True
  | t :: r => t ≠ s ∧ (t ∈ cr s → t < s ∧ okAt cr s r)
/-- a name, its last letter first -/
def NFr (cr : Nat → List Nat) : List Nat → Prop
  | [] => True
  | s :: r => okAt cr s r ∧ NFr cr r
def NF (cr : Nat → List Nat) (w : List Nat) : Prop := NFr cr w.reverse
section
variable {cr : Nat → List Nat} {s k x : Nat} {d e : List Nat}
theorem okAt_app : ∀ {q : List Nat}, okAt cr s (q ++ e) → (∀ y ∈ q, y ∈ cr s) → okAt cr s e
  | [], h, _ => h
  | y :: q, h, hq => okAt_app (q := q) (h.2 (hq y (List.mem_cons_self ..))).2 fun z hz => hq z (List.mem_cons_of_mem _ hz)
theorem okAt_lt : ∀ {q : List Nat}, okAt cr s (q ++ e) → (∀ y ∈ q, y ∈ cr s) → ∀ y ∈ q, y < s
  | [], _, _, y, hy => nomatch hy
  | z :: q, h, hq, y, hy => by
    have h2 := h.2 (hq z (List.mem_cons_self ..))
    rcases List.mem_cons.mp hy with rfl | hy
    · exact h2.1
    · exact okAt_lt h2.2 (fun z hz => hq z (List.mem_cons_of_mem _ hz)) y hy
theorem okAt_remove (hk : k ∈ cr s) : ∀ {q : List Nat}, okAt cr s (q ++ k :: e) → okAt cr s (q ++ e)
  | [], h => (h.2 hk).2
  | y :: q, h => ⟨h.1, fun z => ⟨(h.2 z).1, okAt_remove hk (h.2 z).2⟩⟩
theorem okAt_insert (hk : k ≠ s) : ∀ {q : List Nat}, okAt cr s (q ++ e) → ((∀ y ∈ q, y ∈ cr s) → k < s) → okAt cr s (q ++ k :: e)
  | [], h, hl => ⟨hk, fun _ => ⟨hl (fun _ z => nomatch z), h⟩⟩
  | y :: q, h, hl => ⟨h.1, fun z => ⟨(h.2 z).1, okAt_insert hk (h.2 z).2 fun hq => hl fun w hw => by
      rcases List.mem_cons.mp hw with rfl | hw
      · exact z
      · exact hq w hw⟩⟩
theorem NFr_right : ∀ {a b : List Nat}, NFr cr (a ++ b) → NFr cr b
  | [], _, h => h
  | _ :: a, b, h => NFr_right (a := a) h.2
theorem NFr_remove (ok : CrOk cr) : ∀ {d : List Nat}, (∀ y ∈ d, y ∈ cr k) → NFr cr (d ++ k :: e) → NFr cr (d ++ e)
  | [], _, h => h.2
  | y :: d, hd, h => ⟨okAt_remove (ok.sym _ _ (hd y (List.mem_cons_self ..))) h.1, NFr_remove ok (fun z hz => hd z (List.mem_cons_of_mem _ hz)) h.2⟩
theorem NFr_insert (ok : CrOk cr) {h0 : Nat} (hh : k < h0) (hok : okAt cr k e) : ∀ {d : List Nat}, (∀ y ∈ d, y ∈ cr k) → NFr cr (d ++ h0 :: e) → h0 ∈ cr k → NFr cr (d ++ h0 :: k :: e)
  | [], _, h, hc => ⟨okAt_insert (q := []) (by omega) h.1 fun _ => hh, hok, h.2⟩
  | y :: d, hd, h, hc => by
    have hy := hd y (List.mem_cons_self ..)
    refine ⟨?_, NFr_insert ok hh hok (fun z hz => hd z (List.mem_cons_of_mem _ hz)) h.2 hc⟩
    have h1 : okAt cr y ((d ++ [h0]) ++ e) := by
      rw [List.append_assoc]
      exact h.1
    have h2 : okAt cr y ((d ++ [h0]) ++ k :: e) := okAt_insert (fun z : k = y => ok.irr k (by rw [← z] at hy; exact hy)) h1 fun hq => by
      have := okAt_lt h1 hq h0 (by simp)
      omega
    rw [List.append_assoc] at h2
    exact h2
/-! ### what a step does -/
theorem splitB_spec (part : List Nat) : ∀ ra b : List Nat, ∃ c, (splitB part ra b).2 = c ++ b ∧ (∀ y ∈ c, y ∈ part) ∧ ra = c.reverse ++ (splitB part ra b).1 ∧ ∀ y, (splitB part ra b).1.head? = some y → ¬ y ∈ part
  | [], b => ⟨[], rfl, fun _ z => (nomatch z), rfl, fun _ z => (nomatch z)⟩
  | y :: r, b => by
    unfold splitB
    by_cases h : y ∈ part
    · rw [if_pos h]
      obtain ⟨c, h1, h2, h3, h4⟩ := splitB_spec part r (y :: b)
      refine ⟨c ++ [y], by rw [h1, List.append_assoc]; rfl, fun z hz => ?_, ?_, h4⟩
      · rcases List.mem_append.mp hz with z | z
        · exact h2 _ z
        · rw [List.mem_singleton.mp z]
          exact h
      · rw [List.reverse_append]
        show y :: r = y :: (c.reverse ++ _)
        rw [← h3]
    · rw [if_neg h]
      refine ⟨[], rfl, fun _ z => (nomatch z), rfl, fun z hz => ?_⟩
      injection hz with hz
      exact hz ▸ h
/-- the two ways of a step, the name's last letter first: d are exchanged, then the kind is found or not -/
theorem stepOf_cases (part name : List Nat) (k : Nat) : ∃ d e : List Nat, name.reverse = d ++ e ∧ (∀ y ∈ d, y ∈ part) ∧ (∀ y, e.head? = some y → ¬ y ∈ part) ∧
    ((∃ e', e = k :: e' ∧ (stepOf part name k).reverse = d ++ e') ∨ (e.head? ≠ some k ∧ (stepOf part name k).reverse = (putIn k d.reverse).reverse ++ e)) := by
  obtain ⟨c, h1, h2, h3, h4⟩ := splitB_spec part name.reverse []
  rw [List.append_nil] at h1
  refine ⟨c.reverse, (splitB part name.reverse []).1, h3, fun y hy => h2 y (List.mem_reverse.mp hy), h4, ?_⟩
  unfold stepOf
  rw [h1]
  generalize (splitB part name.reverse []).1 = ra
  unfold stepAt
  by_cases hc : ra.head? = some k
  · rw [if_pos hc]
    cases ra with
    | nil => cases hc
    | cons y r =>
      injection hc with hc
      subst hc
      exact .inl ⟨r, rfl, by simp⟩
  · rw [if_neg hc]
    exact .inr ⟨hc, by simp⟩
/-- the letters below k, the others -/
theorem putIn_split (k : Nat) (b : List Nat) : ∃ b1 b2, b = b1 ++ b2 ∧ putIn k b = b1 ++ k :: b2 ∧ (∀ y ∈ b1, y < k) ∧ ∀ y, b2.head? = some y → ¬ y < k := by
  refine ⟨b.takeWhile (fun c => decide (c < k)), b.dropWhile (fun c => decide (c < k)), List.takeWhile_append_dropWhile.symm, rfl, fun y hy => ?_, fun y hy => ?_⟩
  · have := List.all_eq_true.mp (List.all_takeWhile (p := fun c => decide (c < k)) (l := b)) y hy
    exact of_decide_eq_true this
  · have := List.head?_dropWhile_not (fun c => decide (c < k)) b
    rw [hy] at this
    simpa using this
theorem okAt_all : ∀ {q : List Nat}, (∀ y ∈ q, y < k) → okAt cr k e → (∀ y ∈ q, y ∈ cr k) → okAt cr k (q ++ e)
  | [], _, h, _ => h
  | y :: q, hl, h, hq => ⟨by have := hl y (List.mem_cons_self ..); omega, fun _ => ⟨hl y (List.mem_cons_self ..), okAt_all (fun z hz => hl z (List.mem_cons_of_mem _ hz)) h fun z hz => hq z (List.mem_cons_of_mem _ hz)⟩⟩
theorem okAt_stop (h1 : e.head? ≠ some k) (h2 : ∀ y, e.head? = some y → ¬ y ∈ cr k) : okAt cr k e := by
  cases e with
  | nil => trivial
  | cons y r => exact ⟨fun z => h1 (by rw [z]; rfl), fun z => absurd z (h2 y rfl)⟩
theorem NF_step (ok : CrOk cr) {name : List Nat} (h : NF cr name) : NF cr (stepOf (cr k) name k) := by
  obtain ⟨d, e, e1, hd, he, hc⟩ := stepOf_cases (cr k) name k
  unfold NF at h ⊢
  rw [e1] at h
  rcases hc with ⟨e', rfl, e2⟩ | ⟨hk, e2⟩
  · rw [e2]
    exact NFr_remove ok hd h
  · rw [e2]
    obtain ⟨b1, b2, eb, ep, hb1, hb2⟩ := putIn_split k d.reverse
    have ed : d = b2.reverse ++ b1.reverse := by
      have := congrArg List.reverse eb
      rw [List.reverse_reverse, List.reverse_append] at this
      exact this
    rw [ep, List.reverse_append, List.reverse_cons]
    have hd1 : ∀ y ∈ b1.reverse, y ∈ cr k := fun y hy => hd y (by rw [ed]; exact List.mem_append_right _ hy)
    have hok : okAt cr k (b1.reverse ++ e) := okAt_all (fun y hy => hb1 y (List.mem_reverse.mp hy)) (okAt_stop hk he) hd1
    have hn : NFr cr (b1.reverse ++ e) := by
      rw [ed, List.append_assoc] at h
      exact NFr_right h
    cases b2 with
    | nil =>
      show NFr cr (([] ++ [k] ++ b1.reverse) ++ e)
      exact ⟨hok, hn⟩
    | cons y r =>
      have hy : ¬ y < k := hb2 y rfl
      have hyc : y ∈ cr k := hd y (by rw [ed]; simp)
      have hne : y ≠ k := fun z => ok.irr k (z ▸ hyc)
      have e3 : ((y :: r).reverse ++ [k] ++ b1.reverse) ++ e = r.reverse ++ y :: k :: (b1.reverse ++ e) := by simp
      rw [e3]
      refine NFr_insert ok (by omega) hok (fun z hz => hd z (by rw [ed, List.reverse_cons]; exact List.mem_append_left _ (List.mem_append_left _ hz))) ?_ hyc
      rw [ed] at h
      have e4 : ((y :: r).reverse ++ b1.reverse) ++ e = r.reverse ++ y :: (b1.reverse ++ e) := by simp
      rw [e4] at h
      exact h
/-- a name with one letter more, if it is one -/
theorem step_snoc {name : List Nat} (h : okAt cr k name.reverse) : stepOf (cr k) name k = name ++ [k] := by
  obtain ⟨d, e, e1, hd, he, hc⟩ := stepOf_cases (cr k) name k
  rw [e1] at h
  have h2 := okAt_app h hd
  have h3 := okAt_lt h hd
  rcases hc with ⟨e', rfl, e2⟩ | ⟨hk, e2⟩
  · exact absurd rfl h2.1
  · obtain ⟨b1, b2, eb, ep, hb1, hb2⟩ := putIn_split k d.reverse
    have : b2 = [] := by
      cases b2 with
      | nil => rfl
      | cons y r =>
        have hy := hb2 y rfl
        have : y ∈ d := List.mem_reverse.mp (by rw [eb]; simp)
        exact absurd (h3 y this) hy
    rw [this] at ep eb
    rw [List.append_nil] at eb
    rw [ep, ← eb] at e2
    have e5 := congrArg List.reverse e2
    rw [List.reverse_reverse] at e5
    rw [e5]
    have e6 := congrArg List.reverse e1
    rw [List.reverse_reverse] at e6
    rw [e6]
    simp
end
/-! ### ways -/
def joinC (cr : Nat → List Nat) (name way : List Nat) : List Nat := way.foldl (fun n k => stepOf (cr k) n k) name
theorem joinOf_C (ks : List Nat) (ps : List (List Nat)) (name way : List Nat) : joinOf ks ps name way = joinC (crossOf ks ps) name way := rfl
section
variable {cr : Nat → List Nat}
theorem joinC_app (name a b : List Nat) : joinC cr name (a ++ b) = joinC cr (joinC cr name a) b := by
  unfold joinC
  rw [List.foldl_append]
theorem NF_join (ok : CrOk cr) : ∀ {way name : List Nat}, NF cr name → NF cr (joinC cr name way)
  | [], _, h => h
  | k :: r, name, h => NF_join (way := r) ok (NF_step ok h)
theorem NF_nil : NF cr [] := trivial
theorem NF_left {a b : List Nat} (h : NF cr (a ++ b)) : NF cr a := by
  unfold NF at h ⊢
  rw [List.reverse_append] at h
  exact NFr_right h
theorem join_NF : ∀ {way name : List Nat}, NF cr (name ++ way) → joinC cr name way = name ++ way
  | [], name, _ => (List.append_nil name).symm
  | k :: r, name, h => by
    have e : name ++ k :: r = (name ++ [k]) ++ r := by simp
    rw [e] at h ⊢
    have h1 : NF cr (name ++ [k]) := NF_left h
    have h2 : okAt cr k name.reverse := by
      unfold NF at h1
      rw [List.reverse_append] at h1
      exact h1.1
    show joinC cr (stepOf (cr k) name k) r = _
    rw [step_snoc h2]
    exact join_NF h
theorem is_NF (ok : CrOk cr) {w : List Nat} : joinC cr [] w = w ↔ NF cr w := ⟨fun h => h ▸ NF_join ok NF_nil, fun h => join_NF (name := []) h⟩
/-- the same by any two letters -/
theorem NF.two {w : List Nat} (h : NF cr w) {p q r : List Nat} {t s : Nat} (e : w = p ++ t :: (q ++ s :: r)) (hq : ∀ y ∈ q, y ∈ cr s) : t ≠ s ∧ (t ∈ cr s → t < s) := by
  unfold NF at h
  have e2 : w.reverse = r.reverse ++ s :: (q.reverse ++ t :: p.reverse) := by rw [e]; simp
  rw [e2] at h
  have h1 := (NFr_right h).1
  have h2 := okAt_app h1 fun y hy => hq y (List.mem_reverse.mp hy)
  exact ⟨h2.1, fun z => (h2.2 z).1⟩
end
end Cw
set_option Elab.async false
set_option linter.all false
set_option maxRecDepth 100000
set_option maxHeartbeats 4000000
/-! the vectors of the laws, in plain words -/
namespace Cw
/-- one coordinate of the marks, behind the door d -/
def thr (cr : Nat → List Nat) (d : Nat) (f : Nat → Int) : Nat → Int := fun e => if e = d then - f d else if e ∈ cr d then f e else f e + 2 * f d
/-- the first letter of the list is the last door -/
def act (cr : Nat → List Nat) (w : List Nat) (f : Nat → Int) : Nat → Int := w.foldr (thr cr) f
def unit (x : Nat) : Nat → Int := fun e => if e = x then 1 else 0
section
variable {cr : Nat → List Nat} {a b d e k : Nat} {f : Nat → Int} {w : List Nat}
theorem act_app (u v : List Nat) (f : Nat → Int) : act cr (u ++ v) f = act cr u (act cr v f) := by
  unfold act
  rw [List.foldr_append]
theorem thr_self : thr cr d f d = - f d := if_pos rfl
theorem thr_cr (ok : CrOk cr) (h : e ∈ cr d) : thr cr d f e = f e := by
  unfold thr
  rw [if_neg (fun z : e = d => ok.irr d (by rw [z] at h; exact h)), if_pos h]
theorem thr_not (h : e ≠ d) (h2 : ¬ e ∈ cr d) : thr cr d f e = f e + 2 * f d := by
  unfold thr
  rw [if_neg h, if_neg h2]
theorem thr_thr (ok : CrOk cr) : thr cr d (thr cr d f) = f := by
  funext e
  by_cases h : e = d
  · subst h
    rw [thr_self, thr_self]
    omega
  · by_cases h2 : e ∈ cr d
    · rw [thr_cr ok h2, thr_cr ok h2]
    · rw [thr_not h h2, thr_not h h2, thr_self]
      omega
theorem thr_comm (ok : CrOk cr) (h : a ∈ cr b) : thr cr a (thr cr b f) = thr cr b (thr cr a f) := by
  have h' := ok.sym _ _ h
  have ne : a ≠ b := fun z => ok.irr b (z ▸ h)
  funext e
  by_cases e1 : e = a
  · subst e1
    rw [thr_self, thr_cr ok h, thr_cr ok h, thr_self]
  · by_cases e2 : e = b
    · subst e2
      rw [thr_cr ok h', thr_self, thr_self, thr_cr ok h']
    · by_cases c1 : e ∈ cr a
      · by_cases c2 : e ∈ cr b
        · rw [thr_cr ok c1, thr_cr ok c2, thr_cr ok c2, thr_cr ok c1]
        · rw [thr_cr ok c1, thr_not e2 c2, thr_not e2 c2, thr_cr ok c1, thr_cr ok h']
      · by_cases c2 : e ∈ cr b
        · rw [thr_not e1 c1, thr_cr ok c2, thr_cr ok h, thr_cr ok c2, thr_not e1 c1]
        · rw [thr_not e1 c1, thr_not e2 c2, thr_cr ok h, thr_not e2 c2, thr_not e1 c1, thr_cr ok h']
          omega
theorem act_comm (ok : CrOk cr) : ∀ {q : List Nat}, (∀ y ∈ q, y ∈ cr k) → act cr q (thr cr k f) = thr cr k (act cr q f)
  | [], _ => rfl
  | y :: q, h => by
    show thr cr y (act cr q (thr cr k f)) = thr cr k (thr cr y (act cr q f))
    rw [act_comm ok fun z hz => h z (List.mem_cons_of_mem _ hz), thr_comm ok (h y (List.mem_cons_self ..))]
theorem act_step (ok : CrOk cr) (name : List Nat) (k : Nat) (f : Nat → Int) : act cr (stepOf (cr k) name k) f = act cr (name ++ [k]) f := by
  obtain ⟨d, e, e1, hd, he, hc⟩ := stepOf_cases (cr k) name k
  have e1' := congrArg List.reverse e1
  rw [List.reverse_reverse, List.reverse_append] at e1'
  have hd' : ∀ y ∈ d.reverse, y ∈ cr k := fun y hy => hd y (List.mem_reverse.mp hy)
  rcases hc with ⟨e', rfl, e2⟩ | ⟨hk, e2⟩
  · have e3 := congrArg List.reverse e2
    rw [List.reverse_reverse, List.reverse_append] at e3
    rw [e3, e1', List.reverse_cons, act_app, act_app, act_app, act_app]
    show _ = act cr e'.reverse (thr cr k (act cr d.reverse (thr cr k f)))
    rw [act_comm ok hd', thr_thr ok]
  · have e3 := congrArg List.reverse e2
    rw [List.reverse_reverse, List.reverse_append, List.reverse_reverse] at e3
    obtain ⟨b1, b2, eb, ep, hb1, hb2⟩ := putIn_split k d.reverse
    rw [e3, e1', ep, eb]
    have h2 : ∀ y ∈ b2, y ∈ cr k := fun y hy => hd' y (by rw [eb]; exact List.mem_append_right _ hy)
    simp only [act_app]
    show act cr e.reverse (act cr b1 (thr cr k (act cr b2 f))) = act cr e.reverse (act cr b1 (act cr b2 (thr cr k f)))
    rw [act_comm ok h2]
theorem act_join (ok : CrOk cr) : ∀ (way name : List Nat) (f : Nat → Int), act cr (joinC cr name way) f = act cr (name ++ way) f
  | [], name, f => by rw [List.append_nil]; rfl
  | k :: r, name, f => by
    show act cr (joinC cr (stepOf (cr k) name k) r) f = _
    rw [act_join ok r, act_app, act_step ok, ← act_app, List.append_assoc]
    rfl
/-! ### doors that lead back -/
def desc (cr : Nat → List Nat) (s : Nat) : List Nat → Prop
  | [] => False
  | t :: r => t = s ∨ (t ∈ cr s ∧ desc cr s r)
def Red (cr : Nat → List Nat) : List Nat → Prop
  | [] => True
  | t :: r => ¬ desc cr t r ∧ Red cr r
theorem desc_split {s : Nat} : ∀ {w : List Nat}, desc cr s w → ∃ p q, w = p ++ s :: q ∧ ∀ y ∈ p, y ∈ cr s
  | [], h => h.elim
  | t :: r, h => by
    rcases h with rfl | ⟨h1, h2⟩
    · exact ⟨[], r, rfl, fun _ z => (nomatch z)⟩
    · obtain ⟨p, q, rfl, hp⟩ := desc_split h2
      refine ⟨t :: p, q, rfl, fun y hy => ?_⟩
      rcases List.mem_cons.mp hy with rfl | hy
      · exact h1
      · exact hp y hy
theorem desc_of {s : Nat} : ∀ {p q : List Nat}, (∀ y ∈ p, y ∈ cr s) → desc cr s (p ++ s :: q)
  | [], _, _ => .inl rfl
  | y :: p, q, h => .inr ⟨h y (List.mem_cons_self ..), desc_of fun z hz => h z (List.mem_cons_of_mem _ hz)⟩
theorem desc_pass {s : Nat} (ok : CrOk cr) {q : List Nat} : ∀ {p : List Nat}, (∀ y ∈ p, y ∈ cr s) → (desc cr s (p ++ q) ↔ desc cr s q)
  | [], _ => Iff.rfl
  | y :: p, h => by
    have hy := h y (List.mem_cons_self ..)
    have ih := desc_pass (q := q) ok (p := p) fun z hz => h z (List.mem_cons_of_mem _ hz)
    constructor
    · rintro (rfl | ⟨_, h2⟩)
      · exact absurd hy (ok.irr _)
      · exact ih.mp h2
    · exact fun z => .inr ⟨hy, ih.mpr z⟩
/-- taken out: the door before its letter keeps what it is -/
theorem desc_out {s t : Nat} (ok : CrOk cr) (h : s ∈ cr t) {q : List Nat} : ∀ {p : List Nat}, desc cr t (p ++ q) → desc cr t (p ++ s :: q)
  | [], z => .inr ⟨h, z⟩
  | y :: p, z => by
    rcases z with z | ⟨z1, z2⟩
    · exact .inl z
    · exact .inr ⟨z1, desc_out ok h z2⟩
theorem Red_out {s : Nat} (ok : CrOk cr) {q : List Nat} : ∀ {p : List Nat}, (∀ y ∈ p, y ∈ cr s) → Red cr (p ++ s :: q) → Red cr (p ++ q)
  | [], _, h => h.2
  | y :: p, hp, h => ⟨fun z => h.1 (desc_out ok (ok.sym _ _ (hp y (List.mem_cons_self ..))) z), Red_out ok (fun z hz => hp z (List.mem_cons_of_mem _ hz)) h.2⟩
theorem Red_right : ∀ {p q : List Nat}, Red cr (p ++ q) → Red cr q
  | [], _, h => h
  | _ :: p, _, h => Red_right (p := p) h.2
/-- what is taken out of a reduced way -/
theorem Red_desc {s : Nat} (ok : CrOk cr) (h : Red cr w) (hs : desc cr s w) : ∃ u, Red cr u ∧ ¬ desc cr s u ∧ u.length + 1 = w.length ∧ (∀ f, act cr w f = thr cr s (act cr u f)) ∧ ∀ y ∈ u, y ∈ w := by
  obtain ⟨p, q, rfl, hp⟩ := desc_split hs
  refine ⟨p ++ q, Red_out ok hp h, ?_, by simp; omega, fun f => ?_, fun y hy => ?_⟩
  · rw [desc_pass ok hp]
    exact (Red_right h).1
  · rw [act_app, act_app]
    show act cr p (thr cr s (act cr q f)) = _
    rw [act_comm ok hp]
  · rcases List.mem_append.mp hy with z | z
    · exact List.mem_append_left _ z
    · exact List.mem_append_right _ (List.mem_cons_of_mem _ z)
end
/-- all coordinates are at least nought, one is above -/
def Pos (ls : List Nat) (v : Nat → Int) : Prop := (∀ x ∈ ls, 0 ≤ v x) ∧ ∃ x ∈ ls, 0 < v x
theorem mul_nn {c x : Int} (h : 0 ≤ c) (h2 : 0 ≤ x) : 0 ≤ c * x := Int.mul_nonneg h h2
theorem Pos.comb {ls : List Nat} {u v : Nat → Int} {c b : Int} (hu : Pos ls u) (hv : Pos ls v) (hc : 0 ≤ c) (hb : 0 < b) : Pos ls fun x => c * u x + b * v x := by
  refine ⟨fun x hx => ?_, ?_⟩
  · have := mul_nn hc (hu.1 x hx)
    have := mul_nn (Int.le_of_lt hb) (hv.1 x hx)
    show 0 ≤ c * u x + b * v x
    omega
  · obtain ⟨x, hx, h⟩ := hv.2
    refine ⟨x, hx, ?_⟩
    have := mul_nn hc (hu.1 x hx)
    have := Int.mul_pos hb h
    show 0 < c * u x + b * v x
    omega
theorem Pos.congr {ls : List Nat} {u v : Nat → Int} (hu : Pos ls u) (h : ∀ x ∈ ls, v x = u x) : Pos ls v := by
  refine ⟨fun x hx => h x hx ▸ hu.1 x hx, ?_⟩
  obtain ⟨x, hx, p⟩ := hu.2
  exact ⟨x, hx, h x hx ▸ p⟩
/-- the mark of the door e behind the way w, coordinate by coordinate -/
def mark (cr : Nat → List Nat) (w : List Nat) (e : Nat) : Nat → Int := fun x => act cr w (unit x) e
section
variable {cr : Nat → List Nat} {ls : List Nat}
theorem mark_pos (ok : CrOk cr) : ∀ (n : Nat) (w : List Nat), w.length = n → Red cr w → (∀ y ∈ w, y ∈ ls) →
    (∀ s ∈ ls, ¬ desc cr s w → Pos ls (mark cr w s)) ∧
    (∀ s ∈ ls, ∀ t ∈ ls, s ≠ t → ¬ s ∈ cr t → desc cr s w → ¬ desc cr t w → ∀ a b : Int, 0 ≤ a → a ≤ b → 0 < b → Pos ls fun x => a * mark cr w s x + b * mark cr w t x) := by
  intro n
  induction n using Nat.strongRecOn with
  | ind n ih =>
    intro w hn hr hw
    refine ⟨fun s hs hd => ?_, fun s hs t ht ne nc hd hd2 a b ha hab hb => ?_⟩
    · cases w with
      | nil =>
        refine ⟨fun x _ => ?_, s, hs, ?_⟩
        · show 0 ≤ unit x s
          unfold unit
          split <;> omega
        · show 0 < unit s s
          unfold unit
          rw [if_pos rfl]
          omega
      | cons t r =>
        have hr' : r.length < n := by rw [← hn]; simp
        have ht : t ∈ ls := hw t (List.mem_cons_self ..)
        have ne : s ≠ t := fun z => hd (.inl z.symm)
        obtain ⟨i1, i2⟩ := ih r.length hr' r rfl hr.2 fun y hy => hw y (List.mem_cons_of_mem _ hy)
        by_cases hc : s ∈ cr t
        · have hsr : ¬ desc cr s r := fun z => hd (.inr ⟨ok.sym _ _ hc, z⟩)
          refine (i1 s hs hsr).congr fun x _ => ?_
          show thr cr t (act cr r (unit x)) s = _
          rw [thr_cr ok hc]
          rfl
        · have key : ∀ x ∈ ls, mark cr (t :: r) s x = 1 * mark cr r s x + 2 * mark cr r t x := by
            intro x _
            show thr cr t (act cr r (unit x)) s = _
            rw [thr_not ne hc]
            show mark cr r s x + 2 * mark cr r t x = _
            omega
          by_cases hsr : desc cr s r
          · exact (i2 s hs t ht ne hc hsr hr.1 1 2 (by decide) (by decide) (by decide)).congr key
          · exact ((i1 s hs hsr).comb (i1 t ht hr.1) (by decide) (by decide)).congr key
    · obtain ⟨u, ru, du, lu, au, mu⟩ := Red_desc ok hr hd
      obtain ⟨i1, i2⟩ := ih u.length (by omega) u rfl ru fun y hy => hw y (mu y hy)
      have nc' : ¬ t ∈ cr s := fun z => nc (ok.sym _ _ z)
      have key : ∀ x ∈ ls, a * mark cr w s x + b * mark cr w t x = b * mark cr u t x + (2 * b - a) * mark cr u s x := by
        intro x _
        have e1 : mark cr w s x = - mark cr u s x := by
          show act cr w (unit x) s = _
          rw [au, thr_self]
          rfl
        have e2 : mark cr w t x = mark cr u t x + 2 * mark cr u s x := by
          show act cr w (unit x) t = _
          rw [au, thr_not ne.symm nc']
          rfl
        rw [e1, e2, Int.mul_neg, Int.mul_add, Int.sub_mul, ← Int.mul_assoc, Int.mul_comm b 2]
        omega
      by_cases htu : desc cr t u
      · exact (i2 t ht s hs ne.symm nc' htu du b (2 * b - a) (by omega) (by omega) (by omega)).congr key
      · exact ((i1 t ht htu).comb (i1 s hs du) (by omega) (by omega)).congr key
/-- a door leads back just if a coordinate of its mark is below nought -/
theorem mark_neg (ok : CrOk cr) {w : List Nat} (hr : Red cr w) (hw : ∀ y ∈ w, y ∈ ls) {s : Nat} (hs : s ∈ ls) : (∃ x ∈ ls, mark cr w s x < 0) ↔ desc cr s w := by
  constructor
  · rintro ⟨x, hx, h⟩
    by_cases hd : desc cr s w
    · exact hd
    · have := ((mark_pos ok _ w rfl hr hw).1 s hs hd).1 x hx
      omega
  · intro hd
    obtain ⟨u, ru, du, lu, au, mu⟩ := Red_desc ok hr hd
    obtain ⟨x, hx, h⟩ := ((mark_pos ok _ u rfl ru fun y hy => hw y (mu y hy)).1 s hs du).2
    refine ⟨x, hx, ?_⟩
    show act cr w (unit x) s < 0
    rw [au, thr_self]
    have : 0 < act cr u (unit x) s := h
    omega
/-! ### names by marks -/
theorem NF.tail {c : Nat} {r : List Nat} (h : NF cr (c :: r)) : NF cr r := by
  unfold NF at h ⊢
  rw [List.reverse_cons] at h
  have key : ∀ {a b : List Nat}, NFr cr (a ++ b) → NFr cr a := by
    intro a b
    induction a with
    | nil => intro _; trivial
    | cons s a ih =>
      intro h
      refine ⟨?_, ih h.2⟩
      have h1 := h.1
      clear h ih
      induction a with
      | nil => trivial
      | cons t a ih => exact ⟨h1.1, fun z => ⟨(h1.2 z).1, ih (h1.2 z).2⟩⟩
  exact key h
theorem NF.red : ∀ {w : List Nat}, NF cr w → Red cr w
  | [], _ => trivial
  | t :: r, h => by
    refine ⟨fun z => ?_, NF.red h.tail⟩
    obtain ⟨p, q, rfl, hp⟩ := desc_split z
    exact (h.two (p := []) (q := p) (r := q) rfl hp).1 rfl
/-- the first letter is the least door back -/
theorem NF.least {c s : Nat} {r : List Nat} (h : NF cr (c :: r)) (hs : desc cr s (c :: r)) : c ≤ s := by
  rcases hs with rfl | ⟨h1, h2⟩
  · exact Nat.le_refl _
  · obtain ⟨p, q, rfl, hp⟩ := desc_split h2
    exact Nat.le_of_lt ((h.two (p := []) (q := p) (r := q) rfl hp).2 h1)
/-- two names with the same marks are the same -/
theorem NF.uniq (ok : CrOk cr) : ∀ {w v : List Nat}, NF cr w → NF cr v → (∀ y ∈ w, y ∈ ls) → (∀ y ∈ v, y ∈ ls) → (∀ x ∈ ls, ∀ s, act cr w (unit x) s = act cr v (unit x) s) → w = v
  | [], [], _, _, _, _, _ => rfl
  | [], c :: v, h, h', hw, hv, he => by
    have := (mark_neg ok h'.red hv (hv c (List.mem_cons_self ..))).mpr (.inl rfl)
    obtain ⟨x, hx, z⟩ := this
    have := (mark_neg ok h.red hw (hv c (List.mem_cons_self ..))).mp ⟨x, hx, by unfold mark; rw [he x hx]; exact z⟩
    exact this.elim
  | c :: w, [], h, h', hw, hv, he => by
    have := (mark_neg ok h.red hw (hw c (List.mem_cons_self ..))).mpr (.inl rfl)
    obtain ⟨x, hx, z⟩ := this
    have := (mark_neg ok h'.red hv (hw c (List.mem_cons_self ..))).mp ⟨x, hx, by unfold mark; rw [← he x hx]; exact z⟩
    exact this.elim
  | c :: w, b :: v, h, h', hw, hv, he => by
    have hc := hw c (List.mem_cons_self ..)
    have hb := hv b (List.mem_cons_self ..)
    have h1 : desc cr c (b :: v) := by
      obtain ⟨x, hx, z⟩ := (mark_neg ok h.red hw hc).mpr (.inl rfl)
      exact (mark_neg ok h'.red hv hc).mp ⟨x, hx, by unfold mark; rw [← he x hx]; exact z⟩
    have h2 : desc cr b (c :: w) := by
      obtain ⟨x, hx, z⟩ := (mark_neg ok h'.red hv hb).mpr (.inl rfl)
      exact (mark_neg ok h.red hw hb).mp ⟨x, hx, by unfold mark; rw [he x hx]; exact z⟩
    have e1 := h.least h2
    have e2 := h'.least h1
    have e : c = b := by omega
    subst e
    congr 1
    refine NF.uniq ok h.tail h'.tail (fun y hy => hw y (List.mem_cons_of_mem _ hy)) (fun y hy => hv y (List.mem_cons_of_mem _ hy)) fun x hx s => ?_
    have e3 : act cr (c :: w) (unit x) = act cr (c :: v) (unit x) := funext (he x hx)
    have e4 := congrArg (thr cr c) e3
    have e5 : thr cr c (thr cr c (act cr w (unit x))) = thr cr c (thr cr c (act cr v (unit x))) := e4
    rw [thr_thr ok, thr_thr ok] at e5
    rw [e5]
end
end Cw
set_option Elab.async false
set_option linter.all false
set_option maxRecDepth 100000
set_option maxHeartbeats 4000000
/-! a drawn floor, in plain words -/
namespace Cw
theorem splitB_congr {p p' : List Nat} : ∀ {a b : List Nat}, (∀ c ∈ a, c ∈ p ↔ c ∈ p') → splitB p a b = splitB p' a b
  | [], b, _ => rfl
  | x :: r, b, h => by
    have hx := h x (List.mem_cons_self ..)
    unfold splitB
    by_cases c : x ∈ p
    · rw [if_pos c, if_pos (hx.mp c)]
      exact splitB_congr fun c hc => h c (List.mem_cons_of_mem _ hc)
    · rw [if_neg c, if_neg (fun z => c (hx.mpr z))]
theorem stepOf_congr {p p' name : List Nat} {k : Nat} (h : ∀ c ∈ name, c ∈ p ↔ c ∈ p') : stepOf p name k = stepOf p' name k := by
  unfold stepOf
  rw [splitB_congr (p' := p') fun c hc => h c (List.mem_reverse.mp hc)]
theorem joinC_congr {f f' : Nat → List Nat} {ls : List Nat} (h : ∀ k ∈ ls, ∀ c ∈ ls, c ∈ f k ↔ c ∈ f' k) : ∀ {way name : List Nat}, (∀ c ∈ name, c ∈ ls) → (∀ c ∈ way, c ∈ ls) → joinC f name way = joinC f' name way
  | [], name, _, _ => rfl
  | k :: r, name, hn, hw => by
    show joinC f (stepOf (f k) name k) r = joinC f' (stepOf (f' k) name k) r
    have hk := hw k (List.mem_cons_self ..)
    rw [stepOf_congr (p' := f' k) fun c hc => h k hk c (hn c hc)]
    refine joinC_congr h (fun c hc => ?_) fun c hc => hw c (List.mem_cons_of_mem _ hc)
    rcases stepOf_mem hc with e | e
    · rw [e]
      exact hk
    · exact hn c e
/-- the letters of a drawn floor and which cross -/
structure Fl (ls : List Nat) (f : Nat → List Nat) : Prop where
  tab : Tab ls f
  ok : CrOk f
  asc : ls.Pairwise (· < ·)
  pos : 0 < ls.length
theorem Flr.fl {num : Nat} {ls : List Nat} {rel : Nat → Nat → Bool} (h : Flr num ls rel) : Fl ls (crossBy ls rel) where
  tab := h.tab
  asc := cut_lt' h.cut
  pos := (cut_len h.cut).2.2
  ok := by
    refine ⟨fun a b hab => ?_, fun a ha => ?_⟩
    · obtain ⟨h1, h2⟩ := List.mem_filter.mp hab
      have h3 := h.ok.in b a h2
      refine List.mem_filter.mpr ⟨h3.1, ?_⟩
      rw [h.ok.sym]
      exact h2
    · obtain ⟨h1, h2⟩ := List.mem_filter.mp ha
      exact (h.ok.in a a h2).2.2 rfl
theorem Fl.plain {ls : List Nat} {f : Nat → List Nat} (h : Fl ls f) : Fl ls (fun _ => []) where
  tab := ⟨h.tab.nd, h.tab.lt, h.tab.len, fun _ _ _ z => (nomatch z), fun _ _ => by simp⟩
  ok := ⟨fun _ _ z => (nomatch z), fun _ z => (nomatch z)⟩
  asc := h.asc
  pos := h.pos
section
variable {ls : List Nat} {f : Nat → List Nat}
theorem cross_tab (T : Tab ls f) {k c : Nat} (hk : k ∈ ls) (hc : c ∈ ls) : c ∈ crossOf (ascOf ls) (tabPairs ls f) k ↔ c ∈ f k := by
  unfold crossOf
  rw [List.mem_filter, Bool.or_eq_true, decide_eq_true_iff, decide_eq_true_iff]
  have mk : ∀ a b, a ∈ ls → b ∈ f a → b ∈ ls → ascOf [a, b] ∈ ls.flatMap fun a => (f a).map fun b => ascOf [a, b] := fun a b ha hb _ => List.mem_flatMap.mpr ⟨a, ha, List.mem_map.mpr ⟨b, hb, rfl⟩⟩
  constructor
  · rintro ⟨_, h | h⟩
    · obtain ⟨a, b, e, _, _, _, hb⟩ := tabPairs_lt T h
      injection e with e1 e2
      injection e2 with e2
      rw [e1, e2]
      exact hb
    · obtain ⟨a, b, e, _, ha, _, hb⟩ := tabPairs_lt T h
      injection e with e1 e2
      injection e2 with e2
      rw [e1, e2]
      exact (T.sub a ha b hb).2.2
  · intro h
    refine ⟨ascOf_mem.mpr ⟨T.lt c hc, hc⟩, ?_⟩
    have s := T.sub k hk c h
    rcases Nat.lt_or_gt_of_ne s.2.1 with l | l
    · refine .inr (pairsOf_mem.mpr ⟨c, k, rfl, T.lt c hc, T.lt k hk, ?_⟩)
      have := mk k c hk h hc
      rw [(asc2 (T.lt c hc) (T.lt k hk) l).2] at this
      exact this
    · refine .inl (pairsOf_mem.mpr ⟨k, c, rfl, T.lt k hk, T.lt c hc, ?_⟩)
      have := mk k c hk h hc
      rw [(asc2 (T.lt k hk) (T.lt c hc) l).1] at this
      exact this
theorem joinOf_tab (T : Tab ls f) {name way : List Nat} (hn : ∀ c ∈ name, c ∈ ls) (hw : ∀ c ∈ way, c ∈ ls) : joinOf (ascOf ls) (tabPairs ls f) name way = joinC f name way := by
  rw [joinOf_C]
  exact joinC_congr (fun k hk c hc => cross_tab T hk hc) hn hw
theorem stepOf_tab (T : Tab ls f) {name : List Nat} {k : Nat} (hk : k ∈ ls) (hn : ∀ c ∈ name, c ∈ ls) : stepOf (crossOf (ascOf ls) (tabPairs ls f) k) name k = stepOf (f k) name k := stepOf_congr fun c hc => cross_tab T hk (hn c hc)
theorem tabPairs_plain (ls : List Nat) : tabPairs ls (fun _ => []) = [] := by
  unfold tabPairs
  have : (ls.flatMap fun a => ([] : List Nat).map fun b => ascOf [a, b]) = [] := by
    induction ls with
    | nil => rfl
    | cons a r ih => simp
  rw [this]
  decide +kernel
theorem joinC_mem' {cr : Nat → List Nat} {c : Nat} : ∀ {way name : List Nat}, c ∈ joinC cr name way → c ∈ name ∨ c ∈ way
  | [], name, h => .inl h
  | k :: r, name, h => by
    rcases joinC_mem' (way := r) (name := stepOf (cr k) name k) h with z | z
    · rcases stepOf_mem z with e | e
      · exact .inr (e ▸ List.mem_cons_self ..)
      · exact .inl e
    · exact .inr (List.mem_cons_of_mem _ z)
/-- the name of a way -/
abbrev nameOf (f : Nat → List Nat) (w : List Nat) : List Nat := joinC f [] w
theorem name_mem {w : List Nat} {c : Nat} (h : c ∈ nameOf f w) : c ∈ w := (joinC_mem' h).elim (fun z => (nomatch z)) id
theorem name_len (f : Nat → List Nat) (w : List Nat) : (nameOf f w).length ≤ w.length := by
  have key : ∀ (way name : List Nat), (joinC f name way).length ≤ name.length + way.length := by
    intro way
    induction way with
    | nil => intro name; exact Nat.le_refl _
    | cons k r ih =>
      intro name
      have := ih (stepOf (f k) name k)
      have := stepOf_len (f k) name k
      show (joinC f (stepOf (f k) name k) r).length ≤ _
      rw [List.length_cons]
      omega
  have := key w []
  rw [List.length_nil] at this
  show (joinC f [] w).length ≤ _
  omega
theorem name_NF (ok : CrOk f) (w : List Nat) : NF f (nameOf f w) := NF_join ok NF_nil
theorem name_name (ok : CrOk f) (w : List Nat) : nameOf f (nameOf f w) = nameOf f w := (is_NF ok).mpr (name_NF ok w)
theorem name_app (ok : CrOk f) (a b : List Nat) : nameOf f (joinC f (nameOf f a) b) = nameOf f (a ++ b) := by
  rw [← joinC_app]
  exact name_name ok _
theorem name_step (ok : CrOk f) (a : List Nat) (k : Nat) : nameOf f (stepOf (f k) (nameOf f a) k) = nameOf f (a ++ [k]) := name_app ok a [k]
/-- two ways with the same marks have one name -/
theorem name_eq (ok : CrOk f) {v w : List Nat} (h : ∀ g, act f v g = act f w g) : nameOf f v = nameOf f w := by
  refine NF.uniq (ls := v ++ w) ok (name_NF ok v) (name_NF ok w) (fun y hy => List.mem_append_left _ (name_mem hy)) (fun y hy => List.mem_append_right _ (name_mem hy)) fun x _ s => ?_
  have e1 := act_join ok v [] (unit x)
  have e2 := act_join ok w [] (unit x)
  rw [List.nil_append] at e1 e2
  rw [show act f (nameOf f v) (unit x) = act f v (unit x) from e1, show act f (nameOf f w) (unit x) = act f w (unit x) from e2, h]
theorem name_act (ok : CrOk f) (w : List Nat) (g : Nat → Int) : act f (nameOf f w) g = act f w g := act_join ok w [] g
theorem name_twice (ok : CrOk f) (a : List Nat) (k : Nat) : nameOf f (a ++ [k] ++ [k]) = nameOf f a := by
  refine name_eq ok fun g => ?_
  rw [List.append_assoc, act_app]
  show act f a (thr f k (thr f k g)) = _
  rw [thr_thr ok]
end
end Cw
set_option Elab.async false
set_option linter.all false
set_option maxRecDepth 100000
set_option maxHeartbeats 4000000
/-! ways turned back; the doors that lead nearer -/
namespace Cw
section
variable {cr f : Nat → List Nat} {ls : List Nat}
theorem act_rev (ok : CrOk f) : ∀ (w : List Nat) (g : Nat → Int), act f w.reverse (act f w g) = g
  | [], g => rfl
  | k :: r, g => by
    rw [List.reverse_cons, act_app]
    show act f r.reverse (thr f k (thr f k (act f r g))) = g
    rw [thr_thr ok, act_rev ok r]
theorem act_rev' (ok : CrOk f) (w : List Nat) (g : Nat → Int) : act f w (act f w.reverse g) = g := by
  have := act_rev ok w.reverse g
  rw [List.reverse_reverse] at this
  exact this
theorem act_rev_eq (ok : CrOk f) {v w : List Nat} (h : ∀ g, act f v g = act f w g) (g : Nat → Int) : act f v.reverse g = act f w.reverse g := by
  have e1 := act_rev' ok w g
  rw [← h] at e1
  have e2 := congrArg (act f v.reverse) e1
  rw [act_rev ok] at e2
  exact e2.symm
theorem name_cat (ok : CrOk f) (a b : List Nat) : nameOf f (nameOf f a ++ nameOf f b) = nameOf f (a ++ b) := name_eq ok fun g => by
  rw [act_app, act_app, name_act ok, name_act ok]
theorem name_catL (ok : CrOk f) (a b : List Nat) : nameOf f (nameOf f a ++ b) = nameOf f (a ++ b) := name_eq ok fun g => by
  rw [act_app, act_app, name_act ok]
theorem name_catR (ok : CrOk f) (a b : List Nat) : nameOf f (a ++ nameOf f b) = nameOf f (a ++ b) := name_eq ok fun g => by
  rw [act_app, act_app, name_act ok]
theorem name_back (ok : CrOk f) (a : List Nat) : nameOf f (a.reverse ++ a) = [] := name_eq (w := []) ok fun g => by
  rw [act_app, act_rev ok]
  rfl
theorem name_there (ok : CrOk f) (a b : List Nat) : nameOf f (a ++ (a.reverse ++ b)) = nameOf f b := name_eq ok fun g => by
  rw [act_app, act_app, act_rev' ok]
/-- the way from one room to another one -/
def wayC (f : Nat → List Nat) (a b : List Nat) : List Nat := nameOf f (a.reverse ++ b)
theorem way_name (ok : CrOk f) (a b : List Nat) : wayC f (nameOf f a) (nameOf f b) = wayC f a b := name_eq ok fun g => by
  rw [act_app, act_app, name_act ok b, act_rev_eq ok (name_act ok a)]
theorem way_tri (ok : CrOk f) (a b c : List Nat) : (wayC f a b).length ≤ (wayC f a c).length + (wayC f c b).length := by
  have e : wayC f a b = nameOf f (wayC f a c ++ wayC f c b) := by
    unfold wayC
    rw [name_cat ok]
    refine name_eq ok fun g => ?_
    simp only [act_app]
    rw [act_rev' ok]
  rw [e, ← List.length_append]
  exact name_len f _
theorem way_self (ok : CrOk f) (a : List Nat) : wayC f a a = [] := name_back ok a
theorem way_nil (a : List Nat) : wayC f [] a = nameOf f a := rfl
theorem way_goes (ok : CrOk f) (a b : List Nat) : nameOf f (a ++ wayC f a b) = nameOf f b := by
  unfold wayC
  rw [name_catR ok, name_there ok]
/-! ### odd and even -/
/-! ### doors nearer -/
instance descDec (cr : Nat → List Nat) (s : Nat) : (w : List Nat) → Decidable (desc cr s w)
  | [] => isFalse id
  | t :: r => by
    have := descDec cr s r
    exact inferInstanceAs (Decidable (t = s ∨ (t ∈ cr s ∧ desc cr s r)))
theorem Red_iff : ∀ {w : List Nat}, Red cr w ↔ ∀ p t q r, w = p ++ t :: (q ++ t :: r) → ¬ ∀ y ∈ q, y ∈ cr t
  | [] => ⟨fun _ p t q r e => (by cases p <;> cases e), fun _ => trivial⟩
  | x :: w => by
    constructor
    · intro h p t q r e hq
      cases p with
      | nil =>
        injection e with e1 e2
        subst e1
        exact h.1 (e2 ▸ desc_of hq)
      | cons y p =>
        injection e with e1 e2
        exact Red_iff.mp h.2 p t q r e2 hq
    · intro h
      refine ⟨fun z => ?_, Red_iff.mpr fun p t q r e hq => h (x :: p) t q r (by rw [e]; rfl) hq⟩
      obtain ⟨p, q, e, hp⟩ := desc_split z
      exact h [] x p q (by rw [e]; rfl) hp
theorem Red.rev {w : List Nat} (h : Red cr w) : Red cr w.reverse := by
  rw [Red_iff]
  intro p t q r e hq
  have e2 := congrArg List.reverse e
  rw [List.reverse_reverse] at e2
  refine Red_iff.mp h r.reverse t q.reverse p.reverse ?_ fun y hy => hq y (List.mem_reverse.mp hy)
  rw [e2]
  simp
/-- the doors of a room that lead back -/
theorem backs_desc (ok : CrOk f) {w : List Nat} (hw : ∀ y ∈ w, y ∈ ls) : (ls.filter fun c => decide (∃ x ∈ ls, act f w.reverse (unit x) c < 0)) = ls.filter fun c => decide (desc f c (nameOf f w).reverse) := by
  refine List.filter_congr fun c hc => ?_
  have h1 := mark_neg (ls := ls) ok (name_NF ok w).red.rev (fun y hy => hw y (name_mem (List.mem_reverse.mp hy))) hc
  rw [Bool.eq_iff_iff, decide_eq_true_iff, decide_eq_true_iff, ← h1]
  unfold mark
  have e : ∀ g, act f (nameOf f w).reverse g = act f w.reverse g := act_rev_eq ok (name_act ok w)
  simp only [e]
theorem step_len_desc (ok : CrOk cr) (name : List Nat) (k : Nat) : (desc cr k name.reverse → (stepOf (cr k) name k).length + 1 = name.length) ∧ (¬ desc cr k name.reverse → (stepOf (cr k) name k).length = name.length + 1) := by
  obtain ⟨d, e, e1, hd, he, hc⟩ := stepOf_cases (cr k) name k
  have l1 := congrArg List.length e1
  rw [List.length_reverse, List.length_append] at l1
  rw [e1]
  have hp := desc_pass (q := e) ok hd
  rcases hc with ⟨e', rfl, e2⟩ | ⟨hk, e2⟩
  · have l2 := congrArg List.length e2
    rw [List.length_reverse, List.length_append] at l2
    rw [List.length_cons] at l1
    exact ⟨fun _ => by omega, fun z => absurd (hp.mpr (.inl rfl)) z⟩
  · have l2 := congrArg List.length e2
    rw [List.length_reverse, List.length_append, List.length_reverse, putIn_len, List.length_reverse] at l2
    refine ⟨fun z => ?_, fun _ => by omega⟩
    have z := hp.mp z
    cases e with
    | nil => exact z.elim
    | cons y r =>
      rcases z with z | ⟨z, _⟩
      · exact absurd (by rw [z]; rfl) hk
      · exact absurd z (he y rfl)
/-- letters of a way that all before them cross -/
def frees (f : Nat → List Nat) (ks : List Nat) (p : List Nat) : List Nat := p.foldl (fun free k => free.filter fun o => decide (o ∈ f k)) ks
def founds (f : Nat → List Nat) : List Nat → List Nat → List Nat
  | _, [] => []
  | free, k :: r => (if k ∈ free then [k] else []) ++ founds f (free.filter fun o => decide (o ∈ f k)) r
theorem founds_mem (ok : CrOk f) {s : Nat} : ∀ {w free : List Nat}, s ∈ founds f free w ↔ s ∈ free ∧ desc f s w
  | [], free => ⟨fun z => (nomatch z), fun z => z.2.elim⟩
  | k :: r, free => by
    have ih := founds_mem ok (s := s) (w := r) (free := free.filter fun o => decide (o ∈ f k))
    show s ∈ (if k ∈ free then [k] else []) ++ founds f _ r ↔ s ∈ free ∧ (k = s ∨ (k ∈ f s ∧ desc f s r))
    rw [List.mem_append, ih, List.mem_filter, decide_eq_true_iff]
    constructor
    · rintro (h | ⟨⟨h1, h2⟩, h3⟩)
      · by_cases c : k ∈ free
        · rw [if_pos c, List.mem_singleton] at h
          exact ⟨h ▸ c, .inl h.symm⟩
        · rw [if_neg c] at h
          cases h
      · exact ⟨h1, .inr ⟨ok.sym _ _ h2, h3⟩⟩
    · rintro ⟨h1, rfl | ⟨h2, h3⟩⟩
      · left
        rw [if_pos h1]
        exact List.mem_singleton.mpr rfl
      · right
        exact ⟨⟨h1, ok.sym _ _ h2⟩, h3⟩
theorem founds_nil (f : Nat → List Nat) : ∀ w : List Nat, founds f [] w = []
  | [] => rfl
  | k :: r => by
    show (if k ∈ ([] : List Nat) then [k] else []) ++ founds f [] r = []
    rw [if_neg (fun z => nomatch z), founds_nil f r]
    rfl
end
end Cw
set_option Elab.async false
set_option linter.all false
set_option maxRecDepth 100000
set_option maxHeartbeats 4000000
/-! walls in plain words: two doors of one kind lie in one wall just if their marks agree but for the sign -/
namespace Cw
/-! ### sums of coordinates -/
def sumL : List Nat → (Nat → Int) → Int
  | [], _ => 0
  | x :: r, v => v x + sumL r v
theorem sumL_congr {u v : Nat → Int} : ∀ {ls : List Nat}, (∀ x ∈ ls, u x = v x) → sumL ls u = sumL ls v
  | [], _ => rfl
  | x :: r, h => by
    show u x + sumL r u = v x + sumL r v
    rw [h x (List.mem_cons_self ..), sumL_congr fun y hy => h y (List.mem_cons_of_mem _ hy)]
theorem sumL_comb (a b : Int) (u v : Nat → Int) : ∀ ls : List Nat, sumL ls (fun x => a * u x + b * v x) = a * sumL ls u + b * sumL ls v
  | [] => by simp [sumL]
  | x :: r => by
    show (a * u x + b * v x) + sumL r _ = a * (u x + sumL r u) + b * (v x + sumL r v)
    rw [sumL_comb a b u v r, Int.mul_add, Int.mul_add]
    omega
theorem sumL_nonneg {v : Nat → Int} : ∀ {ls : List Nat}, (∀ x ∈ ls, 0 ≤ v x) → 0 ≤ sumL ls v
  | [], _ => by simp [sumL]
  | x :: r, h => by
    show 0 ≤ v x + sumL r v
    have := h x (List.mem_cons_self ..)
    have := sumL_nonneg (ls := r) fun y hy => h y (List.mem_cons_of_mem _ hy)
    omega
theorem sumL_nonpos {v : Nat → Int} : ∀ {ls : List Nat}, (∀ x ∈ ls, v x ≤ 0) → sumL ls v ≤ 0
  | [], _ => by simp [sumL]
  | x :: r, h => by
    show v x + sumL r v ≤ 0
    have := h x (List.mem_cons_self ..)
    have := sumL_nonpos (ls := r) fun y hy => h y (List.mem_cons_of_mem _ hy)
    omega
theorem sumL_pos {v : Nat → Int} : ∀ {ls : List Nat}, Pos ls v → 1 ≤ sumL ls v
  | [], h => by
    obtain ⟨x, hx, _⟩ := h.2
    cases hx
  | y :: r, h => by
    show 1 ≤ v y + sumL r v
    have h1 := h.1 y (List.mem_cons_self ..)
    have h2 := sumL_nonneg (ls := r) fun z hz => h.1 z (List.mem_cons_of_mem _ hz)
    obtain ⟨x, hx, hp⟩ := h.2
    rcases List.mem_cons.mp hx with rfl | hx
    · omega
    · have := sumL_pos (ls := r) ⟨fun z hz => h.1 z (List.mem_cons_of_mem _ hz), x, hx, hp⟩
      omega
theorem sumL_out {g : Nat → Int} {s : Nat} : ∀ {ls : List Nat}, ¬ s ∈ ls → sumL ls (fun x => g x * unit x s) = 0
  | [], _ => rfl
  | y :: r, h => by
    show g y * unit y s + sumL r _ = 0
    rw [sumL_out fun z => h (List.mem_cons_of_mem _ z)]
    unfold unit
    rw [if_neg fun z : s = y => h (z ▸ List.mem_cons_self ..)]
    simp
theorem sumL_unit {g : Nat → Int} {s : Nat} : ∀ {ls : List Nat}, ls.Nodup → s ∈ ls → sumL ls (fun x => g x * unit x s) = g s
  | [], _, h => nomatch h
  | y :: r, hn, h => by
    show g y * unit y s + sumL r _ = g s
    have hn' := List.nodup_cons.mp hn
    by_cases e : s = y
    · subst e
      rw [sumL_out hn'.1]
      unfold unit
      rw [if_pos rfl]
      omega
    · rw [sumL_unit hn'.2 ((List.mem_cons.mp h).resolve_left e)]
      unfold unit
      rw [if_neg e]
      omega
theorem sumL_one {s : Nat} {ls : List Nat} (hn : ls.Nodup) (hs : s ∈ ls) : sumL ls (fun x => unit x s) = 1 := by
  have := sumL_unit (g := fun _ => 1) hn hs
  rw [← this]
  exact sumL_congr fun x _ => by omega
section
variable {f : Nat → List Nat} {ls : List Nat} {s t : Nat}
/-- a way acts as a matrix of whole numbers -/
theorem act_lin (hn : ls.Nodup) (ok : CrOk f) (g : Nat → Int) : ∀ {w : List Nat} {s : Nat}, (∀ y ∈ w, y ∈ ls) → s ∈ ls → act f w g s = sumL ls fun x => g x * mark f w s x
  | [], s, _, hs => (sumL_unit hn hs).symm
  | t :: r, s, hw, hs => by
    have ht := hw t (List.mem_cons_self ..)
    have hr : ∀ y ∈ r, y ∈ ls := fun y hy => hw y (List.mem_cons_of_mem _ hy)
    show thr f t (act f r g) s = _
    by_cases e : s = t
    · subst e
      rw [thr_self, act_lin hn ok g hr hs]
      have := sumL_comb (-1) 0 (fun x => g x * mark f r s x) (fun _ => 0) ls
      have e2 : sumL ls (fun x => g x * mark f (s :: r) s x) = sumL ls fun x => -1 * (g x * mark f r s x) + 0 * 0 := sumL_congr fun x _ => by
        show g x * thr f s (act f r (unit x)) s = _
        rw [thr_self, Int.mul_neg]
        show -(g x * mark f r s x) = _
        omega
      rw [e2, this]
      omega
    · by_cases c : s ∈ f t
      · rw [thr_cr ok c, act_lin hn ok g hr hs]
        refine sumL_congr fun x _ => ?_
        show _ = g x * thr f t (act f r (unit x)) s
        rw [thr_cr ok c]
        rfl
      · rw [thr_not e c, act_lin hn ok g hr hs, act_lin hn ok g hr ht]
        have := sumL_comb 1 2 (fun x => g x * mark f r s x) (fun x => g x * mark f r t x) ls
        have e2 : sumL ls (fun x => g x * mark f (t :: r) s x) = sumL ls fun x => 1 * (g x * mark f r s x) + 2 * (g x * mark f r t x) := sumL_congr fun x _ => by
          show g x * thr f t (act f r (unit x)) s = _
          rw [thr_not e c]
          show g x * (mark f r s x + 2 * mark f r t x) = _
          rw [Int.mul_add, ← Int.mul_assoc, Int.mul_comm (g x) 2, Int.mul_assoc]
          omega
        rw [e2, this]
        omega
theorem mark_nn (ok : CrOk f) {w : List Nat} (hr : Red f w) (hw : ∀ y ∈ w, y ∈ ls) (hs : s ∈ ls) (hd : ¬ desc f s w) : Pos ls (mark f w s) := (mark_pos ok _ w rfl hr hw).1 s hs hd
theorem mark_np (ok : CrOk f) {w : List Nat} (hr : Red f w) (hw : ∀ y ∈ w, y ∈ ls) (hs : s ∈ ls) (hd : desc f s w) : ∀ x ∈ ls, mark f w s x ≤ 0 := by
  intro x hx
  obtain ⟨u, ru, du, lu, au, mu⟩ := Red_desc ok hr hd
  have := (mark_nn ok ru (fun y hy => hw y (mu y hy)) hs du).1 x hx
  show act f w (unit x) s ≤ 0
  rw [au, thr_self]
  have : 0 ≤ act f u (unit x) s := this
  omega
/-- a way that leaves the mark of a kind goes through kinds that cross it -/
theorem mark_fix (hn : ls.Nodup) (ok : CrOk f) (hs : s ∈ ls) : ∀ {w : List Nat}, Red f w → (∀ y ∈ w, y ∈ ls) → (∀ x ∈ ls, mark f w s x = unit x s) → ∀ y ∈ w, y ∈ f s
  | [], _, _, _, y, hy => nomatch hy
  | t :: r, hr, hw, he, y, hy => by
    have ht := hw t (List.mem_cons_self ..)
    have hr' : ∀ y ∈ r, y ∈ ls := fun y hy => hw y (List.mem_cons_of_mem _ hy)
    have S1 : sumL ls (mark f (t :: r) s) = 1 := by rw [sumL_congr he, sumL_one hn hs]
    have Pt := sumL_pos (mark_nn ok hr.2 hr' ht hr.1)
    by_cases e : s = t
    · subst e
      have e2 : sumL ls (mark f (s :: r) s) = sumL ls fun x => -1 * mark f r s x + 0 * mark f r s x := sumL_congr fun x _ => by
        show thr f s (act f r (unit x)) s = _
        rw [thr_self]
        show - mark f r s x = _
        omega
      rw [e2, sumL_comb] at S1
      omega
    · by_cases c : s ∈ f t
      · have ih := mark_fix hn ok hs hr.2 hr' fun x hx => by
          rw [← he x hx]
          show act f r (unit x) s = thr f t (act f r (unit x)) s
          rw [thr_cr ok c]
        rcases List.mem_cons.mp hy with rfl | hy
        · exact ok.sym _ _ c
        · exact ih y hy
      · have e2 : sumL ls (mark f (t :: r) s) = sumL ls fun x => 1 * mark f r s x + 2 * mark f r t x := sumL_congr fun x _ => by
          show thr f t (act f r (unit x)) s = _
          rw [thr_not e c]
          show mark f r s x + 2 * mark f r t x = _
          omega
        rw [e2, sumL_comb] at S1
        by_cases d : desc f s r
        · have := sumL_pos ((mark_pos ok _ r rfl hr.2 hr').2 s hs t ht e c d hr.1 1 1 (by decide) (by decide) (by decide))
          rw [sumL_comb] at this
          omega
        · have := sumL_pos (mark_nn ok hr.2 hr' hs d)
          omega
theorem mark_zero (ok : CrOk f) {x : Nat} : ∀ {w : List Nat} {s : Nat}, ¬ x ∈ w → x ≠ s → mark f w s x = 0
  | [], s, _, h => by
    show unit x s = 0
    unfold unit
    rw [if_neg fun z : s = x => h z.symm]
  | t :: r, s, hw, h => by
    have h1 : ¬ x ∈ r := fun z => hw (List.mem_cons_of_mem _ z)
    have h2 : x ≠ t := fun z => hw (z ▸ List.mem_cons_self ..)
    have e1 := mark_zero ok h1 h
    have e2 := mark_zero ok h1 h2
    show thr f t (act f r (unit x)) s = 0
    have e1 : act f r (unit x) s = 0 := e1
    have e2 : act f r (unit x) t = 0 := e2
    unfold thr
    split
    · omega
    · split <;> omega
theorem act_of_name (ok : CrOk f) (w : List Nat) (g : Nat → Int) : act f (nameOf f w).reverse g = act f w.reverse g := act_rev_eq ok (name_act ok w) g
/-- two rooms from which no door of a kind that crosses s leads back, with one mark of s, are one -/
theorem wall_uniq (hn : ls.Nodup) (ok : CrOk f) (hs : s ∈ ls) {m n : List Nat} (hm : NF f m) (hn' : NF f n) (im : ∀ y ∈ m, y ∈ ls) (in' : ∀ y ∈ n, y ∈ ls)
    (dm : ∀ t ∈ f s, ¬ desc f t m.reverse) (dn : ∀ t ∈ f s, ¬ desc f t n.reverse) (he : ∀ x ∈ ls, mark f m.reverse s x = mark f n.reverse s x) : m = n := by
  have imr : ∀ y ∈ m.reverse, y ∈ ls := fun y hy => im y (List.mem_reverse.mp hy)
  have inr' : ∀ y ∈ n.reverse, y ∈ ls := fun y hy => in' y (List.mem_reverse.mp hy)
  have au : ∀ g, act f (wayC f n m).reverse g = act f m.reverse (act f n g) := fun g => by
    unfold wayC
    rw [act_of_name ok, List.reverse_append, List.reverse_reverse, act_app]
  have iu : ∀ y ∈ (wayC f n m).reverse, y ∈ ls := fun y hy => by
    rcases List.mem_append.mp (name_mem (List.mem_reverse.mp hy)) with z | z
    · exact in' y (List.mem_reverse.mp z)
    · exact im y z
  have ru : Red f (wayC f n m).reverse := (name_NF ok _).red.rev
  have fx : ∀ x ∈ ls, mark f (wayC f n m).reverse s x = unit x s := by
    intro x hx
    show act f (wayC f n m).reverse (unit x) s = _
    rw [au, act_lin hn ok _ imr hs, sumL_congr (v := fun y => act f n (unit x) y * mark f n.reverse s y) fun y hy => by rw [he y hy], ← act_lin hn ok _ inr' hs, act_rev ok]
  have uin := mark_fix hn ok hs ru iu fx
  have hg := way_goes ok n m
  have am : ∀ g, act f m.reverse g = act f (wayC f n m).reverse (act f n.reverse g) := fun g => by
    rw [← act_app, ← List.reverse_append, ← act_of_name ok (n ++ wayC f n m), hg, act_of_name ok]
  cases hu : (wayC f n m).reverse with
  | nil =>
    have : wayC f n m = [] := by simpa using hu
    rw [this, List.append_nil] at hg
    have e1 : nameOf f n = n := (is_NF ok).mpr hn'
    have e2 : nameOf f m = m := (is_NF ok).mpr hm
    rw [e1, e2] at hg
    exact hg.symm
  | cons t r =>
    have tin : t ∈ f s := uin t (by rw [hu]; exact List.mem_cons_self ..)
    have tls : t ∈ ls := iu t (by rw [hu]; exact List.mem_cons_self ..)
    have hd : desc f t (wayC f n m).reverse := by rw [hu]; exact .inl rfl
    obtain ⟨x, hx, hp⟩ := (mark_nn ok hm.red.rev imr tls (dm t tin)).2
    have e1 : mark f m.reverse t x = sumL ls fun y => act f n.reverse (unit x) y * mark f (wayC f n m).reverse t y := by
      show act f m.reverse (unit x) t = _
      rw [am, act_lin hn ok _ iu tls]
    have e2 : (sumL ls fun y => act f n.reverse (unit x) y * mark f (wayC f n m).reverse t y) ≤ 0 := by
      refine sumL_nonpos fun y hy => ?_
      have np := mark_np ok ru iu tls hd y hy
      by_cases c : y ∈ f s
      · have := (mark_nn ok hn'.red.rev inr' hy (dn y c)).1 x hx
        have this : 0 ≤ act f n.reverse (unit x) y := this
        exact Int.mul_nonpos_of_nonneg_of_nonpos this np
      · have z := mark_zero ok (x := y) (w := (wayC f n m).reverse) (s := t) (fun z => c (uin y z)) (fun z => c (z ▸ tin))
        rw [z]
        omega
    omega
/-! ### the end of a way that may be left off -/
/-- letters out of free that may be brought ahead, and the rest -/
def splitA (f : Nat → List Nat) : List Nat → List Nat → List Nat × List Nat
  | _, [] => ([], [])
  | free, k :: r => if k ∈ free then (k :: (splitA f free r).1, (splitA f free r).2) else ((splitA f (free.filter fun o => decide (o ∈ f k)) r).1, k :: (splitA f (free.filter fun o => decide (o ∈ f k)) r).2)
theorem splitA_in (f : Nat → List Nat) : ∀ (w free : List Nat), ∀ y ∈ (splitA f free w).1, y ∈ free
  | [], _, y, hy => nomatch hy
  | k :: r, free, y, hy => by
    unfold splitA at hy
    by_cases c : k ∈ free
    · rw [if_pos c] at hy
      rcases List.mem_cons.mp hy with rfl | hy
      · exact c
      · exact splitA_in f r free y hy
    · rw [if_neg c] at hy
      exact (List.mem_filter.mp (splitA_in f r _ y hy)).1
theorem splitA_mem1 (f : Nat → List Nat) : ∀ (w free : List Nat), ∀ y ∈ (splitA f free w).1, y ∈ w
  | [], _, y, hy => nomatch hy
  | k :: r, free, y, hy => by
    unfold splitA at hy
    by_cases c : k ∈ free
    · rw [if_pos c] at hy
      rcases List.mem_cons.mp hy with rfl | hy
      · exact List.mem_cons_self ..
      · exact List.mem_cons_of_mem _ (splitA_mem1 f r free y hy)
    · rw [if_neg c] at hy
      exact List.mem_cons_of_mem _ (splitA_mem1 f r _ y hy)
theorem splitA_mem2 (f : Nat → List Nat) : ∀ (w free : List Nat), ∀ y ∈ (splitA f free w).2, y ∈ w
  | [], _, y, hy => nomatch hy
  | k :: r, free, y, hy => by
    unfold splitA at hy
    by_cases c : k ∈ free
    · rw [if_pos c] at hy
      exact List.mem_cons_of_mem _ (splitA_mem2 f r free y hy)
    · rw [if_neg c] at hy
      rcases List.mem_cons.mp hy with rfl | hy
      · exact List.mem_cons_self ..
      · exact List.mem_cons_of_mem _ (splitA_mem2 f r _ y hy)
theorem splitA_len (f : Nat → List Nat) : ∀ (w free : List Nat), (splitA f free w).1.length + (splitA f free w).2.length = w.length
  | [], _ => rfl
  | k :: r, free => by
    unfold splitA
    by_cases c : k ∈ free
    · rw [if_pos c]
      have := splitA_len f r free
      simp only [List.length_cons]
      omega
    · rw [if_neg c]
      have := splitA_len f r (free.filter fun o => decide (o ∈ f k))
      simp only [List.length_cons]
      omega
theorem splitA_nil (f : Nat → List Nat) : ∀ w : List Nat, splitA f [] w = ([], w)
  | [] => rfl
  | k :: r => by
    unfold splitA
    rw [if_neg (fun z => nomatch z)]
    show ((splitA f [] r).1, k :: (splitA f [] r).2) = _
    rw [splitA_nil f r]
theorem splitA_act (ok : CrOk f) (g : Nat → Int) : ∀ (w free : List Nat), act f ((splitA f free w).1 ++ (splitA f free w).2) g = act f w g
  | [], _ => rfl
  | k :: r, free => by
    unfold splitA
    by_cases c : k ∈ free
    · rw [if_pos c]
      show thr f k (act f ((splitA f free r).1 ++ (splitA f free r).2) g) = thr f k (act f r g)
      rw [splitA_act ok g r free]
    · rw [if_neg c]
      show act f ((splitA f _ r).1 ++ k :: (splitA f _ r).2) g = thr f k (act f r g)
      rw [← splitA_act ok g r (free.filter fun o => decide (o ∈ f k)), act_app, act_app]
      show act f (splitA f _ r).1 (thr f k (act f (splitA f _ r).2 g)) = _
      rw [act_comm ok fun y hy => of_decide_eq_true (List.mem_filter.mp (splitA_in f r _ y hy)).2]
theorem splitA_desc (ok : CrOk f) : ∀ (w free : List Nat), ∀ t ∈ free, ¬ desc f t (splitA f free w).2
  | [], _, t, _ => id
  | k :: r, free, t, ht => by
    unfold splitA
    by_cases c : k ∈ free
    · rw [if_pos c]
      exact splitA_desc ok r free t ht
    · rw [if_neg c]
      rintro (z | ⟨z1, z2⟩)
      · exact c (z ▸ ht)
      · exact splitA_desc ok r _ t (List.mem_filter.mpr ⟨ht, decide_eq_true (ok.sym _ _ z1)⟩) z2
theorem splitA_back {k : Nat} : ∀ {w free : List Nat}, (∀ y ∈ free, y ∈ f k) → desc f k (splitA f free w).2 → desc f k w
  | [], _, _, h => h
  | c :: r, free, hf, h => by
    unfold splitA at h
    by_cases e : c ∈ free
    · rw [if_pos e] at h
      exact .inr ⟨hf c e, splitA_back hf h⟩
    · rw [if_neg e] at h
      rcases h with h | ⟨h1, h2⟩
      · exact .inl h
      · exact .inr ⟨h1, splitA_back (fun y hy => hf y (List.mem_filter.mp hy).1) h2⟩
theorem okAt_rest {k : Nat} : ∀ {w free : List Nat}, (∀ y ∈ free, y ∈ f k) → okAt f k w → okAt f k (splitA f free w).2
  | [], _, _, h => h
  | c :: r, free, hf, h => by
    unfold splitA
    by_cases e : c ∈ free
    · rw [if_pos e]
      exact okAt_rest hf (h.2 (hf c e)).2
    · rw [if_neg e]
      exact ⟨h.1, fun z => ⟨(h.2 z).1, okAt_rest (fun y hy => hf y (List.mem_filter.mp hy).1) (h.2 z).2⟩⟩
theorem NFr_rest : ∀ {w free : List Nat}, NFr f w → NFr f (splitA f free w).2
  | [], _, h => h
  | c :: r, free, h => by
    unfold splitA
    by_cases e : c ∈ free
    · rw [if_pos e]
      exact NFr_rest h.2
    · rw [if_neg e]
      exact ⟨okAt_rest (fun y hy => of_decide_eq_true (List.mem_filter.mp hy).2) h.1, NFr_rest h.2⟩
theorem splitA_congr {g : Nat → List Nat} : ∀ {w free free' : List Nat}, (∀ c ∈ w, c ∈ free ↔ c ∈ free') → (∀ k ∈ w, ∀ c ∈ w, c ∈ f k ↔ c ∈ g k) → splitA f free w = splitA g free' w
  | [], _, _, _, _ => rfl
  | k :: r, free, free', h1, h2 => by
    have hk := h1 k (List.mem_cons_self ..)
    have h2' : ∀ k ∈ r, ∀ c ∈ r, c ∈ f k ↔ c ∈ g k := fun y hy c hc => h2 y (List.mem_cons_of_mem _ hy) c (List.mem_cons_of_mem _ hc)
    unfold splitA
    by_cases c : k ∈ free
    · rw [if_pos c, if_pos (hk.mp c), splitA_congr (fun y hy => h1 y (List.mem_cons_of_mem _ hy)) h2']
    · rw [if_neg c, if_neg fun z => c (hk.mpr z), splitA_congr (free' := free'.filter fun o => decide (o ∈ g k)) (fun y hy => ?_) h2']
      rw [List.mem_filter, List.mem_filter, decide_eq_true_iff, decide_eq_true_iff, h1 y (List.mem_cons_of_mem _ hy), h2 k (List.mem_cons_self ..) y (List.mem_cons_of_mem _ hy)]
/-! ### where a wall begins -/
def nearC (f : Nat → List Nat) (name : List Nat) (s : Nat) : List Nat := if desc f s name.reverse then stepOf (f s) name s else name
def startC (f : Nat → List Nat) (name : List Nat) (s : Nat) : List Nat := (splitA f (f s) (nearC f name s).reverse).2.reverse
theorem near_not (ok : CrOk f) {name : List Nat} (h : NF f name) (s : Nat) : ¬ desc f s (nearC f name s).reverse := by
  unfold nearC
  by_cases c : desc f s name.reverse
  · rw [if_pos c]
    intro z
    have l1 := (step_len_desc ok name s).1 c
    have l2 := (step_len_desc ok (stepOf (f s) name s) s).1 z
    have e : stepOf (f s) (stepOf (f s) name s) s = name := by
      have e1 : nameOf f name = name := (is_NF ok).mpr h
      have e2 := name_twice ok name s
      rw [e1] at e2
      have e3 : nameOf f (name ++ [s] ++ [s]) = stepOf (f s) (stepOf (f s) (nameOf f name) s) s := by
        show joinC f [] (name ++ [s] ++ [s]) = _
        rw [joinC_app, joinC_app]
        rfl
      rw [e3, e1] at e2
      exact e2
    rw [e] at l2
    omega
  · rw [if_neg c]
    exact c
theorem near_NF (ok : CrOk f) {name : List Nat} (h : NF f name) (s : Nat) : NF f (nearC f name s) := by
  unfold nearC
  split
  · exact NF_step ok h
  · exact h
theorem near_mem {name : List Nat} {s c : Nat} (h : c ∈ nearC f name s) : c = s ∨ c ∈ name := by
  unfold nearC at h
  split at h
  · exact stepOf_mem h
  · exact .inr h
theorem near_len (ok : CrOk f) (name : List Nat) (s : Nat) : (nearC f name s).length ≤ name.length := by
  unfold nearC
  split
  · have := (step_len_desc ok name s).1 (by assumption)
    omega
  · omega
theorem start_NF (ok : CrOk f) {name : List Nat} (h : NF f name) (s : Nat) : NF f (startC f name s) := by
  unfold startC NF
  rw [List.reverse_reverse]
  exact NFr_rest (near_NF ok h s)
theorem start_not (ok : CrOk f) {name : List Nat} (h : NF f name) (s : Nat) : ¬ desc f s (startC f name s).reverse := by
  unfold startC
  rw [List.reverse_reverse]
  exact fun z => near_not ok h s (splitA_back (fun y hy => hy) z)
theorem start_free (ok : CrOk f) (name : List Nat) (s : Nat) : ∀ t ∈ f s, ¬ desc f t (startC f name s).reverse := by
  unfold startC
  rw [List.reverse_reverse]
  exact splitA_desc ok _ _
theorem start_mem {name : List Nat} {s c : Nat} (h : c ∈ startC f name s) : c = s ∨ c ∈ name := near_mem (List.mem_reverse.mp (splitA_mem2 f _ _ c (List.mem_reverse.mp h)))
theorem start_len (ok : CrOk f) (name : List Nat) (s : Nat) : (startC f name s).length ≤ name.length := by
  unfold startC
  have := splitA_len f (nearC f name s).reverse (f s)
  have := near_len ok name s
  rw [List.length_reverse] at *
  omega
theorem mark_along (ok : CrOk f) {g : Nat → Int} {v : List Nat} : ∀ {u : List Nat}, (∀ y ∈ u, y ∈ f s) → act f (u ++ v) g s = act f v g s
  | [], _ => rfl
  | y :: u, h => by
    show thr f y (act f (u ++ v) g) s = _
    rw [thr_cr ok (ok.sym _ _ (h y (List.mem_cons_self ..))), mark_along ok fun z hz => h z (List.mem_cons_of_mem _ hz)]
theorem start_mark (ok : CrOk f) (name : List Nat) (s : Nat) (g : Nat → Int) : act f (startC f name s).reverse g s = act f (nearC f name s).reverse g s := by
  unfold startC
  rw [List.reverse_reverse, ← splitA_act ok g (nearC f name s).reverse (f s)]
  exact (mark_along ok (splitA_in f _ _)).symm
theorem near_mark (ok : CrOk f) (name : List Nat) (s : Nat) (g : Nat → Int) : act f (nearC f name s).reverse g s = if desc f s name.reverse then - act f name.reverse g s else act f name.reverse g s := by
  unfold nearC
  by_cases c : desc f s name.reverse
  · rw [if_pos c, if_pos c, act_rev_eq ok (fun g => act_step ok name s g), List.reverse_append]
    show thr f s (act f name.reverse g) s = _
    rw [thr_self]
  · rw [if_neg c, if_neg c]
/-- the mark or its opposite, whichever is not below nought -/
def posM (f : Nat → List Nat) (ls : List Nat) (w : List Nat) (s : Nat) : Nat → Int := if ∃ x ∈ ls, act f w.reverse (unit x) s < 0 then fun x => - act f w.reverse (unit x) s else fun x => act f w.reverse (unit x) s
theorem pos_start (ok : CrOk f) {w : List Nat} (hw : ∀ y ∈ w, y ∈ ls) (hs : s ∈ ls) (x : Nat) : posM f ls w s x = mark f (startC f (nameOf f w) s).reverse s x := by
  have hr := (name_NF ok w).red.rev
  have h1 := mark_neg (ls := ls) ok hr (fun y hy => hw y (name_mem (List.mem_reverse.mp hy))) hs
  show _ = act f (startC f (nameOf f w) s).reverse (unit x) s
  rw [start_mark ok, near_mark ok]
  unfold posM
  have e : (∃ x ∈ ls, act f w.reverse (unit x) s < 0) ↔ desc f s (nameOf f w).reverse := by
    rw [← h1]
    unfold mark
    simp only [act_of_name ok]
  by_cases c : desc f s (nameOf f w).reverse
  · rw [if_pos c, if_pos (e.mpr c), act_of_name ok]
  · rw [if_neg c, if_neg fun z => c (e.mp z), act_of_name ok]
/-- one wall, by the marks -/
theorem wall_iff (hn : ls.Nodup) (ok : CrOk f) (hs : s ∈ ls) {v w : List Nat} (hv : ∀ y ∈ v, y ∈ ls) (hw : ∀ y ∈ w, y ∈ ls) : startC f (nameOf f v) s = startC f (nameOf f w) s ↔ ∀ x ∈ ls, posM f ls v s x = posM f ls w s x := by
  constructor
  · intro h x _
    rw [pos_start ok hv hs, pos_start ok hw hs, h]
  · intro h
    have mem : ∀ {w : List Nat}, (∀ y ∈ w, y ∈ ls) → ∀ y ∈ startC f (nameOf f w) s, y ∈ ls := fun hw y hy => (start_mem hy).elim (fun z => z ▸ hs) fun z => hw y (name_mem z)
    refine wall_uniq hn ok hs (start_NF ok (name_NF ok v) s) (start_NF ok (name_NF ok w) s) (mem hv) (mem hw) (start_free ok _ s) (start_free ok _ s) fun x hx => ?_
    rw [← pos_start ok hv hs, ← pos_start ok hw hs]
    exact h x hx
end
end Cw
set_option Elab.async false
set_option linter.all false
set_option maxRecDepth 100000
set_option maxHeartbeats 4000000
/-! more of walls in plain words -/
namespace Cw
section
variable {f : Nat → List Nat} {ls : List Nat} {s t : Nat}
/-- a door from its other side -/
theorem pos_thr (ok : CrOk f) {w : List Nat} (hw : ∀ y ∈ w, y ∈ ls) (hs : s ∈ ls) : posM f ls (w ++ [s]) s = posM f ls w s := by
  have hr := (name_NF ok w).red.rev
  have hm : ∀ y ∈ (nameOf f w).reverse, y ∈ ls := fun y hy => hw y (name_mem (List.mem_reverse.mp hy))
  have e1 : ∀ x, act f (w ++ [s]).reverse (unit x) s = - act f w.reverse (unit x) s := fun x => by
    rw [List.reverse_append]
    show thr f s (act f w.reverse (unit x)) s = _
    rw [thr_self]
  have e2 : ∀ x, mark f (nameOf f w).reverse s x = act f w.reverse (unit x) s := fun x => by
    unfold mark
    rw [act_of_name ok]
  unfold posM
  simp only [e1]
  by_cases c : desc f s (nameOf f w).reverse
  · have h1 := mark_np ok hr hm hs c
    have h2 := (mark_neg (ls := ls) ok hr hm hs).mpr c
    simp only [e2] at h1 h2
    rw [if_pos h2, if_neg]
    rintro ⟨x, hx, z⟩
    have := h1 x hx
    omega
  · have h1 := mark_nn ok hr hm hs c
    obtain ⟨h1, x, hx, h2⟩ := h1
    simp only [e2] at h1 h2
    rw [if_pos ⟨x, hx, by omega⟩, if_neg]
    · funext y
      omega
    · rintro ⟨y, hy, z⟩
      have := h1 y hy
      omega
theorem wall_thr (hn : ls.Nodup) (ok : CrOk f) (hs : s ∈ ls) {w : List Nat} (hw : ∀ y ∈ w, y ∈ ls) : startC f (nameOf f (w ++ [s])) s = startC f (nameOf f w) s := by
  refine (wall_iff hn ok hs (fun y hy => ?_) hw).mpr fun x _ => by rw [pos_thr ok hw hs]
  rcases List.mem_append.mp hy with z | z
  · exact hw y z
  · rw [List.mem_singleton.mp z]
    exact hs
end
end Cw
set_option Elab.async false
set_option linter.all false
set_option maxRecDepth 100000
set_option maxHeartbeats 4000000
/-! rooms beyond a wall, by the marks of the doors of a shortest way -/
namespace Cw
section
variable {f : Nat → List Nat} {ls : List Nat} {s c : Nat}
theorem act_swap (hn : ls.Nodup) (ok : CrOk f) {m p : List Nat} (hm : ∀ y ∈ m, y ∈ ls) (hp : ∀ y ∈ p, y ∈ ls) (hs : s ∈ ls) (hc : c ∈ ls) (he : ∀ x ∈ ls, act f p.reverse (unit x) c = act f m.reverse (unit x) s) (g : Nat → Int) : act f m.reverse g s = act f p.reverse g c := by
  rw [act_lin hn ok g (fun y hy => hm y (List.mem_reverse.mp hy)) hs, act_lin hn ok g (fun y hy => hp y (List.mem_reverse.mp hy)) hc]
  exact sumL_congr fun x hx => by
    show g x * act f m.reverse (unit x) s = g x * act f p.reverse (unit x) c
    rw [he x hx]
/-- a door of the way in the wall: the room at the end is beyond it -/
theorem beyond_of (hn : ls.Nodup) (ok : CrOk f) {m p q : List Nat} (hr : Red f (p ++ c :: q)) (hm : ∀ y ∈ m, y ∈ ls) (hpq : ∀ y ∈ p ++ c :: q, y ∈ ls) (hs : s ∈ ls) (he : ∀ x ∈ ls, act f p.reverse (unit x) c = act f m.reverse (unit x) s) : desc f s (wayC f m (p ++ c :: q)) := by
  have hp : ∀ y ∈ p, y ∈ ls := fun y hy => hpq y (List.mem_append_left _ hy)
  have hc : c ∈ ls := hpq c (List.mem_append_right _ (List.mem_cons_self ..))
  have hq : ∀ y ∈ q, y ∈ ls := fun y hy => hpq y (List.mem_append_right _ (List.mem_cons_of_mem _ hy))
  have hw : ∀ y ∈ wayC f m (p ++ c :: q), y ∈ ls := fun y hy => by
    rcases List.mem_append.mp (name_mem hy) with z | z
    · exact hm y (List.mem_reverse.mp z)
    · exact hpq y z
  have rr := Red_right hr
  obtain ⟨x, hx, hpos⟩ := (mark_nn ok rr.2 hq hc rr.1).2
  refine (mark_neg ok (name_NF ok _).red hw hs).mp ⟨x, hx, ?_⟩
  show act f (nameOf f (m.reverse ++ (p ++ c :: q))) (unit x) s < 0
  rw [name_act ok, act_app, act_swap hn ok hm hp hs hc he, act_app, act_rev ok]
  show thr f c (act f q (unit x)) c < 0
  rw [thr_self]
  have : 0 < act f q (unit x) c := hpos
  omega
theorem int_one {k t : Int} (h : k * t = 1) (hk : 0 < k) : k = 1 := by
  have ht : 0 < t := by
    rcases Int.lt_or_le 0 t with z | z
    · exact z
    · have := Int.mul_nonpos_of_nonneg_of_nonpos (Int.le_of_lt hk) z
      omega
  have h1 : k * 1 ≤ k * t := Int.mul_le_mul_of_nonneg_left (by omega) (by omega)
  omega
theorem unit_thr {x e : Nat} (hx : x ≠ c) : thr f c (unit x) e = unit x e := by
  have h0 : unit x c = 0 := by
    unfold unit
    rw [if_neg hx.symm]
  unfold thr
  by_cases h : e = c
  · rw [if_pos h, h, h0]
    rfl
  · rw [if_neg h]
    split
    · rfl
    · rw [h0]
      omega
/-- what stands on one side of all, in a word -/
theorem sign_def (ok : CrOk f) {w : List Nat} (hw : ∀ y ∈ w, y ∈ ls) (hs : s ∈ ls) : Pos ls (mark f w s) ∨ ((∀ x ∈ ls, mark f w s x ≤ 0) ∧ ∃ x ∈ ls, mark f w s x < 0) := by
  have hm : ∀ y ∈ nameOf f w, y ∈ ls := fun y hy => hw y (name_mem hy)
  have hr := (name_NF ok w).red
  have e : ∀ x, mark f (nameOf f w) s x = mark f w s x := fun x => by
    unfold mark
    rw [name_act ok]
  by_cases d : desc f s (nameOf f w)
  · right
    have h1 := mark_np ok hr hm hs d
    have h2 := (mark_neg (ls := ls) ok hr hm hs).mpr d
    simp only [e] at h1 h2
    exact ⟨h1, h2⟩
  · left
    exact (mark_nn ok hr hm hs d).congr fun x _ => (e x).symm
/-- the room at the end is beyond the wall: a door of the way lies in it -/
theorem beyond_door (hn : ls.Nodup) (ok : CrOk f) {m : List Nat} (hm : ∀ y ∈ m, y ∈ ls) (hs : s ∈ ls) (hm0 : Pos ls (mark f m.reverse s)) : ∀ (n : List Nat), (∀ y ∈ n, y ∈ ls) → desc f s (wayC f m n) → ∃ i, i < n.length ∧ ∀ x ∈ ls, act f (n.take i).reverse (unit x) (n.getD i 0) = act f m.reverse (unit x) s := by
  intro n hn' hd
  -- the first place where the sign turns
  have key : ∀ k, k ≤ n.length → (∃ i, i < k ∧ Pos ls (mark f (m.reverse ++ n.take i) s) ∧ ¬ Pos ls (mark f (m.reverse ++ n.take (i + 1)) s)) ∨ Pos ls (mark f (m.reverse ++ n.take k) s) := by
    intro k
    induction k with
    | zero =>
      intro _
      right
      rw [List.take_zero, List.append_nil]
      exact hm0
    | succ k ih =>
      intro hk
      rcases ih (by omega) with ⟨i, h1, h2, h3⟩ | h
      · exact .inl ⟨i, by omega, h2, h3⟩
      · by_cases c : Pos ls (mark f (m.reverse ++ n.take (k + 1)) s)
        · exact .inr c
        · exact .inl ⟨k, by omega, h, c⟩
  have last : ¬ Pos ls (mark f (m.reverse ++ n.take n.length) s) := by
    rw [List.take_length]
    intro z
    have hw : ∀ y ∈ wayC f m n, y ∈ ls := fun y hy => by
      rcases List.mem_append.mp (name_mem hy) with z | z
      · exact hm y (List.mem_reverse.mp z)
      · exact hn' y z
    obtain ⟨x, hx, h⟩ := (mark_neg (ls := ls) ok (name_NF ok _).red hw hs).mpr hd
    have h : act f (nameOf f (m.reverse ++ n)) (unit x) s < 0 := h
    rw [name_act ok] at h
    have := z.1 x hx
    have this : 0 ≤ act f (m.reverse ++ n) (unit x) s := this
    omega
  rcases key n.length (Nat.le_refl _) with ⟨i, hi, h1, h2⟩ | h
  · refine ⟨i, hi, ?_⟩
    have tk : n.take (i + 1) = n.take i ++ [n.getD i 0] := by
      rw [List.take_succ_eq_append_getElem hi, List.getD_eq_getElem?_getD, List.getElem?_eq_getElem hi]
      rfl
    have hc : n.getD i 0 ∈ ls := hn' _ (by
      rw [List.getD_eq_getElem?_getD, List.getElem?_eq_getElem hi]
      exact List.getElem_mem hi)
    have hp : ∀ y ∈ n.take i, y ∈ ls := fun y hy => hn' y (List.mem_of_mem_take hy)
    rw [tk] at h2
    generalize n.getD i 0 = c at h2 hc
    generalize n.take i = p at h1 h2 hp
    have hz : ∀ y ∈ m.reverse ++ p, y ∈ ls := fun y hy => (List.mem_append.mp hy).elim (fun z => hm y (List.mem_reverse.mp z)) (hp y)
    have hz2 : ∀ y ∈ m.reverse ++ (p ++ [c]), y ∈ ls := fun y hy => by
      rw [← List.append_assoc] at hy
      rcases List.mem_append.mp hy with z | z
      · exact hz y z
      · rw [List.mem_singleton.mp z]
        exact hc
    have np := (sign_def ok hz2 hs).resolve_left h2
    have eq0 : ∀ x ∈ ls, x ≠ c → mark f (m.reverse ++ p) s x = 0 := by
      intro x hx hxc
      have a1 := h1.1 x hx
      have a2 := np.1 x hx
      have e : mark f (m.reverse ++ (p ++ [c])) s x = mark f (m.reverse ++ p) s x := by
        unfold mark
        rw [← List.append_assoc, act_app]
        show act f (m.reverse ++ p) (thr f c (unit x)) s = _
        rw [show thr f c (unit x) = unit x from funext fun e => unit_thr hxc]
      omega
    have kpos : 0 < mark f (m.reverse ++ p) s c := by
      obtain ⟨x, hx, h⟩ := h1.2
      by_cases e : x = c
      · rw [← e]
        exact h
      · have := eq0 x hx e
        omega
    have lin : ∀ g, act f (m.reverse ++ p) g s = mark f (m.reverse ++ p) s c * g c := by
      intro g
      rw [act_lin hn ok g hz hs]
      have e2 : sumL ls (fun x => g x * mark f (m.reverse ++ p) s x) = sumL ls fun x => (mark f (m.reverse ++ p) s c * g x) * unit x c := sumL_congr fun x hx => by
        unfold unit
        by_cases e : c = x
        · rw [if_pos e, ← e, Int.mul_one, Int.mul_comm]
        · rw [if_neg e, eq0 x hx fun z => e z.symm]
          omega
      rw [e2]
      exact sumL_unit (g := fun x => mark f (m.reverse ++ p) s c * g x) hn hc
    have one : mark f (m.reverse ++ p) s c = 1 := by
      have h := lin (act f (m.reverse ++ p).reverse (unit s))
      rw [act_rev' ok] at h
      have hu : unit s s = 1 := if_pos rfl
      rw [hu] at h
      exact int_one h.symm kpos
    intro x hx
    have h := lin (act f p.reverse (unit x))
    rw [act_app, act_rev' ok, one, Int.one_mul] at h
    exact h.symm
  · exact absurd h last
/-- the rooms beyond a wall -/
theorem beyond_iff (hn : ls.Nodup) (ok : CrOk f) {m n : List Nat} (hm : ∀ y ∈ m, y ∈ ls) (hmn : NF f m) (hs : s ∈ ls) (hm0 : ¬ desc f s m.reverse) (hnn : NF f n) (hn' : ∀ y ∈ n, y ∈ ls) : desc f s (wayC f m n) ↔ ∃ i, i < n.length ∧ ∀ x ∈ ls, act f (n.take i).reverse (unit x) (n.getD i 0) = act f m.reverse (unit x) s := by
  constructor
  · exact beyond_door hn ok hm hs (mark_nn ok hmn.red.rev (fun y hy => hm y (List.mem_reverse.mp hy)) hs hm0) n hn'
  · rintro ⟨i, hi, he⟩
    have e : n = n.take i ++ n.getD i 0 :: n.drop (i + 1) := by
      rw [List.getD_eq_getElem?_getD, List.getElem?_eq_getElem hi]
      show n = n.take i ++ n[i] :: n.drop (i + 1)
      rw [← List.drop_eq_getElem_cons hi, List.take_append_drop]
    have := beyond_of (c := n.getD i 0) (p := n.take i) (q := n.drop (i + 1)) hn ok (by rw [← e]; exact hnn.red) hm (by rw [← e]; exact hn') hs he
    rw [← e] at this
    exact this
end
end Cw
set_option Elab.async false
set_option linter.all false
set_option maxRecDepth 100000
set_option maxHeartbeats 4000000
/-! the middle of three rooms, in plain words -/
namespace Cw
section
variable {f : Nat → List Nat} {ls : List Nat} {s t c : Nat}
/-- the mark has a coordinate below nought -/
def Ng (f : Nat → List Nat) (ls : List Nat) (w : List Nat) (s : Nat) : Prop := ∃ x ∈ ls, mark f w s x < 0
theorem ng_desc (ok : CrOk f) {w : List Nat} (hr : Red f w) (hw : ∀ y ∈ w, y ∈ ls) (hs : s ∈ ls) : Ng f ls w s ↔ desc f s w := mark_neg ok hr hw hs
theorem ng_name (ok : CrOk f) (w : List Nat) (s : Nat) : Ng f ls (nameOf f w) s ↔ Ng f ls w s := by
  unfold Ng mark
  simp only [name_act ok]
theorem ng_act {v w : List Nat} (h : ∀ g, act f v g = act f w g) (s : Nat) : Ng f ls v s ↔ Ng f ls w s := by
  unfold Ng mark
  simp only [h]
theorem not_ng (ok : CrOk f) {w : List Nat} (hw : ∀ y ∈ w, y ∈ ls) (hs : s ∈ ls) : ¬ Ng f ls w s ↔ Pos ls (mark f w s) := by
  constructor
  · intro h
    exact (sign_def ok hw hs).resolve_right fun z => h z.2
  · rintro ⟨h1, _⟩ ⟨x, hx, z⟩
    have := h1 x hx
    omega
theorem ng_np (ok : CrOk f) {w : List Nat} (hw : ∀ y ∈ w, y ∈ ls) (hs : s ∈ ls) (h : Ng f ls w s) : ∀ x ∈ ls, mark f w s x ≤ 0 := by
  rcases sign_def ok hw hs with z | z
  · exact absurd h ((not_ng ok hw hs).mpr z)
  · exact z.1
/-- two unlike kinds that do not cross, behind a way -/
theorem pos_two (ok : CrOk f) {w : List Nat} (hw : ∀ y ∈ w, y ∈ ls) (hs : s ∈ ls) (ht : t ∈ ls) (ne : s ≠ t) (nc : ¬ s ∈ f t) (hp : Pos ls (mark f w t)) : Pos ls fun x => mark f w s x + 2 * mark f w t x := by
  have hm : ∀ y ∈ nameOf f w, y ∈ ls := fun y hy => hw y (name_mem hy)
  have hr := (name_NF ok w).red
  have e : ∀ s x, mark f (nameOf f w) s x = mark f w s x := fun s x => by
    unfold mark
    rw [name_act ok]
  have hd : ¬ desc f t (nameOf f w) := fun z => by
    have := (mark_neg (ls := ls) ok hr hm ht).mpr z
    simp only [e] at this
    obtain ⟨x, hx, z⟩ := this
    have := hp.1 x hx
    omega
  by_cases d : desc f s (nameOf f w)
  · have := (mark_pos ok _ _ rfl hr hm).2 s hs t ht ne nc d hd 1 2 (by decide) (by decide) (by decide)
    refine this.congr fun x _ => ?_
    rw [e, e]
    omega
  · have h1 := mark_nn ok hr hm hs d
    have := h1.comb (mark_nn ok hr hm ht hd) (show (0 : Int) ≤ 1 by decide) (show (0 : Int) < 2 by decide)
    refine this.congr fun x _ => ?_
    rw [e, e]
    omega
theorem desc_left {s : Nat} {b : List Nat} : ∀ {a : List Nat}, desc f s a → desc f s (a ++ b)
  | [], h => h.elim
  | y :: a, h => by
    rcases h with h | ⟨h1, h2⟩
    · exact .inl h
    · exact .inr ⟨h1, desc_left h2⟩
theorem Red_left {b : List Nat} : ∀ {a : List Nat}, Red f (a ++ b) → Red f a
  | [], _ => trivial
  | y :: a, h => ⟨fun z => h.1 (desc_left z), Red_left h.2⟩
/-- a wall that two ways go through: a door with which both may begin -/
theorem both_first (ok : CrOk f) {v : List Nat} (hv : ∀ y ∈ v, y ∈ ls) : ∀ (pr q : List Nat) (s : Nat), Red f (pr.reverse ++ s :: q) → (∀ y ∈ pr.reverse ++ s :: q, y ∈ ls) → Ng f ls (pr ++ v) s → ∃ t ∈ ls, desc f t (pr.reverse ++ s :: q) ∧ Ng f ls v t := by
  intro pr
  induction pr with
  | nil =>
    intro q s hr hm hn
    exact ⟨s, hm s (List.mem_cons_self ..), .inl rfl, hn⟩
  | cons t pr ih =>
    intro q s hr hm hn
    have e1 : (t :: pr).reverse ++ s :: q = pr.reverse ++ t :: s :: q := by rw [List.reverse_cons, List.append_assoc]; rfl
    rw [e1] at hr hm ⊢
    obtain ⟨p, rfl⟩ : ∃ p : List Nat, pr = p.reverse := ⟨pr.reverse, (List.reverse_reverse _).symm⟩
    rw [List.reverse_reverse] at hr hm ih ⊢
    have ht : t ∈ ls := hm t (List.mem_append_right _ (List.mem_cons_self ..))
    have hs : s ∈ ls := hm s (List.mem_append_right _ (List.mem_cons_of_mem _ (List.mem_cons_self ..)))
    have hp : ∀ y ∈ p, y ∈ ls := fun y hy => hm y (List.mem_append_left _ hy)
    have rr := Red_right hr
    have ne : s ≠ t := fun z => rr.1 (.inl z)
    have hpv : ∀ y ∈ p.reverse ++ v, y ∈ ls := fun y hy => (List.mem_append.mp hy).elim (fun z => hp y (List.mem_reverse.mp z)) (hv y)
    have hn : Ng f ls (t :: (p.reverse ++ v)) s := hn
    by_cases c : s ∈ f t
    · -- the two letters are exchanged
      have e2 : ∀ g, act f (p ++ s :: t :: q) g = act f (p ++ t :: s :: q) g := fun g => by
        rw [act_app, act_app]
        show act f p (thr f s (thr f t (act f q g))) = act f p (thr f t (thr f s (act f q g)))
        rw [thr_comm ok c]
      have hm2 : ∀ y ∈ p ++ s :: t :: q, y ∈ ls := fun y hy => by
        rcases List.mem_append.mp hy with z | z
        · exact hp y z
        · rcases List.mem_cons.mp z with z | z
          · exact z ▸ hs
          · rcases List.mem_cons.mp z with z | z
            · exact z ▸ ht
            · exact hm y (List.mem_append_right _ (List.mem_cons_of_mem _ (List.mem_cons_of_mem _ z)))
      have hr2 : Red f (p ++ s :: t :: q) := by
        have c' := ok.sym _ _ c
        have key : ∀ y w, desc f y (s :: t :: w) ↔ desc f y (t :: s :: w) := by
          intro y w
          constructor
          · rintro (rfl | ⟨a, rfl | ⟨b, d⟩⟩)
            · exact .inr ⟨c', .inl rfl⟩
            · exact .inl rfl
            · exact .inr ⟨b, .inr ⟨a, d⟩⟩
          · rintro (rfl | ⟨a, rfl | ⟨b, d⟩⟩)
            · exact .inr ⟨c, .inl rfl⟩
            · exact .inl rfl
            · exact .inr ⟨b, .inr ⟨a, d⟩⟩
        have key2 : ∀ (p : List Nat) y, desc f y (p ++ s :: t :: q) ↔ desc f y (p ++ t :: s :: q) := by
          intro p
          induction p with
          | nil => exact fun y => key y q
          | cons z p ih2 =>
            intro y
            show (z = y ∨ (z ∈ f y ∧ desc f y (p ++ _))) ↔ (z = y ∨ (z ∈ f y ∧ desc f y (p ++ _)))
            rw [ih2]
        have key3 : ∀ p : List Nat, Red f (p ++ t :: s :: q) → Red f (p ++ s :: t :: q) := by
          intro p
          induction p with
          | nil =>
            rintro ⟨h1, h2, h3⟩
            refine ⟨?_, fun z => h1 (.inr ⟨c, z⟩), h3⟩
            rintro (z | ⟨_, z⟩)
            · exact ne z.symm
            · exact h2 z
          | cons z p ih2 =>
            rintro ⟨h1, h2⟩
            exact ⟨fun d => h1 ((key2 p z).mp d), ih2 h2⟩
        exact key3 p hr
      have hn2 : Ng f ls (p.reverse ++ v) s := by
        obtain ⟨x, hx, z⟩ := hn
        refine ⟨x, hx, ?_⟩
        have e3 : mark f (t :: (p.reverse ++ v)) s x = mark f (p.reverse ++ v) s x := by
          show thr f t (act f (p.reverse ++ v) (unit x)) s = _
          rw [thr_cr ok c]
          rfl
        omega
      obtain ⟨y, hy, d, n⟩ := ih (t :: q) s hr2 hm2 hn2
      refine ⟨y, hy, ?_, n⟩
      rw [← ng_desc ok hr2 hm2 hy] at d
      rw [← ng_desc ok hr hm hy]
      exact (ng_act e2 y).mp d
    · refine ih (s :: q) t hr hm ?_
      apply Classical.byContradiction
      intro z
      have hp2 := pos_two ok hpv hs ht ne c ((not_ng ok hpv ht).mp z)
      obtain ⟨x, hx, n⟩ := hn
      have e3 : mark f (t :: (p.reverse ++ v)) s x = mark f (p.reverse ++ v) s x + 2 * mark f (p.reverse ++ v) t x := by
        show thr f t (act f (p.reverse ++ v) (unit x)) s = _
        rw [thr_not ne c]
        rfl
      have : 0 ≤ mark f (p.reverse ++ v) s x + 2 * mark f (p.reverse ++ v) t x := hp2.1 x hx
      omega
/-- where the sign turns along a way, one door of the way lies in the wall -/
theorem turn_door (hn : ls.Nodup) (ok : CrOk f) {z : List Nat} (hz : ∀ y ∈ z, y ∈ ls) (hs : s ∈ ls) : ∀ (u : List Nat), (∀ y ∈ u, y ∈ ls) → ¬ (Ng f ls z s ↔ Ng f ls (z ++ u) s) → ∃ p c q, u = p ++ c :: q ∧ ((∀ g, act f (z ++ p) g s = g c) ∨ (∀ g, act f (z ++ p) g s = - g c)) := by
  intro u hu h
  -- the first place where the sign turns
  have key : ∀ (p q : List Nat), u = p ++ q → ¬ (Ng f ls (z ++ p) s ↔ Ng f ls (z ++ u) s) → ∃ p c q, u = p ++ c :: q ∧ ¬ (Ng f ls (z ++ p) s ↔ Ng f ls (z ++ (p ++ [c])) s) := by
    intro p q
    induction q generalizing p with
    | nil =>
      intro e h
      rw [List.append_nil] at e
      rw [e] at h
      exact absurd Iff.rfl h
    | cons c q ih =>
      intro e h
      by_cases d : Ng f ls (z ++ p) s ↔ Ng f ls (z ++ (p ++ [c])) s
      · refine ih (p ++ [c]) (by rw [e, List.append_assoc]; rfl) fun w => h (d.trans w)
      · exact ⟨p, c, q, e, d⟩
  obtain ⟨p, c, q, e, d⟩ := key [] u rfl (by rw [List.append_nil]; exact h)
  refine ⟨p, c, q, e, ?_⟩
  subst e
  have hc : c ∈ ls := hu c (List.mem_append_right _ (List.mem_cons_self ..))
  have hzp : ∀ y ∈ z ++ p, y ∈ ls := fun y hy => (List.mem_append.mp hy).elim (hz y) fun w => hu y (List.mem_append_left _ w)
  have hzc : ∀ y ∈ z ++ (p ++ [c]), y ∈ ls := fun y hy => by
    rw [← List.append_assoc] at hy
    rcases List.mem_append.mp hy with w | w
    · exact hzp y w
    · rw [List.mem_singleton.mp w]
      exact hc
  have same : ∀ x, x ≠ c → mark f (z ++ (p ++ [c])) s x = mark f (z ++ p) s x := fun x hx => by
    unfold mark
    rw [← List.append_assoc, act_app]
    show act f (z ++ p) (thr f c (unit x)) s = _
    rw [show thr f c (unit x) = unit x from funext fun e => unit_thr hx]
  have eq0 : ∀ x ∈ ls, x ≠ c → mark f (z ++ p) s x = 0 := by
    intro x hx hxc
    have e := same x hxc
    by_cases n : Ng f ls (z ++ p) s
    · have n2 : ¬ Ng f ls (z ++ (p ++ [c])) s := fun w => d ⟨fun _ => w, fun _ => n⟩
      have a1 := ng_np ok hzp hs n x hx
      have a2 := ((not_ng ok hzc hs).mp n2).1 x hx
      omega
    · have n2 : Ng f ls (z ++ (p ++ [c])) s := Classical.byContradiction fun w => d ⟨fun a => absurd a n, fun a => absurd a w⟩
      have a1 := ((not_ng ok hzp hs).mp n).1 x hx
      have a2 := ng_np ok hzc hs n2 x hx
      omega
  have lin : ∀ g, act f (z ++ p) g s = mark f (z ++ p) s c * g c := by
    intro g
    rw [act_lin hn ok g hzp hs]
    have e2 : sumL ls (fun x => g x * mark f (z ++ p) s x) = sumL ls fun x => (mark f (z ++ p) s c * g x) * unit x c := sumL_congr fun x hx => by
      unfold unit
      by_cases e : c = x
      · rw [if_pos e, ← e, Int.mul_one, Int.mul_comm]
      · rw [if_neg e, eq0 x hx fun w => e w.symm]
        omega
    rw [e2]
    exact sumL_unit (g := fun x => mark f (z ++ p) s c * g x) hn hc
  have h1 := lin (act f (z ++ p).reverse (unit s))
  rw [act_rev' ok] at h1
  have hu1 : unit s s = 1 := if_pos rfl
  rw [hu1] at h1
  rcases Int.lt_or_le 0 (mark f (z ++ p) s c) with k0 | k0
  · have one := int_one h1.symm k0
    exact .inl fun g => by rw [lin, one, Int.one_mul]
  · have hk : mark f (z ++ p) s c ≠ 0 := fun w => by rw [w] at h1; omega
    have one : - mark f (z ++ p) s c = 1 := int_one (t := - act f (z ++ p).reverse (unit s) c) (by rw [Int.neg_mul_neg]; exact h1.symm) (by omega)
    exact .inr fun g => by
      rw [lin]
      have : mark f (z ++ p) s c = -1 := by omega
      rw [this]
      omega
/-- the sign turns along two ways: they may begin alike -/
theorem turn_two (hn : ls.Nodup) (ok : CrOk f) {z u v : List Nat} (hz : ∀ y ∈ z, y ∈ ls) (hs : s ∈ ls) (hu : ∀ y ∈ u, y ∈ ls) (hv : ∀ y ∈ v, y ∈ ls) (ru : Red f u) (rv : Red f v) (h1 : ¬ (Ng f ls z s ↔ Ng f ls (z ++ u) s)) (h2 : ¬ (Ng f ls z s ↔ Ng f ls (z ++ v) s)) : ∃ t ∈ ls, desc f t u ∧ desc f t v := by
  obtain ⟨p, c, q, rfl, hg⟩ := turn_door hn ok hz hs u hu h1
  have hc : c ∈ ls := hu c (List.mem_append_right _ (List.mem_cons_self ..))
  have hp : ∀ y ∈ p.reverse, y ∈ ls := fun y hy => hu y (List.mem_append_left _ (List.mem_reverse.mp hy))
  have hpv : ∀ y ∈ p.reverse ++ v, y ∈ ls := fun y hy => (List.mem_append.mp hy).elim (hp y) (hv y)
  -- the mark of the door
  have pos : Pos ls (mark f p.reverse c) := by
    have : Red f (p ++ [c]) := by
      have h : Red f ((p ++ [c]) ++ q) := by rw [List.append_assoc]; exact ru
      exact Red_left h
    have h2 := this.rev
    rw [List.reverse_append] at h2
    exact mark_nn ok h2.2 hp hc h2.1
  have ez : ∀ g, act f z g s = act f (z ++ p) (act f p.reverse g) s := fun g => by rw [act_app, act_rev' ok]
  have ev : ∀ x, mark f (z ++ v) s x = act f z (act f v (unit x)) s := fun x => by unfold mark; rw [act_app]
  have nv : Ng f ls (p.reverse ++ v) c := by
    apply Classical.byContradiction
    intro w
    have pw := (not_ng ok hpv hc).mp w
    apply h2
    have e5 : ∀ x, mark f (p.reverse ++ v) c x = act f p.reverse (act f v (unit x)) c := fun x => by unfold mark; rw [act_app]
    rcases hg with hg | hg
    · have a1 : ¬ Ng f ls z s := by
        rintro ⟨x, hx, w⟩
        have w : act f z (unit x) s < 0 := w
        rw [ez, hg] at w
        have := pos.1 x hx
        have this : 0 ≤ act f p.reverse (unit x) c := this
        omega
      have a2 : ¬ Ng f ls (z ++ v) s := by
        rintro ⟨x, hx, w⟩
        rw [ev, ez, hg] at w
        have := pw.1 x hx
        rw [e5] at this
        omega
      exact ⟨fun a => absurd a a1, fun a => absurd a a2⟩
    · have a1 : Ng f ls z s := by
        obtain ⟨x, hx, w⟩ := pos.2
        refine ⟨x, hx, ?_⟩
        show act f z (unit x) s < 0
        rw [ez, hg]
        have w : 0 < act f p.reverse (unit x) c := w
        omega
      have a2 : Ng f ls (z ++ v) s := by
        obtain ⟨x, hx, w⟩ := pw.2
        refine ⟨x, hx, ?_⟩
        rw [ev, ez, hg]
        rw [e5] at w
        omega
      exact ⟨fun _ => a2, fun _ => a1⟩
  obtain ⟨t, ht, d, n⟩ := both_first ok hv p.reverse q c (by rw [List.reverse_reverse]; exact ru) (by rw [List.reverse_reverse]; exact hu) nv
  rw [List.reverse_reverse] at d
  exact ⟨t, ht, d, (ng_desc ok rv hv ht).mp n⟩
end
end Cw
set_option Elab.async false
set_option linter.all false
set_option maxRecDepth 100000
set_option maxHeartbeats 4000000
/-! the room between each two of three -/
namespace Cw
section
variable {f : Nat → List Nat} {ls : List Nat} {s t k : Nat}
theorem red_of_len (ok : CrOk f) {w : List Nat} (h : (nameOf f w).length = w.length) : Red f w := by
  rw [Red_iff]
  intro p t q r e hq
  have e2 : nameOf f w = nameOf f (p ++ (q ++ r)) := name_eq ok fun g => by
    rw [e]
    simp only [act_app]
    show act f p (thr f t (act f (q ++ t :: r) g)) = _
    rw [act_app]
    show act f p (thr f t (act f q (thr f t (act f r g)))) = _
    rw [act_comm ok hq, thr_thr ok]
  have l1 := name_len f (p ++ (q ++ r))
  rw [← e2, h, e] at l1
  simp only [List.length_append, List.length_cons] at l1
  omega
/-- one letter less -/
theorem erase_desc (ok : CrOk f) {w : List Nat} (h : desc f k w) : ∃ p q, w = p ++ k :: q ∧ (∀ y ∈ p, y ∈ f k) ∧ w.erase k = p ++ q := by
  obtain ⟨p, q, rfl, hp⟩ := desc_split h
  refine ⟨p, q, rfl, hp, ?_⟩
  rw [List.erase_append_right _ fun z => ok.irr k (hp k z), List.erase_cons_head]
theorem desc_pop {p q : List Nat} (ne : k ≠ t) : ∀ {p : List Nat}, desc f t (p ++ k :: q) → desc f t (p ++ q)
  | [], h => by
    rcases h with h | ⟨_, h⟩
    · exact absurd h ne
    · exact h
  | y :: p, h => by
    rcases h with h | ⟨h1, h2⟩
    · exact .inl h
    · exact .inr ⟨h1, desc_pop (p := p) ne h2⟩
theorem erase_keep (ok : CrOk f) {w : List Nat} (h : desc f k w) (ne : k ≠ t) (ht : desc f t w) : desc f t (w.erase k) := by
  obtain ⟨p, q, rfl, hp, e⟩ := erase_desc ok h
  rw [e]
  exact desc_pop (p := p) (q := q) ne ht
theorem erase_red (ok : CrOk f) {w : List Nat} (h : desc f k w) (hr : Red f w) : Red f (w.erase k) := by
  obtain ⟨p, q, rfl, hp, e⟩ := erase_desc ok h
  rw [e]
  exact Red_out ok hp hr
theorem erase_act (ok : CrOk f) {w : List Nat} (h : desc f k w) (g : Nat → Int) : act f (k :: w.erase k) g = act f w g := by
  obtain ⟨p, q, rfl, hp, e⟩ := erase_desc ok h
  rw [e]
  show thr f k (act f (p ++ q) g) = _
  rw [act_app, act_app]
  show _ = act f p (thr f k (act f q g))
  rw [act_comm ok hp]
theorem erase_len {w : List Nat} (h : desc f k w) : (w.erase k).length + 1 = w.length := by
  obtain ⟨p, q, rfl, hp⟩ := desc_split h
  have : k ∈ p ++ k :: q := List.mem_append_right _ (List.mem_cons_self ..)
  rw [List.length_erase_of_mem this]
  have : 0 < (p ++ k :: q).length := by rw [List.length_append, List.length_cons]; omega
  omega
/-- what is in common at the beginning of two ways, and the rests -/
structure Share (f : Nat → List Nat) (ls u v fd u' v' : List Nat) : Prop where
  au : ∀ g, act f u g = act f (fd ++ u') g
  av : ∀ g, act f v g = act f (fd ++ v') g
  ru : Red f u'
  rv : Red f v'
  mu : ∀ y ∈ u', y ∈ ls
  mv : ∀ y ∈ v', y ∈ ls
  mf : ∀ y ∈ fd, y ∈ ls
  lu : fd.length + u'.length = u.length
  lv : fd.length + v'.length = v.length
theorem Share.start {u v : List Nat} (ru : Red f u) (rv : Red f v) (mu : ∀ y ∈ u, y ∈ ls) (mv : ∀ y ∈ v, y ∈ ls) : Share f ls u v [] u v := ⟨fun _ => rfl, fun _ => rfl, ru, rv, mu, mv, fun _ z => (nomatch z), by simp, by simp⟩
theorem Share.step (ok : CrOk f) {u v fd u' v' : List Nat} (h : Share f ls u v fd u' v') (hk : k ∈ ls) (hu : desc f k u') (hv : desc f k v') : Share f ls u v (fd ++ [k]) (u'.erase k) (v'.erase k) where
  au := fun g => by rw [h.au, List.append_assoc, act_app, act_app]; show _ = act f fd (act f (k :: u'.erase k) g); rw [erase_act ok hu]
  av := fun g => by rw [h.av, List.append_assoc, act_app, act_app]; show _ = act f fd (act f (k :: v'.erase k) g); rw [erase_act ok hv]
  ru := erase_red ok hu h.ru
  rv := erase_red ok hv h.rv
  mu := fun y hy => h.mu y (List.mem_of_mem_erase hy)
  mv := fun y hy => h.mv y (List.mem_of_mem_erase hy)
  mf := fun y hy => (List.mem_append.mp hy).elim (h.mf y) fun z => by rw [List.mem_singleton.mp z]; exact hk
  lu := by
    have := erase_len hu
    have := h.lu
    rw [List.length_append, List.length_singleton]
    omega
  lv := by
    have := erase_len hv
    have := h.lv
    rw [List.length_append, List.length_singleton]
    omega
/-- the middle of three rooms, by all walls -/
structure Mid (f : Nat → List Nat) (ls a b c M : List Nat) : Prop where
  nf : NF f M
  mem : ∀ y ∈ M, y ∈ ls
  by' : ∀ z : List Nat, (∀ y ∈ z, y ∈ ls) → ∀ s ∈ ls, (Ng f ls (z ++ M) s ↔ (Ng f ls (z ++ a) s ∧ Ng f ls (z ++ b) s) ∨ (Ng f ls (z ++ a) s ∧ Ng f ls (z ++ c) s) ∨ (Ng f ls (z ++ b) s ∧ Ng f ls (z ++ c) s))
theorem ng_nil {s : Nat} : ¬ Ng f ls [] s := by
  rintro ⟨x, _, h⟩
  have h : unit x s < 0 := h
  unfold unit at h
  split at h <;> omega
theorem ng_back (ok : CrOk f) (m : List Nat) (s : Nat) : ¬ Ng f ls (m.reverse ++ m) s := fun z => ng_nil (f := f) (ls := ls) (s := s) ((ng_act (w := []) (fun g => by rw [act_app, act_rev ok]; rfl) s).mp z)
/-- rooms that no wall parts are one -/
theorem room_uniq (ok : CrOk f) {M N : List Nat} (hM : NF f M) (hN : NF f N) (mM : ∀ y ∈ M, y ∈ ls) (mN : ∀ y ∈ N, y ∈ ls) (h : ∀ s ∈ ls, ¬ Ng f ls (M.reverse ++ N) s) : M = N := by
  have hw : ∀ y ∈ wayC f M N, y ∈ ls := fun y hy => by
    rcases List.mem_append.mp (name_mem hy) with z | z
    · exact mM y (List.mem_reverse.mp z)
    · exact mN y z
  have e : wayC f M N = [] := by
    cases hc : wayC f M N with
    | nil => rfl
    | cons t r =>
      exfalso
      have ht : t ∈ ls := hw t (by rw [hc]; exact List.mem_cons_self ..)
      refine h t ht ((ng_name ok _ t).mp ((ng_desc ok (name_NF ok _).red hw ht).mpr ?_))
      show desc f t (wayC f M N)
      rw [hc]
      exact .inl rfl
  have := way_goes ok M N
  rw [e, List.append_nil] at this
  have e1 : nameOf f M = M := (is_NF ok).mpr hM
  have e2 : nameOf f N = N := (is_NF ok).mpr hN
  rw [e1, e2] at this
  exact this
theorem Mid.uniq (ok : CrOk f) {a b c a' b' c' M N : List Nat} (h : Mid f ls a b c M) (h' : Mid f ls a' b' c' N)
    (hp : ∀ z : List Nat, (∀ y ∈ z, y ∈ ls) → ∀ s ∈ ls, (((Ng f ls (z ++ a) s ∧ Ng f ls (z ++ b) s) ∨ (Ng f ls (z ++ a) s ∧ Ng f ls (z ++ c) s) ∨ (Ng f ls (z ++ b) s ∧ Ng f ls (z ++ c) s)) ↔ ((Ng f ls (z ++ a') s ∧ Ng f ls (z ++ b') s) ∨ (Ng f ls (z ++ a') s ∧ Ng f ls (z ++ c') s) ∨ (Ng f ls (z ++ b') s ∧ Ng f ls (z ++ c') s)))) : M = N := by
  refine room_uniq (ls := ls) ok h.nf h'.nf h.mem h'.mem fun s hs z => ng_back (ls := ls) ok M s ?_
  have mz : ∀ y ∈ M.reverse, y ∈ ls := fun y hy => h.mem y (List.mem_reverse.mp hy)
  exact (h.by' _ mz s hs).mpr ((hp _ mz s hs).mpr ((h'.by' _ mz s hs).mp z))
/-- the middle by what is in common at the beginning -/
theorem mid_of (hn : ls.Nodup) (ok : CrOk f) {a b c fd u' v' : List Nat} (ma : ∀ y ∈ a, y ∈ ls) (mb : ∀ y ∈ b, y ∈ ls) (mc : ∀ y ∈ c, y ∈ ls) (h : Share f ls (wayC f a b) (wayC f a c) fd u' v') (hd : ∀ t ∈ ls, ¬ (desc f t u' ∧ desc f t v')) : Mid f ls a b c (nameOf f (a ++ fd)) := by
  have redL : ∀ {w x : List Nat}, (∀ g, act f (nameOf f w) g = act f (fd ++ x) g) → fd.length + x.length = (nameOf f w).length → Red f (fd ++ x) := by
    intro w x e l
    refine red_of_len ok ?_
    rw [← name_eq ok e, name_name ok, List.length_append, l]
  have r1 : Red f (fd ++ u') := redL h.au h.lu
  have r2 : Red f (fd ++ v') := redL h.av h.lv
  have mfr : ∀ y ∈ fd.reverse, y ∈ ls := fun y hy => h.mf y (List.mem_reverse.mp hy)
  have rf : Red f fd.reverse := (Red_left r1).rev
  have noc : ∀ {x : List Nat}, Red f (fd ++ x) → ∀ t, ¬ (desc f t fd.reverse ∧ desc f t x) := by
    rintro x hr t ⟨d1, d2⟩
    obtain ⟨p1, q1, e1, h1⟩ := desc_split d1
    obtain ⟨p2, q2, e2, h2⟩ := desc_split d2
    have e3 := congrArg List.reverse e1
    rw [List.reverse_reverse] at e3
    refine Red_iff.mp hr q1.reverse t (p1.reverse ++ p2) q2 ?_ fun y hy => (List.mem_append.mp hy).elim (fun z => h1 y (List.mem_reverse.mp z)) (h2 y)
    rw [e3, e2]
    simp
  refine ⟨name_NF ok _, fun y hy => (List.mem_append.mp (name_mem hy)).elim (ma y) (h.mf y), fun z hz s hs => ?_⟩
  have mM : ∀ y ∈ a ++ fd, y ∈ ls := fun y hy => (List.mem_append.mp hy).elim (ma y) (h.mf y)
  have mZ : ∀ y ∈ z ++ (a ++ fd), y ∈ ls := fun y hy => (List.mem_append.mp hy).elim (hz y) (mM y)
  have n0 : Ng f ls (z ++ nameOf f (a ++ fd)) s ↔ Ng f ls (z ++ (a ++ fd)) s := ng_act (fun g => by rw [act_app, act_app, name_act ok]) s
  have na : Ng f ls (z ++ a) s ↔ Ng f ls (z ++ (a ++ fd) ++ fd.reverse) s := ng_act (fun g => by simp only [act_app]; rw [act_rev' ok]) s
  have nb : Ng f ls (z ++ b) s ↔ Ng f ls (z ++ (a ++ fd) ++ u') s := ng_act (fun g => by
    simp only [act_app]
    have e := h.au g
    unfold wayC at e
    rw [name_act ok, act_app, act_app] at e
    rw [← e, act_rev' ok]) s
  have nc : Ng f ls (z ++ c) s ↔ Ng f ls (z ++ (a ++ fd) ++ v') s := ng_act (fun g => by
    simp only [act_app]
    have e := h.av g
    unfold wayC at e
    rw [name_act ok, act_app, act_app] at e
    rw [← e, act_rev' ok]) s
  rw [n0, na, nb, nc]
  have t1 : ¬ (¬ (Ng f ls (z ++ (a ++ fd)) s ↔ Ng f ls (z ++ (a ++ fd) ++ u') s) ∧ ¬ (Ng f ls (z ++ (a ++ fd)) s ↔ Ng f ls (z ++ (a ++ fd) ++ v') s)) := fun ⟨x, y⟩ => by
    obtain ⟨t, ht, d⟩ := turn_two hn ok mZ hs h.mu h.mv h.ru h.rv x y
    exact hd t ht d
  have t2 : ¬ (¬ (Ng f ls (z ++ (a ++ fd)) s ↔ Ng f ls (z ++ (a ++ fd) ++ fd.reverse) s) ∧ ¬ (Ng f ls (z ++ (a ++ fd)) s ↔ Ng f ls (z ++ (a ++ fd) ++ u') s)) := fun ⟨x, y⟩ => by
    obtain ⟨t, ht, d⟩ := turn_two hn ok mZ hs mfr h.mu rf h.ru x y
    exact noc r1 t d
  have t3 : ¬ (¬ (Ng f ls (z ++ (a ++ fd)) s ↔ Ng f ls (z ++ (a ++ fd) ++ fd.reverse) s) ∧ ¬ (Ng f ls (z ++ (a ++ fd)) s ↔ Ng f ls (z ++ (a ++ fd) ++ v') s)) := fun ⟨x, y⟩ => by
    obtain ⟨t, ht, d⟩ := turn_two hn ok mZ hs mfr h.mv rf h.rv x y
    exact noc r2 t d
  by_cases x0 : Ng f ls (z ++ (a ++ fd)) s <;> by_cases x1 : Ng f ls (z ++ (a ++ fd) ++ fd.reverse) s <;> by_cases x2 : Ng f ls (z ++ (a ++ fd) ++ u') s <;> by_cases x3 : Ng f ls (z ++ (a ++ fd) ++ v') s <;> simp only [x0, x1, x2, x3, iff_true, iff_false, true_iff, false_iff, not_true, not_false_iff, and_true, true_and, and_false, false_and, or_true, true_or, or_false, false_or, and_self, not_false_eq_true, iff_self] at t1 t2 t3 ⊢
end
end Cw
set_option Elab.async false
set_option linter.all false
set_option maxRecDepth 100000
set_option maxHeartbeats 4000000
/-! the product of two marks: how two walls lie -/
namespace Cw
section
variable {f : Nat → List Nat} {ls : List Nat} {s t c : Nat}
/-! ### the kind of a wall by its mark -/
theorem act_par (f : Nat → List Nat) (g : Nat → Int) : ∀ (w : List Nat) (s : Nat), ∃ k : Int, act f w g s = g s + 2 * k
  | [], s => ⟨0, by show g s = _; omega⟩
  | d :: r, s => by
    obtain ⟨k, h⟩ := act_par f g r s
    obtain ⟨j, h'⟩ := act_par f g r d
    show ∃ k : Int, thr f d (act f r g) s = _
    unfold thr
    split
    · rename_i e
      refine ⟨- g d - j, ?_⟩
      rw [h', e]
      omega
    · split
      · exact ⟨k, h⟩
      · refine ⟨k + (g d + 2 * j), ?_⟩
        rw [h, h']
        omega
theorem root_kind {v w : List Nat} (hs : s ∈ ls) (h : ∀ x ∈ ls, act f v (unit x) s = act f w (unit x) t) : s = t := by
  have h := h s hs
  obtain ⟨k, e1⟩ := act_par f (unit s) v s
  obtain ⟨j, e2⟩ := act_par f (unit s) w t
  rw [e1, e2] at h
  unfold unit at h
  rw [if_pos rfl] at h
  by_cases e : t = s
  · exact e.symm
  · rw [if_neg e] at h
    omega
/-! ### the product -/
def bt (f : Nat → List Nat) (t : Nat) : Nat → Int := fun e => if e = t then 1 else if e ∈ f t then 0 else -1
theorem bt_self : bt f t t = 1 := if_pos rfl
theorem bt_in (ok : CrOk f) (h : s ∈ f t) : bt f t s = 0 := by
  unfold bt
  rw [if_neg fun z : s = t => ok.irr t (z ▸ h), if_pos h]
theorem bt_out (h : s ≠ t) (h2 : ¬ s ∈ f t) : bt f t s = -1 := by
  unfold bt
  rw [if_neg h, if_neg h2]
theorem col_eq (ok : CrOk f) (x : Nat) : thr f c (unit c) x = unit c x - 2 * bt f x c := by
  have u1 : unit c c = 1 := if_pos rfl
  unfold thr
  by_cases e : x = c
  · rw [if_pos e, e, u1, bt_self]
    rfl
  · have u2 : unit c x = 0 := if_neg e
    rw [if_neg e, u1, u2]
    by_cases h : x ∈ f c
    · rw [if_pos h, bt_in ok (ok.sym _ _ h)]
      rfl
    · rw [if_neg h, bt_out (fun z => e z.symm) fun z => h (ok.sym _ _ z)]
      rfl
theorem psi_act (hn : ls.Nodup) (ok : CrOk f) (ht : t ∈ ls) : ∀ {n : List Nat} {e : Nat}, (∀ y ∈ n, y ∈ ls) → e ∈ ls → sumL ls (fun y => mark f n.reverse t y * bt f y e) = act f n (bt f t) e
  | [], e, _, he => by
    have h := sumL_unit (g := fun y => bt f y e) hn ht
    rw [← show bt f t e = act f [] (bt f t) e from rfl, ← h]
    exact sumL_congr fun y _ => by
      show unit y t * bt f y e = bt f y e * unit y t
      rw [Int.mul_comm]
  | c :: n, e, hw, he => by
    have hc := hw c (List.mem_cons_self ..)
    have hn' : ∀ y ∈ n, y ∈ ls := fun y hy => hw y (List.mem_cons_of_mem _ hy)
    have hnr : ∀ y ∈ n.reverse, y ∈ ls := fun y hy => hn' y (List.mem_reverse.mp hy)
    have ie := psi_act hn ok ht hn' he
    have ic := psi_act hn ok ht hn' hc
    have key : ∀ y ∈ ls, mark f (c :: n).reverse t y = 1 * mark f n.reverse t y + (-2 * act f n (bt f t) c) * unit y c := by
      intro y hy
      have e1 : mark f (c :: n).reverse t y = act f n.reverse (thr f c (unit y)) t := by
        unfold mark
        rw [List.reverse_cons, act_app]
        rfl
      by_cases hyc : y = c
      · subst hyc
        rw [e1, act_lin hn ok _ hnr ht, show unit y y = 1 from if_pos rfl, ← ic]
        have e2 : sumL ls (fun x => thr f y (unit y) x * mark f n.reverse t x) = sumL ls fun x => 1 * (mark f n.reverse t x * unit x y) + (-2) * (mark f n.reverse t x * bt f x y) := sumL_congr fun x _ => by
          have u : unit y x = unit x y := by
            unfold unit
            by_cases q : x = y
            · rw [if_pos q, if_pos q.symm]
            · rw [if_neg q, if_neg fun z => q z.symm]
          rw [col_eq ok, u, Int.sub_mul, Int.mul_comm (unit x y), Int.mul_assoc, Int.mul_comm (bt f x y)]
          omega
        rw [e2, sumL_comb, sumL_unit (g := fun x => mark f n.reverse t x) hn hc]
        omega
      · rw [e1, show thr f c (unit y) = unit y from funext fun e => unit_thr hyc, show unit y c = 0 from if_neg fun z => hyc z.symm]
        show mark f n.reverse t y = _
        omega
    have e3 : sumL ls (fun y => mark f (c :: n).reverse t y * bt f y e) = sumL ls fun y => 1 * (mark f n.reverse t y * bt f y e) + (-2 * act f n (bt f t) c) * (bt f y e * unit y c) := sumL_congr fun y hy => by
      rw [key y hy, Int.add_mul, Int.mul_assoc, Int.mul_assoc, Int.mul_comm (unit y c)]
    rw [e3, sumL_comb, ie, sumL_unit (g := fun y => bt f y e) hn hc]
    show _ = thr f c (act f n (bt f t)) e
    by_cases h1 : e = c
    · rw [h1, thr_self, bt_self]
      omega
    · by_cases h2 : e ∈ f c
      · rw [thr_cr ok h2, bt_in ok h2]
        omega
      · rw [thr_not h1 h2, bt_out h1 h2]
        omega
/-- the first letter's coordinate -/
theorem mark_head (hn : ls.Nodup) (ok : CrOk f) (ht : t ∈ ls) {n : List Nat} (hn' : ∀ y ∈ n, y ∈ ls) (hc : c ∈ ls) : mark f (c :: n).reverse t c = mark f n.reverse t c - 2 * act f n (bt f t) c := by
  have hnr : ∀ y ∈ n.reverse, y ∈ ls := fun y hy => hn' y (List.mem_reverse.mp hy)
  have e1 : mark f (c :: n).reverse t c = act f n.reverse (thr f c (unit c)) t := by
    unfold mark
    rw [List.reverse_cons, act_app]
    rfl
  rw [e1, act_lin hn ok _ hnr ht, ← psi_act hn ok ht hn' hc]
  have e2 : sumL ls (fun x => thr f c (unit c) x * mark f n.reverse t x) = sumL ls fun x => 1 * (mark f n.reverse t x * unit x c) + (-2) * (mark f n.reverse t x * bt f x c) := sumL_congr fun x _ => by
    have u : unit c x = unit x c := by
      unfold unit
      by_cases q : x = c
      · rw [if_pos q, if_pos q.symm]
      · rw [if_neg q, if_neg fun z => q z.symm]
    rw [col_eq ok, u, Int.sub_mul, Int.mul_comm (unit x c), Int.mul_assoc, Int.mul_comm (bt f x c)]
    omega
  rw [e2, sumL_comb, sumL_unit (g := fun x => mark f n.reverse t x) hn hc]
  omega
def prodV (f : Nat → List Nat) (ls : List Nat) (a b : Nat → Int) : Int := sumL ls fun x => a x * sumL ls fun y => b y * bt f y x
theorem prod_act (hn : ls.Nodup) (ok : CrOk f) {m n : List Nat} (hm : ∀ y ∈ m, y ∈ ls) (hn' : ∀ y ∈ n, y ∈ ls) (hs : s ∈ ls) (ht : t ∈ ls) : prodV f ls (mark f m.reverse s) (mark f n.reverse t) = act f (m.reverse ++ n) (bt f t) s := by
  unfold prodV
  rw [act_app, act_lin hn ok _ (fun y hy => hm y (List.mem_reverse.mp hy)) hs]
  exact sumL_congr fun x hx => by rw [psi_act hn ok ht hn' hx, Int.mul_comm]
/-! ### its sign -/
/-- no door of the kind t, or of one that crosses it, leads back -/
structure Strt (f : Nat → List Nat) (t : Nat) (v : List Nat) : Prop where
  red : Red f v
  td : ¬ desc f t v.reverse
  fr : ∀ y ∈ f t, ¬ desc f y v.reverse
theorem Strt.tail {v : List Nat} (h : Strt f t (c :: v)) : Strt f t v where
  red := h.red.2
  td := fun z => h.td (by rw [List.reverse_cons]; exact desc_left z)
  fr := fun y hy z => h.fr y hy (by rw [List.reverse_cons]; exact desc_left z)
theorem desc_mem {s : Nat} : ∀ {w : List Nat}, desc f s w → s ∈ w
  | [], h => h.elim
  | y :: w, h => by
    rcases h with h | ⟨_, h⟩
    · exact h ▸ List.mem_cons_self ..
    · exact List.mem_cons_of_mem _ (desc_mem h)
theorem desc_thru (ok : CrOk f) {y : Nat} {pr : List Nat} (hp : ∀ z ∈ pr, z ∈ f s) : ∀ {qr : List Nat}, desc f y (qr ++ pr) → desc f y (qr ++ s :: pr)
  | [], h => .inr ⟨ok.sym _ _ (hp y (desc_mem h)), h⟩
  | z :: qr, h => by
    rcases h with h | ⟨h1, h2⟩
    · exact .inl h
    · exact .inr ⟨h1, desc_thru ok hp h2⟩
theorem Strt.out (ok : CrOk f) {p q : List Nat} (hp : ∀ y ∈ p, y ∈ f s) (h : Strt f t (p ++ s :: q)) : Strt f t (p ++ q) := by
  have key : ∀ y, desc f y (p ++ q).reverse → desc f y (p ++ s :: q).reverse := by
    intro y z
    rw [List.reverse_append] at z
    have e : (p ++ s :: q).reverse = q.reverse ++ s :: p.reverse := by simp
    rw [e]
    exact desc_thru ok (fun w hw => hp w (List.mem_reverse.mp hw)) z
  exact ⟨Red_out ok hp h.red, fun z => h.td (key _ z), fun y hy z => h.fr y hy (key y z)⟩
theorem neg_start (ok : CrOk f) {p q : List Nat} (st : Strt f t (p ++ s :: q)) (hp : ∀ y ∈ p, y ∈ f s) (i1 : ¬ (p ++ q = [] ∧ s = t) → act f (p ++ q) (bt f t) s ≤ 0 ∧ (act f (p ++ q) (bt f t) s = 0 → (∀ y ∈ p ++ q, y ∈ f s) ∧ t ∈ f s)) : act f (p ++ q) (bt f t) s ≤ -1 := by
  have er : (p ++ s :: q).reverse = q.reverse ++ s :: p.reverse := by simp
  have ex : ¬ (p ++ q = [] ∧ s = t) := by
    rintro ⟨e1, rfl⟩
    obtain ⟨rfl, rfl⟩ := List.append_eq_nil_iff.mp e1
    exact st.td (.inl rfl)
  obtain ⟨a1, a2⟩ := i1 ex
  by_cases z : act f (p ++ q) (bt f t) s = 0
  · obtain ⟨b1, b2⟩ := a2 z
    refine absurd ?_ (st.fr s (ok.sym _ _ b2))
    rw [er]
    exact desc_of fun y hy => b1 y (List.mem_append_right _ (List.mem_reverse.mp hy))
  · omega
theorem bsign (ok : CrOk f) (ht : t ∈ ls) : ∀ (n : Nat) (v : List Nat), v.length = n → Strt f t v → (∀ y ∈ v, y ∈ ls) →
    (∀ s ∈ ls, ¬ desc f s v → ¬ (v = [] ∧ s = t) → act f v (bt f t) s ≤ 0 ∧ (act f v (bt f t) s = 0 → (∀ y ∈ v, y ∈ f s) ∧ t ∈ f s)) ∧
    (∀ s ∈ ls, ∀ c ∈ ls, s ≠ c → ¬ s ∈ f c → desc f s v → ¬ desc f c v → ∀ a b : Int, 0 ≤ a → a < b → a * act f v (bt f t) s + b * act f v (bt f t) c < 0) := by
  intro n
  induction n using Nat.strongRecOn with
  | ind n ih =>
    intro v hv st hm
    refine ⟨fun s hs hd he => ?_, fun s hs c hc ne nc hd hd2 a b ha hab => ?_⟩
    · cases v with
      | nil =>
        have hst : s ≠ t := fun z => he ⟨rfl, z⟩
        show bt f t s ≤ 0 ∧ (bt f t s = 0 → _)
        by_cases c : s ∈ f t
        · rw [bt_in ok c]
          exact ⟨by omega, fun _ => ⟨fun _ z => (nomatch z), ok.sym _ _ c⟩⟩
        · rw [bt_out hst c]
          exact ⟨by omega, fun z => by omega⟩
      | cons c v =>
        have hl : v.length < n := by rw [← hv]; simp
        have hc : c ∈ ls := hm c (List.mem_cons_self ..)
        have ne : s ≠ c := fun z => hd (.inl z.symm)
        have rc : ¬ desc f c v := st.red.1
        obtain ⟨i1, i2⟩ := ih v.length hl v rfl st.tail fun y hy => hm y (List.mem_cons_of_mem _ hy)
        by_cases hsc : s ∈ f c
        · have e : act f (c :: v) (bt f t) s = act f v (bt f t) s := thr_cr ok hsc
          rw [e]
          have hcs := ok.sym _ _ hsc
          have ex : ¬ (v = [] ∧ s = t) := by
            rintro ⟨rfl, rfl⟩
            exact st.fr c hcs (.inl rfl)
          obtain ⟨a1, a2⟩ := i1 s hs (fun z => hd (.inr ⟨hcs, z⟩)) ex
          refine ⟨a1, fun z => ⟨fun y hy => ?_, (a2 z).2⟩⟩
          rcases List.mem_cons.mp hy with rfl | hy
          · exact hcs
          · exact (a2 z).1 y hy
        · have e : act f (c :: v) (bt f t) s = act f v (bt f t) s + 2 * act f v (bt f t) c := thr_not ne hsc
          rw [e]
          have pc : act f v (bt f t) c ≤ -1 := by
            have ex : ¬ (v = [] ∧ c = t) := by
              rintro ⟨rfl, rfl⟩
              exact st.td (.inl rfl)
            obtain ⟨a1, a2⟩ := i1 c hc rc ex
            by_cases z : act f v (bt f t) c = 0
            · obtain ⟨b1, b2⟩ := a2 z
              refine absurd ?_ (st.fr c (ok.sym _ _ b2))
              rw [List.reverse_cons]
              exact desc_of fun y hy => b1 y (List.mem_reverse.mp hy)
            · omega
          by_cases ds : desc f s v
          · have := i2 s hs c hc ne hsc ds rc 1 2 (by decide) (by decide)
            exact ⟨by omega, fun z => by omega⟩
          · by_cases ex : v = [] ∧ s = t
            · have : act f v (bt f t) s = 1 := by
                rw [ex.1, ex.2]
                exact bt_self
              exact ⟨by omega, fun z => by omega⟩
            · have := (i1 s hs ds ex).1
              exact ⟨by omega, fun z => by omega⟩
    · obtain ⟨p, q, rfl, hp⟩ := desc_split hd
      have su := st.out ok hp
      have nds : ¬ desc f s (p ++ q) := by
        rw [desc_pass ok hp]
        exact (Red_right st.red).1
      have eu : ∀ g, act f (p ++ s :: q) g = thr f s (act f (p ++ q) g) := fun g => by
        rw [act_app, act_app]
        show act f p (thr f s (act f q g)) = _
        rw [act_comm ok hp]
      have hl : (p ++ q).length < n := by
        rw [← hv]
        simp only [List.length_append, List.length_cons]
        omega
      obtain ⟨i1, i2⟩ := ih (p ++ q).length hl (p ++ q) rfl su fun y hy => hm y ((List.mem_append.mp hy).elim (fun z => List.mem_append_left _ z) fun z => List.mem_append_right _ (List.mem_cons_of_mem _ z))
      have nc' : ¬ c ∈ f s := fun z => nc (ok.sym _ _ z)
      rw [eu, thr_self, thr_not ne.symm nc']
      have ps := neg_start ok st hp (i1 s hs nds)
      by_cases dc : desc f c (p ++ q)
      · have := i2 c hc s hs ne.symm nc' dc nds b (2 * b - a) (by omega) (by omega)
        rw [Int.sub_mul, Int.mul_assoc] at this
        rw [Int.mul_neg, Int.mul_add, ← Int.mul_assoc, Int.mul_comm b 2, Int.mul_assoc]
        omega
      · by_cases ex : p ++ q = [] ∧ c = t
        · have e1 : act f (p ++ q) (bt f t) c = 1 := by
            rw [ex.1, ex.2]
            exact bt_self
          have e2 : act f (p ++ q) (bt f t) s = -1 := by
            rw [ex.1]
            exact bt_out (ex.2 ▸ ne) (ex.2 ▸ nc)
          rw [e1, e2]
          omega
        · have h1 := (i1 c hc dc ex).1
          have h2 : b * act f (p ++ q) (bt f t) c ≤ 0 := Int.mul_nonpos_of_nonneg_of_nonpos (by omega) h1
          have h3 : (2 * b - a) * act f (p ++ q) (bt f t) s < 0 := Int.mul_neg_of_pos_of_neg (by omega) (by omega)
          rw [Int.sub_mul, Int.mul_assoc] at h3
          rw [Int.mul_neg, Int.mul_add, ← Int.mul_assoc, Int.mul_comm b 2, Int.mul_assoc]
          omega
/-- how the wall of the kind s at home lies to the wall (v, t) -/
theorem b_pos (ok : CrOk f) (ht : t ∈ ls) {v : List Nat} (st : Strt f t v) (hm : ∀ y ∈ v, y ∈ ls) (hs : s ∈ ls) (hd : desc f s v) : 0 < act f v (bt f t) s := by
  obtain ⟨p, q, rfl, hp⟩ := desc_split hd
  have su := st.out ok hp
  have nds : ¬ desc f s (p ++ q) := by
    rw [desc_pass ok hp]
    exact (Red_right st.red).1
  have eu : ∀ g, act f (p ++ s :: q) g = thr f s (act f (p ++ q) g) := fun g => by
    rw [act_app, act_app]
    show act f p (thr f s (act f q g)) = _
    rw [act_comm ok hp]
  have i1 := (bsign ok ht _ (p ++ q) rfl su fun y hy => hm y ((List.mem_append.mp hy).elim (fun z => List.mem_append_left _ z) fun z => List.mem_append_right _ (List.mem_cons_of_mem _ z))).1 s hs nds
  have := neg_start ok st hp i1
  rw [eu, thr_self]
  omega
theorem b_zero (ok : CrOk f) (ht : t ∈ ls) {v : List Nat} (st : Strt f t v) (hm : ∀ y ∈ v, y ∈ ls) (hs : s ∈ ls) (ex : ¬ (v = [] ∧ s = t)) : act f v (bt f t) s = 0 ↔ (∀ y ∈ v, y ∈ f s) ∧ t ∈ f s := by
  constructor
  · intro h
    by_cases hd : desc f s v
    · have := b_pos ok ht st hm hs hd
      omega
    · exact ((bsign ok ht _ v rfl st hm).1 s hs hd ex).2 h
  · rintro ⟨h1, h2⟩
    have := mark_along (f := f) (s := s) (g := bt f t) (v := []) ok h1
    rw [List.append_nil] at this
    rw [this]
    exact bt_in ok (ok.sym _ _ h2)
end
end Cw
set_option Elab.async false
set_option linter.all false
set_option maxRecDepth 100000
set_option maxHeartbeats 4000000
/-! how two walls lie, by the product of their marks -/
namespace Cw
section
variable {f : Nat → List Nat} {ls : List Nat} {s t c : Nat}
theorem near_split (ok : CrOk f) {u : List Nat} (hd : desc f t u.reverse) : (∀ g, act f u g = act f (nearC f u t ++ [t]) g) ∧ (nearC f u t).length + 1 = u.length := by
  unfold nearC
  rw [if_pos hd]
  refine ⟨fun g => ?_, (step_len_desc ok u t).1 hd⟩
  rw [act_app, act_step ok, act_app]
  show act f u g = act f u (thr f t (thr f t g))
  rw [thr_thr ok]
theorem near_same {u : List Nat} (hd : ¬ desc f t u.reverse) : nearC f u t = u := by
  unfold nearC
  rw [if_neg hd]
theorem start_split (ok : CrOk f) (u : List Nat) (t : Nat) : ∃ y, (∀ z ∈ y, z ∈ f t) ∧ (∀ z ∈ y, z ∈ nearC f u t) ∧ (∀ g, act f (nearC f u t) g = act f (startC f u t ++ y) g) ∧ (startC f u t).length + y.length = (nearC f u t).length := by
  refine ⟨(splitA f (f t) (nearC f u t).reverse).1.reverse, fun z hz => splitA_in f _ _ z (List.mem_reverse.mp hz), fun z hz => List.mem_reverse.mp (splitA_mem1 f _ _ z (List.mem_reverse.mp hz)), fun g => ?_, ?_⟩
  · have h := act_rev_eq ok (fun g => splitA_act ok g (nearC f u t).reverse (f t)) g
    rw [List.reverse_append, List.reverse_reverse] at h
    exact h.symm
  · have h := splitA_len f (nearC f u t).reverse (f t)
    unfold startC
    rw [List.length_reverse] at *
    rw [List.length_reverse]
    omega
theorem red_cat (ok : CrOk f) {u w : List Nat} (hu : NF f u) (e : ∀ g, act f u g = act f w g) (l : w.length = u.length) : Red f w := by
  refine red_of_len ok ?_
  have e1 : nameOf f w = nameOf f u := (name_eq ok e).symm
  have e2 : nameOf f u = u := (is_NF ok).mpr hu
  rw [e1, e2, l]
theorem desc_act (ok : CrOk f) {u w : List Nat} (ru : Red f u) (rw' : Red f w) (mu : ∀ y ∈ u, y ∈ ls) (mw : ∀ y ∈ w, y ∈ ls) (hs : s ∈ ls) (e : ∀ g, act f u g = act f w g) : desc f s u ↔ desc f s w := by
  rw [← ng_desc ok ru mu hs, ← ng_desc ok rw' mw hs]
  exact ng_act e s
theorem Strt.of (ok : CrOk f) {u : List Nat} (hu : NF f u) (t : Nat) : Strt f t (startC f u t) := ⟨(start_NF ok hu t).red, start_not ok hu t, start_free ok u t⟩
theorem st_mem {u : List Nat} (mu : ∀ y ∈ u, y ∈ ls) (ht : t ∈ ls) : ∀ y ∈ startC f u t, y ∈ ls := fun y hy => (start_mem hy).elim (fun z => z ▸ ht) (mu y)
theorem nr_mem {u : List Nat} (mu : ∀ y ∈ u, y ∈ ls) (ht : t ∈ ls) : ∀ y ∈ nearC f u t, y ∈ ls := fun y hy => (near_mem hy).elim (fun z => z ▸ ht) (mu y)
/-- what begins the way to the wall begins the way to each of its doors -/
theorem desc_start (ok : CrOk f) {u : List Nat} (hu : NF f u) (mu : ∀ y ∈ u, y ∈ ls) (hs : s ∈ ls) (ht : t ∈ ls) (h : desc f s (startC f u t)) : desc f s u := by
  obtain ⟨y, y1, y2, ey, ly⟩ := start_split ok u t
  have my : ∀ z ∈ startC f u t ++ y, z ∈ ls := fun z hz => (List.mem_append.mp hz).elim (st_mem mu ht z) fun w => nr_mem mu ht z (y2 z w)
  have nn := near_NF ok hu t
  have r1 : Red f (startC f u t ++ y) := red_cat ok nn ey (by rw [List.length_append, ly])
  have d1 : desc f s (nearC f u t) := (desc_act ok nn.red r1 (nr_mem mu ht) my hs ey).mpr (desc_left h)
  by_cases hd : desc f t u.reverse
  · obtain ⟨e2, l2⟩ := near_split ok hd
    have r2 : Red f (nearC f u t ++ [t]) := red_cat ok hu e2 (by rw [List.length_append, List.length_singleton, l2])
    exact (desc_act ok hu.red r2 mu (fun z hz => (List.mem_append.mp hz).elim (nr_mem mu ht z) fun w => by rw [List.mem_singleton.mp w]; exact ht) hs e2).mpr (desc_left d1)
  · rw [near_same hd] at d1
    exact d1
theorem act_zero (ok : CrOk f) {g : Nat → Int} {E : List Nat} (hg : ∀ e ∈ E, g e = 0) : ∀ {w : List Nat} {c : Nat}, (∀ y ∈ w, y ∈ E) → c ∈ E → act f w g c = 0
  | [], c, _, hc => hg c hc
  | d :: r, c, hw, hc => by
    have hr : ∀ y ∈ r, y ∈ E := fun y hy => hw y (List.mem_cons_of_mem _ hy)
    have h1 := act_zero ok hg hr hc
    have h2 := act_zero ok hg hr (hw d (List.mem_cons_self ..))
    show thr f d (act f r g) c = 0
    unfold thr
    rw [h1, h2]
    split
    · rfl
    · split <;> rfl
theorem b_eq (hn : ls.Nodup) (ok : CrOk f) {u : List Nat} (mu : ∀ y ∈ u, y ∈ ls) (hs : s ∈ ls) (ht : t ∈ ls) : act f u (bt f t) s = if desc f t u.reverse then - act f (startC f u t) (bt f t) s else act f (startC f u t) (bt f t) s := by
  rw [← psi_act hn ok ht mu hs, ← psi_act hn ok ht (st_mem mu ht) hs]
  have e : ∀ y, mark f (startC f u t).reverse t y = if desc f t u.reverse then - mark f u.reverse t y else mark f u.reverse t y := fun y => by
    unfold mark
    rw [start_mark ok, near_mark ok]
  by_cases hd : desc f t u.reverse
  · rw [if_pos hd]
    have e2 : sumL ls (fun y => mark f (startC f u t).reverse t y * bt f y s) = sumL ls fun y => (-1) * (mark f u.reverse t y * bt f y s) + 0 * 0 := sumL_congr fun y _ => by
      rw [e, if_pos hd, Int.neg_mul]
      omega
    rw [e2, sumL_comb (-1) 0 (fun y => mark f u.reverse t y * bt f y s) (fun _ => 0)]
    omega
  · rw [if_neg hd]
    exact sumL_congr fun y _ => by rw [e, if_neg hd]
theorem NF.pre {w : List Nat} (n : Nat) (h : NF f w) : NF f (w.take n) := by
  unfold NF at h ⊢
  rw [← List.take_append_drop n w, List.reverse_append] at h
  exact NFr_right h
/-! ### two walls -/
structure W2 (f : Nat → List Nat) (ls : List Nat) (m : List Nat) (s : Nat) (n : List Nat) (t : Nat) : Prop where
  nd : ls.Nodup
  ok : CrOk f
  hs : s ∈ ls
  ht : t ∈ ls
  m1 : NF f m
  n1 : NF f n
  mm : ∀ y ∈ m, y ∈ ls
  mn : ∀ y ∈ n, y ∈ ls
  sm : Strt f s m
  sn : Strt f t n
section
variable {m n : List Nat}
theorem W2.symm (h : W2 f ls m s n t) : W2 f ls n t m s := ⟨h.nd, h.ok, h.ht, h.hs, h.n1, h.m1, h.mn, h.mm, h.sn, h.sm⟩
theorem W2.same (h : W2 f ls m s n t) : (∀ x ∈ ls, mark f m.reverse s x = mark f n.reverse t x) ↔ s = t ∧ m = n := by
  constructor
  · intro e
    have ek : s = t := root_kind h.hs e
    subst ek
    exact ⟨rfl, wall_uniq h.nd h.ok h.hs h.m1 h.n1 h.mm h.mn h.sm.fr h.sn.fr e⟩
  · rintro ⟨rfl, rfl⟩ x _
    rfl
theorem W2.mu (h : W2 f ls m s n t) : ∀ y ∈ wayC f m n, y ∈ ls := fun y hy => by
  rcases List.mem_append.mp (name_mem hy) with z | z
  · exact h.mm y (List.mem_reverse.mp z)
  · exact h.mn y z
/-- the product of the marks -/
theorem W2.prod (h : W2 f ls m s n t) : prodV f ls (mark f m.reverse s) (mark f n.reverse t) = act f (wayC f m n) (bt f t) s := by
  rw [prod_act h.nd h.ok h.mm h.mn h.hs h.ht]
  unfold wayC
  rw [name_act h.ok]
theorem W2.npos (h : W2 f ls m s n t) : Pos ls (mark f n.reverse t) := mark_nn h.ok h.n1.red.rev (fun y hy => h.mn y (List.mem_reverse.mp hy)) h.ht h.sn.td
theorem W2.mpos (h : W2 f ls m s n t) : Pos ls (mark f m.reverse s) := h.symm.npos
theorem W2.goes (h : W2 f ls m s n t) (g : Nat → Int) : act f n.reverse g = act f (wayC f m n).reverse (act f m.reverse g) := by
  have e := way_goes h.ok m n
  have e1 : nameOf f n = n := (is_NF h.ok).mpr h.n1
  rw [e1] at e
  rw [← act_app, ← List.reverse_append, ← act_of_name h.ok (m ++ wayC f m n), e]
theorem W2.uNF (h : W2 f ls m s n t) : NF f (wayC f m n) := name_NF h.ok _
theorem W2.vmark (h : W2 f ls m s n t) (g : Nat → Int) : act f (startC f (wayC f m n) t).reverse g t = if desc f t (wayC f m n).reverse then - act f (wayC f m n).reverse g t else act f (wayC f m n).reverse g t := by rw [start_mark h.ok, near_mark h.ok]
theorem W2.exc (h : W2 f ls m s n t) (ns : ¬ (s = t ∧ m = n)) : ¬ (startC f (wayC f m n) t = [] ∧ s = t) := by
  rintro ⟨e1, rfl⟩
  apply ns
  refine (h.same).mp fun x hx => ?_
  have hv := h.vmark (act f m.reverse (unit x))
  rw [e1, ← h.goes] at hv
  have hv : act f m.reverse (unit x) s = if desc f s (wayC f m n).reverse then - act f n.reverse (unit x) s else act f n.reverse (unit x) s := hv
  by_cases d : desc f s (wayC f m n).reverse
  · exfalso
    obtain ⟨y, hy, p1⟩ := h.npos.2
    have hw := h.vmark (act f m.reverse (unit y))
    rw [e1, ← h.goes, if_pos d] at hw
    have hw : act f m.reverse (unit y) s = - act f n.reverse (unit y) s := hw
    have p2 := h.mpos.1 y hy
    have p1 : 0 < act f n.reverse (unit y) s := p1
    have p2 : 0 ≤ act f m.reverse (unit y) s := p2
    omega
  · rw [if_neg d] at hv
    exact hv
theorem W2.vst (h : W2 f ls m s n t) : Strt f t (startC f (wayC f m n) t) := Strt.of h.ok h.uNF t
/-- a door of a kind that crosses t, or of t itself, behind the way to the wall: the walls cross or are one -/
theorem W2.along (h : W2 f ls m s n t) (ns : ¬ (s = t ∧ m = n)) (h0 : act f (startC f (wayC f m n) t) (bt f t) s ≠ 0) (hd : ¬ desc f s (startC f (wayC f m n) t)) {y : List Nat} (hy : ∀ z ∈ y, z ∈ f t ∨ z = t) (hy1 : ∀ p c q, y = p ++ c :: q → ∀ z ∈ p, z ∈ f t) (my : ∀ z ∈ y, z ∈ ls) : ¬ Ng f ls (startC f (wayC f m n) t ++ y) s := by
  have ok := h.ok
  have st := h.vst
  have ex := h.exc ns
  have mv := st_mem (f := f) h.mu h.ht
  generalize startC f (wayC f m n) t = v at st ex mv h0 hd
  intro z
  have n0 : ¬ Ng f ls v s := fun w => hd ((ng_desc ok st.red mv h.hs).mp w)
  obtain ⟨p, c, q, e, hg⟩ := turn_door h.nd ok mv h.hs y my fun w => n0 (w.mpr z)
  have hpt := hy1 p c q e
  have hcy : c ∈ y := by rw [e]; exact List.mem_append_right _ (List.mem_cons_self ..)
  have ez : ∀ g, act f v g s = act f (v ++ p) (act f p.reverse g) s := fun g => by rw [act_app, act_rev' ok]
  have hpr : ∀ z ∈ p.reverse, z ∈ f t := fun z hz => hpt z (List.mem_reverse.mp hz)
  rcases hy c hcy with hc | hc
  · have e0 : act f p.reverse (bt f t) c = 0 := act_zero ok (E := f t) (fun e he => bt_in ok he) hpr hc
    apply h0
    rcases hg with hg | hg
    · rw [ez, hg, e0]
    · rw [ez, hg, e0]
      rfl
  · subst hc
    have ea : ∀ g, act f p.reverse g c = g c := fun g => by
      have := mark_along (f := f) (s := c) (g := g) (v := []) ok hpr
      rw [List.append_nil] at this
      exact this
    rcases hg with hg | hg
    · have e1 : ∀ x, act f v (unit x) s = unit x c := fun x => by rw [ez, hg, ea]
      have ek : s = c := root_kind (w := []) h.hs fun x _ => e1 x
      subst ek
      have fx := mark_fix h.nd ok h.hs st.red mv fun x _ => e1 x
      apply ex
      refine ⟨?_, rfl⟩
      cases hv : v.reverse with
      | nil => simpa using hv
      | cons a r =>
        exfalso
        have ha : a ∈ v := List.mem_reverse.mp (by rw [hv]; exact List.mem_cons_self ..)
        exact st.fr a (fx a ha) (by rw [hv]; exact .inl rfl)
    · apply n0
      refine ⟨c, h.ht, ?_⟩
      show act f v (unit c) s < 0
      rw [ez, hg, ea, show unit c c = 1 from if_pos rfl]
      decide
/-- the way on from the wall to its door -/
theorem W2.tail (h : W2 f ls m s n t) : ∃ y, (∀ z ∈ y, z ∈ f t ∨ z = t) ∧ (∀ p c q, y = p ++ c :: q → ∀ z ∈ p, z ∈ f t) ∧ (∀ z ∈ y, z ∈ ls) ∧ ∀ g, act f (wayC f m n) g = act f (startC f (wayC f m n) t ++ y) g := by
  obtain ⟨y, y1, y2, ey, ly⟩ := start_split h.ok (wayC f m n) t
  have my : ∀ z ∈ y, z ∈ ls := fun z hz => nr_mem h.mu h.ht z (y2 z hz)
  by_cases hd : desc f t (wayC f m n).reverse
  · obtain ⟨e2, _⟩ := near_split h.ok hd
    refine ⟨y ++ [t], fun z hz => (List.mem_append.mp hz).elim (fun w => .inl (y1 z w)) fun w => .inr (List.mem_singleton.mp w), fun p c q e z hz => ?_, fun z hz => (List.mem_append.mp hz).elim (my z) fun w => by rw [List.mem_singleton.mp w]; exact h.ht, fun g => ?_⟩
    · have hl := congrArg List.length e
      simp only [List.length_append, List.length_cons, List.length_nil] at hl
      have hp : p = (y ++ [t]).take p.length := by rw [e]; simp
      rw [List.take_append_of_le_length (by omega)] at hp
      exact y1 z (List.mem_of_mem_take (by rw [← hp]; exact hz))
    · rw [e2, act_app, ey, ← act_app, List.append_assoc]
  · refine ⟨y, fun z hz => .inl (y1 z hz), fun p c q e z hz => y1 z (by rw [e]; exact List.mem_append_left _ hz), my, fun g => ?_⟩
    rw [← ey, near_same hd]
theorem W2.zero (h : W2 f ls m s n t) (ns : ¬ (s = t ∧ m = n)) : act f (wayC f m n) (bt f t) s = 0 ↔ (∀ y ∈ startC f (wayC f m n) t, y ∈ f s) ∧ t ∈ f s := by
  rw [← b_zero h.ok h.ht h.vst (st_mem h.mu h.ht) h.hs (h.exc ns), b_eq h.nd h.ok h.mu h.hs h.ht]
  split <;> omega
theorem W2.one (h : W2 f ls m s n t) (hs : s = t ∧ m = n) : act f (wayC f m n) (bt f t) s = 1 := by
  obtain ⟨rfl, rfl⟩ := hs
  rw [way_self h.ok]
  exact bt_self
/-- whether they cross, as the program finds it -/
theorem W2.crosses (h : W2 f ls m s n t) : act f (wayC f m n) (bt f t) s = 0 ↔ t ∈ f s ∧ startC f (nameOf f (m ++ (splitA f (f s) (wayC f m n)).1)) t = n := by
  have ok := h.ok
  have al1 := splitA_in f (wayC f m n) (f s)
  have al2 := splitA_mem1 f (wayC f m n) (f s)
  have ra := fun g => splitA_act ok g (wayC f m n) (f s)
  have rl := splitA_len f (wayC f m n) (f s)
  have rd := splitA_desc ok (wayC f m n) (f s)
  have rm := splitA_mem2 f (wayC f m n) (f s)
  generalize (splitA f (f s) (wayC f m n)).1 = al at al1 al2 ra rl
  generalize (splitA f (f s) (wayC f m n)).2 = rs at ra rl rd rm
  have mal : ∀ y ∈ al, y ∈ ls := fun y hy => h.mu y (al2 y hy)
  have mrs : ∀ y ∈ rs, y ∈ ls := fun y hy => h.mu y (rm y hy)
  have mma : ∀ y ∈ m ++ al, y ∈ ls := fun y hy => (List.mem_append.mp hy).elim (h.mm y) (mal y)
  have mnm : ∀ y ∈ nameOf f (m ++ al), y ∈ ls := fun y hy => mma y (name_mem hy)
  have sg : ∀ g, act f (startC f (nameOf f (m ++ al)) t).reverse g t = if desc f t (nameOf f (m ++ al)).reverse then - act f (m ++ al).reverse g t else act f (m ++ al).reverse g t := fun g => by rw [start_mark ok, near_mark ok, act_of_name ok]
  constructor
  · intro hz
    have ns : ¬ (s = t ∧ m = n) := fun z => by rw [h.one z] at hz; omega
    obtain ⟨hv, hts⟩ := (h.zero ns).mp hz
    refine ⟨hts, ?_⟩
    -- the rest leaves the mark of t but for the sign
    have rr : Red f rs := Red_right (red_cat ok h.uNF (fun g => (ra g).symm) (by rw [List.length_append, rl]))
    have nrs : NF f (nameOf f rs) := name_NF ok rs
    have mnr : ∀ y ∈ nameOf f rs, y ∈ ls := fun y hy => mrs y (name_mem hy)
    have s2 : ∀ g, act f (startC f (nameOf f rs) t).reverse g t = if desc f t (nameOf f rs).reverse then - act f rs.reverse g t else act f rs.reverse g t := fun g => by rw [start_mark ok, near_mark ok, act_of_name ok]
    have back : ∀ g, act f rs.reverse g t = act f (wayC f m n).reverse (act f al g) t := fun g => by
      have := act_rev_eq ok ra (act f al g)
      rw [List.reverse_append, act_app, act_rev ok] at this
      rw [this]
    have v2 : startC f (nameOf f rs) t = [] := by
      have st2 := Strt.of ok nrs t
      have m2 := st_mem (f := f) (t := t) mnr h.ht
      cases e : startC f (nameOf f rs) t with
      | nil => rfl
      | cons c v' =>
        exfalso
        rw [e] at st2 m2
        have hcl : c ∈ ls := m2 c (List.mem_cons_self ..)
        have hcs : ¬ c ∈ f s := fun z => by
          have d1 : desc f c (nameOf f rs) := desc_start ok nrs mnr hcl h.ht (by rw [e]; exact .inl rfl)
          exact rd c z ((ng_desc ok rr mrs hcl).mp ((ng_name ok rs c).mp ((ng_desc ok nrs.red mnr hcl).mpr d1)))
        have hct : c ≠ t := fun z => hcs (z ▸ hts)
        -- its coordinate c is nought
        have z1 : act f rs.reverse (unit c) t = 0 := by
          have e3 := h.vmark (act f al (unit c))
          have e4 : act f (startC f (wayC f m n) t).reverse (act f al (unit c)) t = 0 := by
            rw [← act_app]
            refine mark_zero ok (x := c) (w := (startC f (wayC f m n) t).reverse ++ al) (s := t) (fun z => ?_) hct
            rcases List.mem_append.mp z with z | z
            · exact hcs (hv c (List.mem_reverse.mp z))
            · exact hcs (al1 c z)
          rw [e4] at e3
          rw [back]
          split at e3 <;> omega
        have z2 : mark f (c :: v').reverse t c = 0 := by
          have := s2 (unit c)
          rw [e, z1] at this
          show act f (c :: v').reverse (unit c) t = 0
          rw [this]
          split <;> rfl
        -- but it is not
        have hl := bsign ok h.ht _ v' rfl st2.tail fun y hy => m2 y (List.mem_cons_of_mem _ hy)
        have nc := neg_start (p := []) (q := v') ok st2 (fun _ z => (nomatch z)) (hl.1 c hcl st2.red.1)
        have nc : act f v' (bt f t) c ≤ -1 := nc
        have mv' : ∀ y ∈ v', y ∈ ls := fun y hy => m2 y (List.mem_cons_of_mem _ hy)
        have p1 := (mark_nn ok st2.tail.red.rev (fun y hy => mv' y (List.mem_reverse.mp hy)) h.ht st2.tail.td).1 c hcl
        have k1 := mark_head h.nd ok h.ht mv' hcl
        omega
    have sR : (∀ g, act f rs.reverse g t = g t) ∨ (∀ g, act f rs.reverse g t = - g t) := by
      by_cases d : desc f t (nameOf f rs).reverse
      · right
        intro g
        have := s2 g
        rw [v2, if_pos d] at this
        have this : g t = - act f rs.reverse g t := this
        omega
      · left
        intro g
        have := s2 g
        rw [v2, if_neg d] at this
        have this : g t = act f rs.reverse g t := this
        omega
    have eU : ∀ g, act f (wayC f m n).reverse g t = act f rs.reverse (act f al.reverse g) t := fun g => by
      have := act_rev_eq ok ra g
      rw [← this, List.reverse_append, act_app]
    have eN : (∀ g, act f n.reverse g t = act f (m ++ al).reverse g t) ∨ (∀ g, act f n.reverse g t = - act f (m ++ al).reverse g t) := by
      rcases sR with sR | sR
      · left
        intro g
        rw [h.goes, eU, sR, List.reverse_append, act_app]
      · right
        intro g
        rw [h.goes, eU, sR, List.reverse_append, act_app]
    refine wall_uniq h.nd ok h.ht (start_NF ok (name_NF ok _) t) h.n1 (st_mem mnm h.ht) h.mn (start_free ok _ t) h.sn.fr fun x hx => ?_
    have p1 := mark_nn (ls := ls) ok (start_NF ok (name_NF ok (m ++ al)) t).red.rev (fun y hy => st_mem mnm h.ht y (List.mem_reverse.mp hy)) h.ht (start_not ok (name_NF ok _) t)
    have p2 := h.npos
    have key : (∀ g, act f (startC f (nameOf f (m ++ al)) t).reverse g t = act f n.reverse g t) ∨ (∀ g, act f (startC f (nameOf f (m ++ al)) t).reverse g t = - act f n.reverse g t) := by
      by_cases d : desc f t (nameOf f (m ++ al)).reverse
      · rcases eN with eN | eN
        · right
          intro g
          rw [sg, if_pos d, eN]
        · left
          intro g
          rw [sg, if_pos d, eN]
      · rcases eN with eN | eN
        · left
          intro g
          rw [sg, if_neg d, eN]
        · right
          intro g
          rw [sg, if_neg d, eN]
          omega
    rcases key with key | key
    · exact key (unit x)
    · exfalso
      obtain ⟨z, hz', w⟩ := p2.2
      have w : 0 < act f n.reverse (unit z) t := w
      have w2 : 0 ≤ act f (startC f (nameOf f (m ++ al)) t).reverse (unit z) t := p1.1 z hz'
      rw [key] at w2
      omega
  · rintro ⟨hts, e⟩
    rw [← h.prod]
    have e1 : ∀ y, mark f n.reverse t y = if desc f t (nameOf f (m ++ al)).reverse then - mark f (m ++ al).reverse t y else mark f (m ++ al).reverse t y := fun y => by
      have := sg (unit y)
      rw [e] at this
      exact this
    have e2 : prodV f ls (mark f m.reverse s) (mark f (m ++ al).reverse t) = 0 := by
      rw [prod_act h.nd ok h.mm mma h.hs h.ht, ← List.append_assoc, act_app, act_app, act_rev ok]
      have := mark_along (f := f) (s := s) (g := bt f t) (v := []) ok al1
      rw [List.append_nil] at this
      rw [this]
      exact bt_in ok (ok.sym _ _ hts)
    unfold prodV at e2 ⊢
    by_cases d : desc f t (nameOf f (m ++ al)).reverse
    · have e3 : sumL ls (fun x => mark f m.reverse s x * sumL ls fun y => mark f n.reverse t y * bt f y x) = sumL ls fun x => (-1) * (mark f m.reverse s x * sumL ls fun y => mark f (m ++ al).reverse t y * bt f y x) + 0 * 0 := sumL_congr fun x _ => by
        have e4 : sumL ls (fun y => mark f n.reverse t y * bt f y x) = sumL ls fun y => (-1) * (mark f (m ++ al).reverse t y * bt f y x) + 0 * 0 := sumL_congr fun y _ => by
          rw [e1, if_pos d, Int.neg_mul]
          omega
        rw [e4, sumL_comb (-1) 0 (fun y => mark f (m ++ al).reverse t y * bt f y x) (fun _ => 0), Int.mul_add, ← Int.mul_assoc, Int.mul_comm _ (-1), Int.mul_assoc]
        omega
      rw [e3, sumL_comb (-1) 0 _ (fun _ => 0), e2]
      omega
    · have e3 : sumL ls (fun x => mark f m.reverse s x * sumL ls fun y => mark f n.reverse t y * bt f y x) = sumL ls fun x => mark f m.reverse s x * sumL ls fun y => mark f (m ++ al).reverse t y * bt f y x := sumL_congr fun x _ => by
        rw [sumL_congr (u := fun y => mark f n.reverse t y * bt f y x) (v := fun y => mark f (m ++ al).reverse t y * bt f y x) fun y _ => by rw [e1, if_neg d]]
      rw [e3, e2]
end
end
end Cw
set_option Elab.async false
set_option linter.all false
set_option maxRecDepth 100000
set_option maxHeartbeats 4000000
/-! the walls on shortest ways from home, as lists of marks -/
namespace Cw
/-- the marks of the doors of a shortest way -/
def crL (f : Nat → List Nat) (n : List Nat) : List (Nat → Int) := (List.range n.length).map fun i => fun x => act f (n.take i).reverse (unit x) (n.getD i 0)
/-- without two that are alike -/
def NdV (ls : List Nat) (us : List (Nat → Int)) : Prop := us.Pairwise fun u v => ¬ ∀ x ∈ ls, u x = v x
theorem key_iff {ls : List Nat} {u v : Nat → Int} : ls.map u = ls.map v ↔ ∀ x ∈ ls, u x = v x := by
  induction ls with
  | nil => exact ⟨fun _ _ h => (nomatch h), fun _ => rfl⟩
  | cons y r ih =>
    rw [List.map_cons, List.map_cons, List.cons.injEq, ih]
    exact ⟨fun h x hx => (List.mem_cons.mp hx).elim (fun z => z ▸ h.1) (h.2 x), fun h => ⟨h y (List.mem_cons_self ..), fun x hx => h x (List.mem_cons_of_mem _ hx)⟩⟩
theorem NdV.key {ls : List Nat} {us : List (Nat → Int)} (h : NdV ls us) : (us.map fun u => ls.map u).Nodup := by
  unfold List.Nodup
  rw [List.pairwise_map]
  exact h.imp fun {a b} n z => n (key_iff.mp z)
theorem len_same {ls : List Nat} {us vs : List (Nat → Int)} (h1 : NdV ls us) (h2 : NdV ls vs) (a : ∀ u ∈ us, ∃ v ∈ vs, ∀ x ∈ ls, v x = u x) (b : ∀ v ∈ vs, ∃ u ∈ us, ∀ x ∈ ls, u x = v x) : us.length = vs.length := by
  have p := (List.perm_ext_iff_of_nodup h1.key h2.key).mpr fun k => by
    constructor
    · intro hk
      obtain ⟨u, hu, rfl⟩ := List.mem_map.mp hk
      obtain ⟨v, hv, e⟩ := a u hu
      exact List.mem_map.mpr ⟨v, hv, key_iff.mpr e⟩
    · intro hk
      obtain ⟨v, hv, rfl⟩ := List.mem_map.mp hk
      obtain ⟨u, hu, e⟩ := b v hv
      exact List.mem_map.mpr ⟨u, hu, key_iff.mpr e⟩
  have := p.length_eq
  rw [List.length_map, List.length_map] at this
  exact this
section
variable {f : Nat → List Nat} {ls : List Nat} {s : Nat}
theorem door_red {w : List Nat} (h : Red f w) {i : Nat} (hi : i < w.length) : ¬ desc f (w.getD i 0) (w.take i).reverse := by
  have e : w = w.take i ++ w.getD i 0 :: w.drop (i + 1) := by
    rw [List.getD_eq_getElem?_getD, List.getElem?_eq_getElem hi]
    show w = w.take i ++ w[i] :: w.drop (i + 1)
    rw [← List.drop_eq_getElem_cons hi, List.take_append_drop]
  have h2 : Red f ((w.take i ++ [w.getD i 0]) ++ w.drop (i + 1)) := by
    rw [List.append_assoc]
    show Red f (w.take i ++ w.getD i 0 :: w.drop (i + 1))
    rw [← e]
    exact h
  have h3 := (Red_left h2).rev
  rw [List.reverse_append] at h3
  exact h3.1
theorem getD_in {w : List Nat} {i : Nat} (h : i < w.length) : w.getD i 0 ∈ w := by
  rw [List.getD_eq_getElem?_getD, List.getElem?_eq_getElem h]
  exact List.getElem_mem h
/-- a door of a way lies in a wall: the rooms beyond it -/
theorem on_iff (hn : ls.Nodup) (ok : CrOk f) {w n : List Nat} (hw : NF f w) (mw : ∀ y ∈ w, y ∈ ls) {i : Nat} (hi : i < w.length) (nn : NF f n) (mn : ∀ y ∈ n, y ∈ ls) :
    (∃ u ∈ crL f n, ∀ x ∈ ls, u x = act f (w.take i).reverse (unit x) (w.getD i 0)) ↔ Ng f ls ((w.take i).reverse ++ n) (w.getD i 0) := by
  have mt : ∀ y ∈ w.take i, y ∈ ls := fun y hy => mw y (List.mem_of_mem_take hy)
  have hs := mw _ (getD_in hi)
  have hb := beyond_iff hn ok mt (NF.pre i hw) hs (door_red hw.red hi) nn mn
  have mW : ∀ y ∈ wayC f (w.take i) n, y ∈ ls := fun y hy => by
    rcases List.mem_append.mp (name_mem hy) with z | z
    · exact mt y (List.mem_reverse.mp z)
    · exact mn y z
  rw [← ng_name ok, show nameOf f ((w.take i).reverse ++ n) = wayC f (w.take i) n from rfl, ng_desc ok (show Red f (wayC f (w.take i) n) from (name_NF ok _).red) mW hs, hb]
  unfold crL
  constructor
  · rintro ⟨u, hu, h⟩
    obtain ⟨j, hj, rfl⟩ := List.mem_map.mp hu
    exact ⟨j, List.mem_range.mp hj, h⟩
  · rintro ⟨j, hj, h⟩
    exact ⟨_, List.mem_map.mpr ⟨j, List.mem_range.mpr hj, rfl⟩, h⟩
/-- a shortest way goes through no wall twice -/
theorem crL_nd (hn : ls.Nodup) (ok : CrOk f) {n : List Nat} (nn : NF f n) (mn : ∀ y ∈ n, y ∈ ls) : NdV ls (crL f n) := by
  unfold NdV crL
  rw [List.pairwise_map]
  refine List.Pairwise.imp_of_mem (R := fun i j => i < j) ?_ List.pairwise_lt_range
  intro i j hi hj hij h
  have hi := List.mem_range.mp hi
  have hj := List.mem_range.mp hj
  have hc := mn _ (getD_in hj)
  have key : ∀ k, i < k → k ≤ n.length → Ng f ls ((n.take i).reverse ++ n.take k) (n.getD i 0) := by
    intro k hk hk2
    have mk : ∀ y ∈ n.take k, y ∈ ls := fun y hy => mn y (List.mem_of_mem_take hy)
    refine (on_iff hn ok nn mn hi (NF.pre k nn) mk).mp ⟨_, List.mem_map.mpr ⟨i, List.mem_range.mpr (by rw [List.length_take]; omega), rfl⟩, fun x _ => ?_⟩
    show act f ((n.take k).take i).reverse (unit x) ((n.take k).getD i 0) = _
    rw [List.take_take, Nat.min_eq_left (Nat.le_of_lt hk)]
    congr 1
    rw [List.getD_eq_getElem?_getD, List.getD_eq_getElem?_getD, List.getElem?_take_of_lt hk]
  obtain ⟨x, hx, h1⟩ := key j hij (Nat.le_of_lt hj)
  have mi : ∀ y ∈ n.take i, y ∈ ls := fun y hy => mn y (List.mem_of_mem_take hy)
  have mj : ∀ y ∈ n.take j, y ∈ ls := fun y hy => mn y (List.mem_of_mem_take hy)
  have sw := act_swap hn ok mi mj (mn _ (getD_in hi)) hc (fun x hx => (h x hx).symm) (act f (n.take j) (unit x))
  have h1 : act f ((n.take i).reverse ++ n.take j) (unit x) (n.getD i 0) < 0 := h1
  rw [act_app, sw, act_rev ok] at h1
  unfold unit at h1
  split at h1 <;> omega
/-! ### the middle -/
theorem mid_on (hn : ls.Nodup) (ok : CrOk f) {a b c M : List Nat} (md : Mid f ls a b c M) (na : NF f a) (nb : NF f b) (nc : NF f c) (ma : ∀ y ∈ a, y ∈ ls) (mb : ∀ y ∈ b, y ∈ ls) (mc : ∀ y ∈ c, y ∈ ls) {w : List Nat} (hw : NF f w) (mw : ∀ y ∈ w, y ∈ ls) {u : Nat → Int} (hu : u ∈ crL f w) :
    (∃ v ∈ crL f M, ∀ x ∈ ls, v x = u x) ↔ ((∃ v ∈ crL f a, ∀ x ∈ ls, v x = u x) ∧ (∃ v ∈ crL f b, ∀ x ∈ ls, v x = u x)) ∨ ((∃ v ∈ crL f a, ∀ x ∈ ls, v x = u x) ∧ (∃ v ∈ crL f c, ∀ x ∈ ls, v x = u x)) ∨ ((∃ v ∈ crL f b, ∀ x ∈ ls, v x = u x) ∧ (∃ v ∈ crL f c, ∀ x ∈ ls, v x = u x)) := by
  obtain ⟨i, hi, rfl⟩ := List.mem_map.mp hu
  have hi := List.mem_range.mp hi
  have e := fun {n : List Nat} (nn : NF f n) (mn : ∀ y ∈ n, y ∈ ls) => on_iff (i := i) hn ok hw mw hi nn mn
  rw [e md.nf md.mem, e na ma, e nb mb, e nc mc]
  exact md.by' _ (fun y hy => mw y (List.mem_of_mem_take (List.mem_reverse.mp hy))) _ (mw _ (getD_in hi))
end
end Cw
set_option Elab.async false
set_option linter.all false
set_option maxRecDepth 100000
set_option maxHeartbeats 4000000
/-! the walls between two rooms, in plain words -/
namespace Cw
def keyI (fn : Nat → List Nat) (m u : List Nat) (n : Nat) : List (List Nat) := (List.range n).map fun i => startC fn (nameOf fn (m ++ u.take i)) (u.getD i 0) ++ [u.getD i 0]
/-- a wall by the room that touches it and its kind -/
structure KeyOk (fn : Nat → List Nat) (ls : List Nat) (m : List Nat) (k : Nat) : Prop where
  nf : NF fn m
  mem : ∀ y ∈ m, y ∈ ls
  hk : k ∈ ls
  td : ¬ desc fn k m.reverse
  fr : ∀ t ∈ fn k, ¬ desc fn t m.reverse
theorem key_ok {ls : List Nat} {fn : Nat → List Nat} (ok : CrOk fn) {m u : List Nat} (mm : ∀ y ∈ m, y ∈ ls) (mu : ∀ y ∈ u, y ∈ ls) {n : Nat} (hn : n ≤ u.length) {key : List Nat} (h : key ∈ keyI fn m u n) : ∃ a k, key = a ++ [k] ∧ KeyOk fn ls a k ∧ a.length ≤ m.length + u.length := by
  obtain ⟨i, hi, rfl⟩ := List.mem_map.mp h
  have hi := List.mem_range.mp hi
  have hk : u.getD i 0 ∈ ls := mu _ (getD_in (by omega))
  have ma : ∀ y ∈ nameOf fn (m ++ u.take i), y ∈ ls := fun y hy => (List.mem_append.mp (name_mem hy)).elim (mm y) fun z => mu y (List.mem_of_mem_take z)
  refine ⟨_, _, rfl, ⟨start_NF ok (name_NF ok _) _, st_mem ma hk, hk, start_not ok (name_NF ok _) _, start_free ok _ _⟩, ?_⟩
  have h1 := start_len ok (nameOf fn (m ++ u.take i)) (u.getD i 0)
  have h2 : (nameOf fn (m ++ u.take i)).length ≤ (m ++ u.take i).length := name_len fn _
  rw [List.length_append, List.length_take] at h2
  omega
def markK (f : Nat → List Nat) (key : List Nat) : Nat → Int := fun x => act f key.dropLast.reverse (unit x) (key.getLastD 0)
theorem markK_app (f : Nat → List Nat) (m : List Nat) (k : Nat) : markK f (m ++ [k]) = mark f m.reverse k := by
  unfold markK mark
  rw [List.dropLast_concat]
  have : (m ++ [k]).getLastD 0 = k := by simp
  rw [this]
section
variable {f : Nat → List Nat} {ls : List Nat} {s : Nat}
/-- the mark of a door's wall is the door's, or its opposite -/
theorem start_sgn (ok : CrOk f) (w : List Nat) (s : Nat) : ∃ e : Int, (e = 1 ∨ e = -1) ∧ ∀ g, act f (startC f (nameOf f w) s).reverse g s = e * act f w.reverse g s := by
  by_cases d : desc f s (nameOf f w).reverse
  · refine ⟨-1, .inr rfl, fun g => ?_⟩
    rw [start_mark ok, near_mark ok, if_pos d, act_of_name ok]
    omega
  · refine ⟨1, .inl rfl, fun g => ?_⟩
    rw [start_mark ok, near_mark ok, if_neg d, act_of_name ok]
    omega
theorem split_at {u : List Nat} {i : Nat} (hi : i < u.length) : u = u.take i ++ u.getD i 0 :: u.drop (i + 1) := by
  rw [List.getD_eq_getElem?_getD, List.getElem?_eq_getElem hi]
  show u = u.take i ++ u[i] :: u.drop (i + 1)
  rw [← List.drop_eq_getElem_cons hi, List.take_append_drop]
/-- no two walls on a shortest way are one -/
theorem btw_nd (hn : ls.Nodup) (ok : CrOk f) {a u : List Nat} (ru : Red f u) (ma : ∀ y ∈ a, y ∈ ls) (mu : ∀ y ∈ u, y ∈ ls) : NdV ls ((keyI f a u u.length).map (markK f)) := by
  unfold NdV keyI
  rw [List.pairwise_map, List.pairwise_map]
  refine List.Pairwise.imp_of_mem (R := fun i j => i < j) ?_ List.pairwise_lt_range
  intro i j hi hj hij h
  have hi := List.mem_range.mp hi
  have hj := List.mem_range.mp hj
  rw [markK_app, markK_app] at h
  have mem : ∀ k, k < u.length → ∀ y ∈ startC f (nameOf f (a ++ u.take k)) (u.getD k 0), y ∈ ls := fun k hk => st_mem (fun y hy => (List.mem_append.mp (name_mem hy)).elim (ma y) fun z => mu y (List.mem_of_mem_take z)) (mu _ (getD_in hk))
  have hs := mu _ (getD_in hi)
  have ht := mu _ (getD_in hj)
  obtain ⟨e, he, hg⟩ := start_sgn ok (a ++ u.take i) (u.getD i 0)
  obtain ⟨e', he', hg'⟩ := start_sgn ok (a ++ u.take j) (u.getD j 0)
  have sw : ∀ g, e * act f (a ++ u.take i).reverse g (u.getD i 0) = e' * act f (a ++ u.take j).reverse g (u.getD j 0) := fun g => by
    rw [← hg, ← hg']
    exact act_swap hn ok (mem i hi) (mem j hj) hs ht (fun x hx => (h x hx).symm) g
  have ej : u.take j = u.take i ++ u.getD i 0 :: (u.drop (i + 1)).take (j - i - 1) := by
    have h1 := split_at (u := u.take j) (i := i) (by rw [List.length_take]; omega)
    rw [List.take_take, Nat.min_eq_left (Nat.le_of_lt hij)] at h1
    have h2 : (u.take j).getD i 0 = u.getD i 0 := by rw [List.getD_eq_getElem?_getD, List.getD_eq_getElem?_getD, List.getElem?_take_of_lt hij]
    have h3 : (u.take j).drop (i + 1) = (u.drop (i + 1)).take (j - i - 1) := by rw [List.drop_take, show j - (i + 1) = j - i - 1 by omega]
    rw [h2, h3] at h1
    exact h1
  have ej1 : u.take (j + 1) = u.take j ++ [u.getD j 0] := by
    rw [List.take_succ_eq_append_getElem hj, List.getD_eq_getElem?_getD, List.getElem?_eq_getElem hj]
    rfl
  have red1 : Red f (u.take (j + 1)) := Red_left (b := u.drop (j + 1)) (by rw [List.take_append_drop]; exact ru)
  rw [ej1, ej, List.append_assoc] at red1
  have rr := Red_right red1
  have mmid : ∀ y ∈ (u.drop (i + 1)).take (j - i - 1), y ∈ ls := fun y hy => mu y (List.mem_of_mem_drop (List.mem_of_mem_take hy))
  have rmid : Red f (u.getD i 0 :: (u.drop (i + 1)).take (j - i - 1)) := Red_left (b := [u.getD j 0]) rr
  generalize (u.drop (i + 1)).take (j - i - 1) = mid at *
  have p1 := (mark_nn ok rmid.2 mmid hs rmid.1).1 _ ht
  have p2 := (mark_nn (ls := ls) ok (show Red f (mid ++ [u.getD j 0]) from rr.2) (fun y hy => (List.mem_append.mp hy).elim (mmid y) fun z => by rw [List.mem_singleton.mp z]; exact ht) hs rr.1).1 _ ht
  have key : ∀ g, e * (- act f mid g (u.getD i 0)) = e' * g (u.getD j 0) := by
    intro g
    have := sw (act f (a ++ u.take j) g)
    rw [act_rev ok] at this
    rw [← this, ej, List.reverse_append, act_app, act_app, act_rev ok, act_app, act_rev ok]
    show _ = e * thr f (u.getD i 0) (act f mid g) (u.getD i 0)
    rw [thr_self]
  have k1 := key (unit (u.getD j 0))
  have k2 := key (act f [u.getD j 0] (unit (u.getD j 0)))
  have u1 : unit (u.getD j 0) (u.getD j 0) = 1 := if_pos rfl
  have e3 : act f [u.getD j 0] (unit (u.getD j 0)) (u.getD j 0) = -1 := by
    show thr f (u.getD j 0) (unit (u.getD j 0)) (u.getD j 0) = -1
    rw [thr_self, u1]
  rw [e3, ← act_app] at k2
  rw [u1] at k1
  have p1 : 0 ≤ act f mid (unit (u.getD j 0)) (u.getD i 0) := p1
  have p2 : 0 ≤ act f (mid ++ [u.getD j 0]) (unit (u.getD j 0)) (u.getD i 0) := p2
  rcases he with rfl | rfl <;> rcases he' with rfl | rfl <;> omega
/-- the walls between two rooms are the same the other way about -/
theorem keyI_len {a u : List Nat} : (keyI f a u u.length).length = u.length := by
  unfold keyI
  rw [List.length_map, List.length_range]
theorem keys_nd (hn : ls.Nodup) (ok : CrOk f) {a u : List Nat} (ru : Red f u) (ma : ∀ y ∈ a, y ∈ ls) (mu : ∀ y ∈ u, y ∈ ls) : (keyI f a u u.length).Nodup := by
  have h := btw_nd hn ok ru ma mu
  unfold NdV at h
  rw [List.pairwise_map] at h
  exact h.imp fun {x y} n z => n fun w _ => by rw [z]
end
end Cw
set_option Elab.async false
set_option linter.all false
set_option maxRecDepth 100000
set_option maxHeartbeats 4000000
/-! the same steps, what is to be found asked behind the match -/
namespace Cw
open PySem PySem.Spec L2
section
variable {σ : St} {H : Hp} {Q : VK} {i : Nat} {y : V} {K : PySem.W.Frag}
theorem e_varG (q : ∃ v, σ[i]? = some (some v) ∧ Q v H) : tVar i σ H Q := q
theorem v_lenG {p : Addr} (q : ∃ ys, H p = some (.lst ys) ∧ Q (.int (ys.length : Nat)) H) : rLen K [.ref p] H Q := by
  obtain ⟨ys, h, q⟩ := q
  exact v_len h q
theorem v_inLG {x : List Nat} {p : Addr} (q : ∃ ls : List (List Nat), H p = some (.lst (ls.map fun l => V.str (tx l))) ∧ Q (.bl (decide (x ∈ ls))) H) : rIn K false (.str (tx x)) (.ref p) H Q := by
  obtain ⟨ys, h, q⟩ := q
  exact v_inL h q
theorem v_lenSetG {P : Program} {w : World} {p : Addr} (q : ∃ l : List Str, H p = some (SetT P w p l) ∧ Q (.int (l.length : Nat)) H) : rLenSet P w [.ref p] H Q := by
  obtain ⟨ys, h, q⟩ := q
  exact v_lenSet h q
theorem v_tyLG {P : Prop} {p : Addr} (q : ∃ xs, H p = some (.lst xs) ∧ P) : tyV K "list" (.ref p) H ∧ P := by
  obtain ⟨ys, h, q⟩ := q
  exact v_tyL h q
theorem v_iLG {P : Addr → Prop} {a : Addr} (q : ∃ xs, H a = some (.lst xs) ∧ P a) : ∃ a', V.ref a = .ref a' ∧ (∃ xs, SqL K H a' xs) ∧ P a' := by
  obtain ⟨ys, h, q⟩ := q
  exact v_iL h q
theorem v_dgetG {P : V → Prop} {a : Addr} (q : ∃ v, DGet H a y (some v) ∧ P v) : ∃ a' v, V.ref a = .ref a' ∧ DGet H a' y (some v) ∧ P v := by
  obtain ⟨v, h, q⟩ := q
  exact v_dget h q
end
end Cw
set_option Elab.async false
set_option linter.all false
set_option maxRecDepth 100000
set_option maxHeartbeats 4000000
/-! calls with keywords and with defaults, by where each parameter comes from -/
namespace Cw
open PySem PySem.Spec L2
/-- a parameter's value: the i-th that is given, a default, a keyword's -/
inductive Src where
  | pos (i : Nat)
  | dfl (i : Nat)
  | kw (i : Nat)
def Src.up : Src → Src
  | .pos i => .pos (i + 1)
  | .dfl i => .dfl i
  | .kw i => .kw i
def getS {α : Type} (us its ws : List α) : Src → Option α
  | .pos i => us[i]?
  | .dfl i => its[i]?
  | .kw i => ws[i]?
def gS (ss : List Src) {α : Type} (us its ws : List α) : List α := ss.filterMap (getS us its ws)
theorem vals_get : ∀ {vs : List V} {us : List Value}, Vals vs us → ∀ i : Nat, (vs[i]? = none ∧ us[i]? = none) ∨ ∃ v u, vs[i]? = some v ∧ us[i]? = some u ∧ RelV v u
  | _, _, .nil, i => .inl ⟨rfl, rfl⟩
  | _, _, .cons r t, 0 => .inr ⟨_, _, rfl, rfl, r⟩
  | _, _, .cons r t, i + 1 => by
    have := vals_get t i
    simpa using this
theorem gS_rel {vs ds zs : List V} {us its ws : List Value} (r1 : Vals vs us) (r2 : Vals ds its) (r3 : Vals zs ws) : ∀ ss : List Src, Vals (gS ss vs ds zs) (gS ss us its ws)
  | [] => .nil
  | s :: ss => by
    have ih := gS_rel r1 r2 r3 ss
    have key : (getS vs ds zs s = none ∧ getS us its ws s = none) ∨ ∃ v u, getS vs ds zs s = some v ∧ getS us its ws s = some u ∧ RelV v u := by
      cases s with
      | pos i => exact vals_get r1 i
      | dfl i => exact vals_get r2 i
      | kw i => exact vals_get r3 i
    unfold gS at ih ⊢
    rcases key with ⟨a, b⟩ | ⟨v, u, a, b, r⟩
    · rw [List.filterMap_cons_none a, List.filterMap_cons_none b]
      exact ih
    · rw [List.filterMap_cons_some a, List.filterMap_cons_some b]
      exact .cons r ih
theorem gS_up {α : Type} {x : α} {vs ds zs : List α} : ∀ ss : List Src, gS (.pos 0 :: ss.map Src.up) (x :: vs) ds zs = x :: gS ss vs ds zs := by
  intro ss
  unfold gS
  rw [List.filterMap_cons_some (show getS (x :: vs) ds zs (.pos 0) = some x from rfl), List.filterMap_map]
  congr 1
  congr 1
  funext s
  cases s <;> rfl
/-- how a call binds its n values and its keywords ks -/
abbrev KB (K : PySem.W.Frag) (fd : FuncData) (ps : List Str) (n : Nat) (ks : List Str) (ss : List Src) (dvs : List V) : Prop := ∃ g, KBn K fd ps n ks g (fun vs zs => gS ss vs dvs zs)
section
variable {K : PySem.W.Frag} {x qual : Str} {params : Arguments} {body : List Stmt} {scope : Scope} {dvs : List V} {f : Addr} {fd : FuncData} {ps : List Str}
theorem FunD.kb (F : FunD K x qual params body scope dvs [] f fd) (n : Nat) (ks : List Str) (ss : List Src) (hd : dvs ≠ [])
    (h : ∀ (T : Addr) (kV doc pm : Value) (an : Option Addr) (cdv ct : Value) (us its ws : List Value), us.length = n → its.length = dvs.length → ws.length = ks.length →
      ∃ k, bindArgs (PySem.W.fnOf x qual params body scope (.ref T) kV doc pm an cdv ct) ⟨us, ks.zip ws⟩ = seqItems? (.ref T) >>= k ∧ k (some its.toArray) = pure (ps.zip (gS ss us its ws))) : KB K fd ps n ks ss dvs := by
  obtain ⟨its, b⟩ := F.kbindsD (ps := ps) n ks (fun {_} vs ds zs => gS ss vs ds zs) hd (fun r1 r2 r3 => gS_rel r1 r2 r3 ss) h
  exact ⟨_, b⟩
end
/-- C(..) by n values and the keywords ks -/
structure CDefN (P : Program) (w : World) (K : PySem.W.Frag) (mg : Str → Option Value) (base : Heap) (CX : CXT) (k : Nat) (x : Str) (C : Addr) (sp : Sp) (n : Nat) (ks : List Str) (ss : List Src) (dvs : List V) : Prop where
  ex : ∃ f fd ps sp0, mg x = some (.ref C) ∧ Mk K C f ∧ KB K fd ps (n + 1) ks (.pos 0 :: ss.map Src.up) dvs ∧ FnOk P w K mg base CX k f fd ps sp0 ∧ Conv C sp0 sp
/-- the reading of such a call -/
def tCN (sp : Sp) (n m : Nat) (ss : List Src) (dvs : List V) (E : XK) (t tk : TA) : TE := fun σ H Q => t σ H fun vs H1 => tk σ H1 fun zs H2 => vs.length = n ∧ zs.length = m ∧ sp (gS ss vs dvs zs) H2 Q E
section
variable {P : Program} {w : World} {K : PySem.W.Frag} {mg : Str → Option Value} {base : Heap} {CX : CXT} {k : Nat} {C : Addr} {x qual : Str} {sp : Sp} {st : Stmt} {dvs : List V} {n : Nat} {ks : List Str} {ss : List Src}
theorem CDefN.mono {j : Nat} (D : CDefN P w K mg base CX j x C sp n ks ss dvs) (h : j ≤ k) : CDefN P w K mg base CX k x C sp n ks ss dvs := by
  obtain ⟨f, fd, ps, sp0, a, b, c, d, e⟩ := D.ex
  exact ⟨f, fd, ps, sp0, a, b, c, d.mono h, e⟩
theorem CMk.kw {ps : List Str} (D : CMk P w K mg base CX k x C sp ps qual st dvs) (n : Nat) (ks : List Str) (ss : List Src) (hd : dvs ≠ [])
    (h : ∀ (T : Addr) (kV doc pm : Value) (an : Option Addr) (cdv ct : Value) (us its ws : List Value), us.length = n + 1 → its.length = dvs.length → ws.length = ks.length →
      ∃ k, bindArgs (PySem.W.fnOf "__init__" qual (defArgs st) (defBody st) (defScope st) (.ref T) kV doc pm an cdv ct) ⟨us, ks.zip ws⟩ = seqItems? (.ref T) >>= k ∧ k (some its.toArray) = pure (ps.zip (gS (.pos 0 :: ss.map Src.up) us its ws))) : CDefN P w K mg base CX k x C sp n ks ss dvs := by
  obtain ⟨f, fd, sp0, a, b, c, d, e, G⟩ := D.ex
  exact ⟨f, fd, ps, sp0, a, b, FunD.kb G (n + 1) ks _ hd h, d, e⟩
end
section
variable {X : Cx} {CX : CXT} {k n : Nat} {sp : Sp} {E : XK} {x : Str} {C : Addr} {p pos : PySem.Pos} {e : Expr} {es : List Expr} {kws : List Keyword} {t tk : TA} {ks : List Str} {ss : List Src} {dvs : List V}
theorem run_mkN {pins : List (Addr × Obj)} {σ : St} {H : Hp} {s : Shared} {Q : VK} {us ws : List Value} {vs zs : List V} {f : Addr} {fd : FuncData} {ps : List Str} {sp0 : Sp} {g : List Value → List Value → List Value} (M : Mk X.K C f) (F : FnOk X.prog X.w X.K X.mg X.base CX k f fd ps sp0) (cv : Conv C sp0 sp) (hr : Room (k + 1) X.A) (hb : KBn X.K fd ps (n + 1) ks g (fun vs zs => gS (.pos 0 :: ss.map Src.up) vs dvs zs))
    (hx : Passes CX X E) (I : Inv X pins σ H s) (r : Vals vs us) (rz : Vals zs ws) (l1 : vs.length = n) (l2 : zs.length = ks.length) (h : sp (gS ss vs dvs zs) H Q E) :
    wpAny (model X.prog X.w) X.A (call (.ref C) us (ks.zip ws)) (EP X pins σ Q) X.xe s := by
  refine run_makeN M F hr hb hx I r rz l1 l2 fun a da n1 n2 n3 => ?_
  rw [gS_up]
  exact cv _ H Q E h a da n1 n2 n3
theorem pe_mkN (D : CDefN X.prog X.w X.K X.mg X.base CX k x C sp n ks ss dvs) (hr : Room (k + 1) X.A) (hx : Passes CX X E) (ha : PA X (e :: es) t) (hkw : PK X kws tk) (hg : Gl X x := by rfl)
    (hall : (backToKw pos (keywordEach kws X.env)).all (·.1.isSome) = true := by rfl) (hks : (backToKw pos (keywordEach kws X.env)).filterMap (·.1) = ks := by rfl)
    (hdb : (x == ("__debug__" : Str)) = false := by decide) (he : starEach (e :: es) X.env = (false, eval e X.env) :: starEach es X.env := by rfl)
    (hpl : ((backTo pos (starEach (e :: es) X.env)).any (·.1) || (backToKw pos (keywordEach kws X.env)).any (·.1.isNone)) = false := by rfl) :
    PE X (.Call (.Name x p) (e :: es) kws pos) (tCN sp n ks.length ss dvs E t tk) := by
  obtain ⟨f, fd, ps, sp0, a, M, ⟨g, kb⟩, F, cv⟩ := D.ex
  refine ⟨fun pins s σ H Q I h => ?_⟩
  refine wpAny_Call_Name_kw (ld_glob I hg a ?_ hdb)
  refine PySem.W.callWith_KW (h₀ := X.base) I.ok.mod.kin M.kp hall (thn (ha.run pos pins s σ H _ I h) fun us s1 ⟨vs, H1, I1, r, q⟩ => ?_) hpl he
  refine thn (hkw.run pos pins s1 σ H1 _ I1 q) fun ws s2 ⟨zs, H2, I2, rz, l1, l2, q2⟩ => ⟨I2.kIn, ?_⟩
  rw [hks]
  exact run_mkN M F cv hr kb hx I2 r rz l1 l2 q2
end
/-! ### defs and methods by keywords -/
structure DefN (P : Program) (w : World) (K : PySem.W.Frag) (mg : Str → Option Value) (base : Heap) (CX : CXT) (k : Nat) (x : Str) (sp : Sp) (n : Nat) (ks : List Str) (ss : List Src) (dvs : List V) : Prop where
  ex : ∃ f fd ps, mg x = some (.ref f) ∧ PySem.W.keepIn K (.ref f) = true ∧ KB K fd ps n ks ss dvs ∧ FnOk P w K mg base CX k f fd ps sp
structure MDefN (P : Program) (w : World) (K : PySem.W.Frag) (mg : Str → Option Value) (base : Heap) (CX : CXT) (k : Nat) (C : Addr) (m : Str) (sp : Sp) (n : Nat) (ks : List Str) (ss : List Src) (dvs : List V) : Prop where
  ex : ∃ f fd ps, PySem.W.findIn K (.ref C) m = some (some (.ref f)) ∧ PySem.W.isFn K (.ref f) = true ∧ PySem.W.keepIn K (.ref f) = true ∧ KB K fd ps (n + 1) ks (.pos 0 :: ss.map Src.up) dvs ∧ FnOk P w K mg base CX k f fd ps sp
section
variable {P : Program} {w : World} {K : PySem.W.Frag} {mg : Str → Option Value} {base : Heap} {CX : CXT} {k : Nat} {C : Addr} {x m qual : Str} {sp : Sp} {st : Stmt} {dvs : List V} {n : Nat} {ks ps : List Str} {ss : List Src}
theorem DefN.mono {j : Nat} (D : DefN P w K mg base CX j x sp n ks ss dvs) (h : j ≤ k) : DefN P w K mg base CX k x sp n ks ss dvs := by
  obtain ⟨f, fd, ps, a, b, c, d⟩ := D.ex
  exact ⟨f, fd, ps, a, b, c, d.mono h⟩
theorem MDefN.mono {j : Nat} (D : MDefN P w K mg base CX j C m sp n ks ss dvs) (h : j ≤ k) : MDefN P w K mg base CX k C m sp n ks ss dvs := by
  obtain ⟨f, fd, ps, a, b, c, d, e⟩ := D.ex
  exact ⟨f, fd, ps, a, b, c, d, e.mono h⟩
theorem kb_of {fd : FuncData} (h : ∀ us ws : List Value, us.length = n → ws.length = ks.length → bindArgs fd ⟨us, ks.zip ws⟩ = pure (ps.zip (gS ss us [] ws))) : KB K fd ps n ks ss [] :=
  ⟨fun us ws => gS ss us [] ws, ⟨fun s us ws _ l1 l2 => .of_eq (h us ws l1 l2), fun r1 r2 => gS_rel r1 .nil r2 ss⟩⟩
theorem fd_eq {f : Addr} {fd fd' : FuncData} (h : ∃ oc od osl, K.lookup f = some ⟨oc, od, .func fd, osl⟩) (h' : ∃ oc od osl, K.lookup f = some ⟨oc, od, .func fd', osl⟩) : fd = fd' := by
  obtain ⟨_, _, _, h⟩ := h
  obtain ⟨_, _, _, h'⟩ := h'
  rw [h] at h'
  injection h' with h'
  injection h' with _ _ h' _
  injection h'
theorem Def.kw (D : Def P w K mg base CX k x ps sp) (F : FnAt K mg x st) (n : Nat) (ks : List Str) (ss : List Src)
    (h : ∀ (kV doc pm : Value) (an : Option Addr) (cdv ct : Value) (us ws : List Value), us.length = n → ws.length = ks.length → bindArgs (PySem.W.fnOf x x (defArgs st) (defBody st) (defScope st) .none kV doc pm an cdv ct) ⟨us, ks.zip ws⟩ = pure (ps.zip (gS ss us [] ws))) : DefN P w K mg base CX k x sp n ks ss [] := by
  obtain ⟨f, fd, a, b, c, d⟩ := D.ex
  obtain ⟨f', fd', a', G⟩ := F.ex
  rw [a] at a'
  injection a' with a'
  injection a' with a'
  subst a'
  have e := fd_eq c.lk (funLk G)
  subst e
  refine ⟨f, fd, ps, a, b, ?_, d⟩
  obtain ⟨oc, od, kV, doc, pm, an, cdv, ct, osl, rfl, _⟩ := G.ex
  exact kb_of (h kV doc pm an cdv ct)
theorem MDef.kw (D : MDef P w K mg base CX k C m ps sp) (F : MAt K C m qual st) (n : Nat) (ks : List Str) (ss : List Src)
    (h : ∀ (kV doc pm : Value) (an : Option Addr) (cdv ct : Value) (us ws : List Value), us.length = n + 1 → ws.length = ks.length → bindArgs (PySem.W.fnOf m qual (defArgs st) (defBody st) (defScope st) .none kV doc pm an cdv ct) ⟨us, ks.zip ws⟩ = pure (ps.zip (gS (.pos 0 :: ss.map Src.up) us [] ws))) : MDefN P w K mg base CX k C m sp n ks ss [] := by
  obtain ⟨f, fd, a, b, kp, c, d⟩ := D.ex
  obtain ⟨f', fd', a', b', G⟩ := F.ex
  rw [a] at a'
  injection a' with a'
  injection a' with a'
  injection a' with a'
  subst a'
  have e := fd_eq c.lk (funLk G)
  subst e
  refine ⟨f, fd, ps, a, b, kp, ?_, d⟩
  obtain ⟨oc, od, kV, doc, pm, an, cdv, ct, osl, rfl, _⟩ := G.ex
  exact kb_of (h kV doc pm an cdv ct)
end
section
variable {X : Cx} {CX : CXT} {k n : Nat} {sp : Sp} {E : XK} {x m : Str} {C : Addr} {p pos apos : PySem.Pos} {o e : Expr} {es : List Expr} {kws : List Keyword} {ta : TE} {t tk : TA} {ks : List Str} {ss : List Src} {dvs : List V}
theorem run_fN {pins : List (Addr × Obj)} {σ : St} {H : Hp} {s : Shared} {Q : VK} {us ws : List Value} {vs zs : List V} {f : Addr} {fd : FuncData} {ps : List Str} {g : List Value → List Value → List Value} {gV : List V → List V → List V} (F : FnOk X.prog X.w X.K X.mg X.base CX k f fd ps sp) (hr : Room k X.A) (hb : KBn X.K fd ps n ks g gV)
    (hx : Passes CX X E) (I : Inv X pins σ H s) (r : Vals vs us) (rz : Vals zs ws) (l1 : vs.length = n) (l2 : zs.length = ks.length) (h : sp (gV vs zs) H Q E) :
    wpAny (model X.prog X.w) X.A (call (.ref f) us (ks.zip ws)) (EP X pins σ Q) X.xe s := by
  have r2 := hb.rel r rz
  refine wpAny_call (codeAny_mono (F.run X.A X.stack s H ⟨us, ks.zip ws⟩ (g us ws) (gV vs zs) Q E hr I.env0 (hb.to s us ws I.kIn (r.length.symm.trans l1) (rz.length.symm.trans l2)) r2 h) fun r s' hq => ?_)
  cases r with
  | error e => exact hx pins σ H s e s' I hq
  | ok fl =>
    cases fl with
    | ret u => exact I.after hq
    | next => exact False.elim hq
    | brk => exact False.elim hq
    | cont => exact False.elim hq
theorem pe_fN0 (D : DefN X.prog X.w X.K X.mg X.base CX k x sp 0 ks ss dvs) (hr : Room k X.A) (hx : Passes CX X E) (hkw : PK X kws tk) (hg : Gl X x := by rfl)
    (hall : (backToKw pos (keywordEach kws X.env)).all (·.1.isSome) = true := by rfl) (hks : (backToKw pos (keywordEach kws X.env)).filterMap (·.1) = ks := by rfl)
    (hdb : (x == ("__debug__" : Str)) = false := by decide)
    (hpl : ((backTo pos (starEach [] X.env)).any (·.1) || (backToKw pos (keywordEach kws X.env)).any (·.1.isNone)) = false := by rfl) :
    PE X (.Call (.Name x p) [] kws pos) (tCN sp 0 ks.length ss dvs E tNil tk) := by
  obtain ⟨f, fd, ps, a, kp, ⟨g, kb⟩, F⟩ := D.ex
  refine ⟨fun pins s σ H Q I h => ?_⟩
  refine wpAny_Call_Name_kw (ld_glob I hg a ?_ hdb)
  refine PySem.W.callWith_KW0 (h₀ := X.base) I.ok.mod.kin kp hall ?_ hpl
  refine thn (hkw.run pos pins s σ H _ I h) fun ws s2 ⟨zs, H2, I2, rz, l1, l2, q2⟩ => ⟨I2.kIn, ?_⟩
  rw [hks]
  exact run_fN (us := []) (vs := []) F hr kb hx I2 .nil rz rfl l2 q2
/-- o.m(.., k = v) -/
def tMN (C : Addr) (m : Str) (sp : Sp) (n l : Nat) (ss : List Src) (dvs : List V) (E : XK) (ta : TE) (t tk : TA) : TE := fun σ H Q => ta σ H fun x H1 => ∃ a dx fs, x = .ref a ∧ H1 a = some (.ins C dx fs) ∧ fs.lookup m = none ∧ t σ H1 fun vs H2 => tk σ H2 fun zs H3 => vs.length = n ∧ zs.length = l ∧ sp (x :: gS ss vs dvs zs) H3 Q E
end
section
variable {X : Cx} {CX : CXT} {k : Nat} {C : Addr} {m : Str} {ps : List Str} {sp : Sp} {E : XK} {pos apos : PySem.Pos} {o : Expr} {ta : TE}
/-- dict(xs) of pairs -/
def rDictP (K : PySem.W.Frag) : List V → Hp → VK → Prop := fun xs H Q => ∃ (a : Addr) (ps : List Addr) (kvs : List (Key × V)), xs = [.ref a] ∧ SqL K H a (ps.map V.ref) ∧ Paired (fun p kv => SqT K H p [kV kv.1, kv.2]) ps kvs ∧ ∀ p, H p = none → Q (.ref p) (upd H p (.dK (mergeK [] kvs)))
theorem c_dictPK {K : PySem.W.Frag} (h : X.K = K) (hc : X.calm = true) : CallR X (.type "dict") (rDictP K) := h ▸ call_dictP hc
end
theorem merge_new : ∀ {more acc : List (Key × V)}, (∀ q ∈ more, valV acc q.1 = none) → more.Pairwise (fun a b => a.1 ≠ b.1) → mergeK acc more = acc ++ more
  | [], acc, _, _ => (List.append_nil acc).symm
  | q :: more, acc, h, p => by
    have p' := List.pairwise_cons.mp p
    show mergeK (putK acc q.1 q.2) more = _
    rw [putK_new q.2 (h q (List.mem_cons_self ..)), merge_new (fun r hr => ?_) p'.2, List.append_assoc]
    · rfl
    · have h1 := h r (List.mem_cons_of_mem _ hr)
      have h2 := p'.1 r hr
      clear h p p'
      induction acc with
      | nil =>
        show valV [q] r.1 = none
        obtain ⟨a, b⟩ := q
        rw [valV_neg h2]
        rfl
      | cons c acc ih =>
        obtain ⟨a, b⟩ := c
        by_cases e : a = r.1
        · rw [e, valV_pos rfl] at h1
          cases h1
        · rw [valV_neg e] at h1
          rw [List.cons_append, valV_neg e]
          exact ih h1
section
variable {σ : St} {H : Hp} {Q : VK}
theorem e_CN {sp : Sp} {n m : Nat} {ss : List Src} {dvs : List V} {E : XK} {t tk : TA} (q : t σ H fun vs H1 => tk σ H1 fun zs H2 => vs.length = n ∧ zs.length = m ∧ sp (gS ss vs dvs zs) H2 Q E) : tCN sp n m ss dvs E t tk σ H Q := q
end
end Cw
set_option Elab.async false
set_option linter.all false
set_option maxRecDepth 100000
set_option maxHeartbeats 4000000
/-! more operators of classes of one's own: o + text, o[text], o == text -/
namespace PySem.W
open PySem PySem.Calls PyProof.Rows Builtin
section
variable {prog : Program} {w : World} {A : Around} {E : Value → Shared → Prop} {s : Shared} {K : Frag} {x C L f : Addr} {h0 : Heap} {m : Str → Option Value} {ox : Obj} {od : Option Obj}
theorem binop_own {b : Value} {T : String} {Q : Value → Shared → Prop} (F : Fr h0 L s.heap m) (X0 : K.In h0) (I : InstAt s.heap x ox C od) (hb : Looks (model prog w) s.heap (typeOf b) (.type T)) (hno : fillsNumberSlot (.type T) "add" = pure false) (hc : selfFirst K C = true)
    (hs : findIn K (.ref C) (PySem.dunder "add") = some (some (.ref f))) (hf : isFn K (.ref f) = true)
    (h : wpAny (model prog w) A (call (.ref f) [.ref x, b]) (CmpBack Q) E s) : wpAny (model prog w) A (binaryOp .Add (.ref x) b) Q E s := by
  have X := X0.keeps F.keep
  obtain ⟨cd, hcd, hm⟩ := any_some hc
  obtain ⟨rest, hm⟩ : ∃ rest, cd.mro = .ref C :: rest := by
    cases q : cd.mro with
    | nil => rw [q] at hm; cases hm
    | cons a r => rw [q] at hm; exact ⟨r, by rw [List.head?_cons] at hm; cases (beq_iff_eq.mp hm); rfl⟩
  have ne : (Value.ref C == Value.type T) = false := rfl
  unfold binaryOp
  refine wpAny_holding (wpAny_bind ?_)
  unfold binaryOp1
  refine wpAny_bind (I.type.here (wpAny_bind (hb.here (wpAny_bind ((fills_K X hcd hm hs).here ?_)))))
  simp only [ne, Bool.false_eq_true, if_false]
  refine wpAny_bind ?_
  show wpAny (model prog w) A (fillsNumberSlot (.type T) "add") _ _ _
  rw [hno]
  refine wpAny_pure ?_
  simp only [Bool.and_false, Bool.false_eq_true, if_false, Bool.false_and]
  refine wpAny_bind (wpAny_pure ?_)
  simp only [Bool.false_eq_true, if_false, if_true]
  refine wpAny_bind (m := tryMethod (.ref x) _ b) ?_
  unfold tryMethod
  refine wpAny_bind (special_fn X I hs (beq_iff_eq.mp hf) (wpAny_mono h (fun v s' hv => ?_) fun _ _ e => e))
  cases v <;> first | exact hv.elim | exact wpAny_pure (wpAny_pure (wpAny_pure hv))
end
end PySem.W
namespace Cw
open PySem PySem.Spec L2
section
variable {X : Cx} {CX : CXT} {k : Nat} {C : Addr} {m : Str} {ps : List Str} {sp : Sp} {E : XK}
/-- o op text, by the class's own method -/
def rMS (C : Addr) (sp : Sp) (E : XK) : R2 := fun x y H Q => ∃ a dx fs z, x = .ref a ∧ y = .str z ∧ H a = some (.ins C dx fs) ∧ sp [.ref a, .str z] H Q E
theorem op_addM (D : MDef X.prog X.w X.K X.mg X.base CX k C "__add__" ps sp) (hc : PySem.W.selfFirst X.K C = true) (hr : Room k X.A) (hx : Passes CX X E) : OpR X (binaryOp .Add) (rMS C sp E) := by
  obtain ⟨f, fd, h1, h2, kp, ⟨hb, _⟩, F⟩ := D.ex
  intro pins s σ H x y v u Q I rx ry h
  obtain ⟨a, dx, fs, z, rfl, rfl, ha, hq⟩ := h
  cases rx
  obtain ⟨t, rfl⟩ := ry
  obtain ⟨mA, J, _⟩ := ins_get I.hok ha
  obtain ⟨od, J, _⟩ := J.look
  obtain ⟨mm, hF⟩ := I.fr
  refine PySem.W.binop_own (T := "str") hF I.ok.mod.kin J .now PyProof.Rows.noFill_str_add hc h1 h2 ?_
  have z := run_fn (us := [.ref a, .str z t]) (vs := [.ref a, .str z]) (dvs := []) F hr hb .nil hx I (.cons rfl (.cons ⟨t, rfl⟩ .nil)) hq
  refine wpAny_mono z (fun v s' q => ?_) fun _ _ q => q
  obtain ⟨y, H', I', r, q⟩ := q
  have k : EP X pins σ Q v s' := ⟨y, H', I', r, q⟩
  cases v <;> first | exact k | (exfalso; cases y <;> first | (obtain ⟨_, r⟩ := r; cases r) | cases r)
end
section
variable {σ : St} {H : Hp} {Q : VK} {K : PySem.W.Frag}
theorem v_MS {C : Addr} {sp : Sp} {E : XK} {a dx : Addr} {fs : List (Str × V)} {z : Str} (h : H a = some (.ins C dx fs)) (q : sp [.ref a, .str z] H Q E) : rMS C sp E (.ref a) (.str z) H Q := ⟨a, dx, fs, z, rfl, rfl, h, q⟩
end
end Cw
set_option Elab.async false
set_option linter.all false
set_option maxRecDepth 100000
set_option maxHeartbeats 4000000
/-! tables of vectors -/
namespace Cw
open PySem PySem.Spec L2
def marksKV (ls : List Nat) (A : Nat → Addr) : List (Key × V) := ls.map fun c => ((Sum.inr (tx [c]) : Key), V.ref (A c))
def vecV (ls : List Nat) (v : Nat → Int) : List V := ls.map fun x => V.int (v x)
structure MarksAt (H : Hp) (m : Addr) (ls : List Nat) (M : Nat → Nat → Int) : Prop where
  ex : ∃ A : Nat → Addr, H m = some (.dK (marksKV ls A)) ∧ ∀ c ∈ ls, H (A c) = some (.tup (vecV ls (M c)))
theorem MarksAt.same {H H' : Hp} {m : Addr} {ls : List Nat} {M : Nat → Nat → Int} (h : MarksAt H m ls M) (s : Same H H') : MarksAt H' m ls M := by
  obtain ⟨A, a, b⟩ := h.ex
  exact ⟨A, s _ _ a, fun c hc => s _ _ (b c hc)⟩
theorem MarksAt.congr {H : Hp} {m : Addr} {ls : List Nat} {M M' : Nat → Nat → Int} (h : MarksAt H m ls M) (e : ∀ c ∈ ls, ∀ x ∈ ls, M c x = M' c x) : MarksAt H m ls M' := by
  obtain ⟨A, a, b⟩ := h.ex
  refine ⟨A, a, fun c hc => ?_⟩
  rw [b c hc]
  congr 2
  exact List.map_congr_left fun x hx => by rw [e c hc x hx]
theorem marks_get {H : Hp} {d : Addr} {ls : List Nat} {A : Nat → Addr} {k : Nat} (h : H d = some (.dK (marksKV ls A))) (hk : k ∈ ls) : DGet H d (.str (tx [k])) (some (.ref (A k))) := dget_let (g := fun c => V.ref (A c)) h hk
theorem marks_getF {H : Hp} {d : Addr} {o : Obj} {ls : List Nat} {A : Nat → Addr} {k : Nat} (h : H d = some (.frz o (.dK (marksKV ls A)))) (hk : k ∈ ls) : DGet H d (.str (tx [k])) (some (.ref (A k))) :=
  .inl ⟨_, Sum.inr (tx [k]), .inr ⟨o, h⟩, rfl, (letV_some (g := fun c => V.ref (A c)) hk).symm⟩
theorem marks_new {H : Hp} {d p : Addr} {l : List Nat} {A : Nat → Addr} {k : Nat} (h : H d = some (.dK (marksKV l A))) (hk : ¬ k ∈ l) (hl : l.length < 1000000) : DPut H d (.str (tx [k])) (.ref p) (upd H d (.dK (marksKV (l ++ [k]) (fun c => if c = k then p else A c)))) := by
  have e := DPut.cross (l := [k]) (v := V.ref p) h (letV_none (g := fun c => V.ref (A c)) hk) (by unfold marksKV; rw [List.length_map]; exact hl)
  have e2 : marksKV (l ++ [k]) (fun c => if c = k then p else A c) = marksKV l A ++ [((Sum.inr (tx [k]) : Key), V.ref p)] := by
    unfold marksKV
    rw [List.map_append]
    congr 1
    · refine List.map_congr_left fun c hc => ?_
      show (_, V.ref (if c = k then p else A c)) = _
      rw [if_neg (fun z : c = k => hk (z ▸ hc))]
    · show [((Sum.inr (tx [k]) : Key), V.ref (if k = k then p else A k))] = _
      rw [if_pos rfl]
  rw [e2]
  exact e
theorem vecV_len (ls : List Nat) (v : Nat → Int) : (vecV ls v).length = ls.length := by unfold vecV; rw [List.length_map]
/-- the keys of a table by letters -/
theorem walk_let {d : Addr} {o : Obj} {ls : List Nat} {g : Nat → V} : Walk (Itk d o (ls.map fun c => ((Sum.inr (tx [c]) : Key), g c))) ls.length (fun H => H d = some (.frz o (.dK (ls.map fun c => ((Sum.inr (tx [c]) : Key), g c))))) (YFn fun k => .str (tx [ls.getD k 0])) := by
  have w := walk_keys (d := d) (o := o) (kvs := ls.map fun c => ((Sum.inr (tx [c]) : Key), g c))
  rw [List.length_map] at w
  refine w.mono (fun _ z => z) fun i H x H' hi _ y => ?_
  obtain ⟨rfl, kk, vv, hkv, rfl⟩ := y
  refine ⟨rfl, ?_⟩
  rw [List.getElem?_map, List.getElem?_eq_getElem hi] at hkv
  injection hkv with hkv
  injection hkv with a b
  show _ = V.str (tx [ls.getD i 0])
  rw [← a, List.getD_eq_getElem?_getD, List.getElem?_eq_getElem hi]
  rfl
section
variable {K : PySem.W.Frag} {a : Addr} {ls : List Nat} {f : Nat → V}
theorem yat_map {i : Nat} {H H' : Hp} {x : V} (hi : i < ls.length) (y : YAt (ls.map f) i H x H') : YFn (fun k => f (ls.getD k 0)) i H x H' := by
  obtain ⟨rfl, e⟩ := y
  refine ⟨rfl, ?_⟩
  rw [List.getElem?_map, List.getElem?_eq_getElem hi] at e
  injection e with e
  show _ = f (ls.getD i 0)
  rw [List.getD_eq_getElem?_getD, List.getElem?_eq_getElem hi]
  exact e.symm
theorem walk_listM : Walk (Itl K a) ls.length (fun H => SqL K H a (ls.map f)) (YFn fun k => f (ls.getD k 0)) := by
  have w := walk_list (K := K) (a := a) (xs := ls.map f)
  rw [List.length_map] at w
  exact w.mono (fun _ z => z) fun i H x H' hi _ y => yat_map hi y
theorem walk_tupM : Walk (Itt K a) ls.length (fun H => SqT K H a (ls.map f)) (YFn fun k => f (ls.getD k 0)) := by
  have w := walk_tup (K := K) (a := a) (xs := ls.map f)
  rw [List.length_map] at w
  exact w.mono (fun _ z => z) fun i H x H' hi _ y => yat_map hi y
end
section
variable {σ : St} {H : Hp} {Q : VK} {te : TE} {K : PySem.W.Frag}
theorem e_iT {R : It → Hp → Prop} (q : te σ H fun x H1 => ∃ a, x = .ref a ∧ (∃ xs, SqT K H1 a xs) ∧ R (Itt K a) H1) : iTup K te σ H R := q
theorem v_iT {P : Addr → Prop} {a : Addr} {xs : List V} (h : H a = some (.tup xs)) (q : P a) : ∃ a', V.ref a = .ref a' ∧ (∃ xs, SqT K H a' xs) ∧ P a' := ⟨a, rfl, ⟨xs, SqT.of h⟩, q⟩
theorem v_lenT {p : Addr} {ys : List V} (h : H p = some (.tup ys)) (q : Q (.int ys.length) H) : rLen K [.ref p] H Q := ⟨p, ys, rfl, .inr (SqT.of h), q⟩
theorem v_ixT {p : Addr} {xs : List V} {a : Int} {v : V} (h : H p = some (.tup xs)) (c : atI xs a = some v) (q : Q v H) : rIxT K (.ref p) (.int a) H Q := ⟨p, xs, a, v, rfl, rfl, SqT.of h, c, q⟩
theorem at_vec {ls : List Nat} {v : Nat → Int} {i : Nat} (h : i < ls.length) : atI (vecV ls v) ((i : Nat) : Int) = some (V.int (v (ls.getD i 0))) := by
  refine atI_nat ?_
  unfold vecV
  rw [List.getElem?_map, List.getElem?_eq_getElem h, List.getD_eq_getElem?_getD, List.getElem?_eq_getElem h]
  rfl
theorem vals_all {σ : St} {i : Nat} {tt : TT} {te : TE} {P : Addr → Hp → Prop} {J : It} {G : Hp → Prop} {ls : List Nat} {it f : Nat → V} (w : Walk J ls.length G (YFn fun k => it (ls.getD k 0))) (hG : ∀ H', Same H H' → G H') (hn : ls.length ≤ 1000000)
    (ht : ∀ c ∈ ls, ∀ H1, Same H H1 → ∀ R : Bool → Hp → Prop, (∀ H2, Same H1 H2 → R true H2) → tt ((wipe σ [i]).set i (some (it c))) H1 R)
    (he : ∀ c ∈ ls, ∀ H1, Same H H1 → ∀ R : VK, (∀ H2, Same H1 H2 → R (f c) H2) → te ((wipe σ [i]).set i (some (it c))) H1 R)
    (q : ∀ D H', H D = none → Same H H' → H' D = some (.lst (ls.map f)) → P D H') :
    ∀ D, H D = none → ∃ W : Nat → Nat → Hp → Prop, (∃ m, W 0 m (upd H D (.lst []))) ∧ ∀ k m H, W k m H →
      (J.stop k H ∧ P D H) ∨ (J.go k H ∧ ∃ Nx : Hp → Prop, (∀ H', Nx H' → ∃ m', m' < m ∧ W (k + 1) m' H') ∧ ∀ x H', J.yld k H x H' → (gName i) x (wipe σ [i]) H' fun s2 H2 => wipe s2 [i] = wipe σ [i] ∧ tt s2 H2 fun c H3 =>
        if c = true then te s2 H3 fun y H4 => ∃ acc, H4 D = some (.lst acc) ∧ acc.length < sizeLine ∧ Nx (upd H4 D (.lst (acc ++ [y]))) else Nx H3) := by
  refine lc_gen (b := fun _ => true) (f := fun k => f (ls.getD k 0)) w hG hn (fun k hk H1 s1 R r => ht _ (getD_mem hk) H1 s1 R r) (fun k hk c H1 s1 R r => he _ (getD_mem hk) H1 s1 R r) (fun D H' hD s' e => q D H' hD s' ?_)
  rw [e, range_map ls (fun _ => true) f, List.filter_eq_self.mpr (fun _ _ => rfl)]
theorem vals_some {σ : St} {i : Nat} {tt : TT} {te : TE} {P : Addr → Hp → Prop} {J : It} {G : Hp → Prop} {ls : List Nat} {it f : Nat → V} {b : Nat → Bool} (w : Walk J ls.length G (YFn fun k => it (ls.getD k 0))) (hG : ∀ H', Same H H' → G H') (hn : ls.length ≤ 1000000)
    (ht : ∀ c ∈ ls, ∀ H1, Same H H1 → ∀ R : Bool → Hp → Prop, (∀ H2, Same H1 H2 → R (b c) H2) → tt ((wipe σ [i]).set i (some (it c))) H1 R)
    (he : ∀ c ∈ ls, b c = true → ∀ H1, Same H H1 → ∀ R : VK, (∀ H2, Same H1 H2 → R (f c) H2) → te ((wipe σ [i]).set i (some (it c))) H1 R)
    (q : ∀ D H', H D = none → Same H H' → H' D = some (.lst ((ls.filter b).map f)) → P D H') :
    ∀ D, H D = none → ∃ W : Nat → Nat → Hp → Prop, (∃ m, W 0 m (upd H D (.lst []))) ∧ ∀ k m H, W k m H →
      (J.stop k H ∧ P D H) ∨ (J.go k H ∧ ∃ Nx : Hp → Prop, (∀ H', Nx H' → ∃ m', m' < m ∧ W (k + 1) m' H') ∧ ∀ x H', J.yld k H x H' → (gName i) x (wipe σ [i]) H' fun s2 H2 => wipe s2 [i] = wipe σ [i] ∧ tt s2 H2 fun c H3 =>
        if c = true then te s2 H3 fun y H4 => ∃ acc, H4 D = some (.lst acc) ∧ acc.length < sizeLine ∧ Nx (upd H4 D (.lst (acc ++ [y]))) else Nx H3) := by
  refine lc_gen (b := fun k => b (ls.getD k 0)) (f := fun k => f (ls.getD k 0)) w hG hn (fun k hk H1 s1 R r => ht _ (getD_mem hk) H1 s1 R r) (fun k hk c H1 s1 R r => he _ (getD_mem hk) c H1 s1 R r) (fun D H' hD s' e => q D H' hD s' ?_)
  rw [e, range_map ls b f]
end
theorem cr_minK {X : Cx} {K : PySem.W.Frag} (h : X.K = K) (hc : X.calm = true) : CallR X (.builtin "min") (rMin K) := h ▸ cr_min hc
/-- the scope of a comprehension: its own names, the names of the module and those of the def -/
def lcSc (loc glo fre : List String) : Scope := { kind := .function, names := (loc.map fun x => (Str.ofString x, NameKind.local)) ++ (glo.map fun x => (Str.ofString x, NameKind.globalImplicit)) ++ (fre.map fun x => (Str.ofString x, NameKind.cell)), isGenerator := false, isCoroutine := false }
end Cw
namespace Cw
open PySem PySem.Spec L2
/-- [.. for i in range(len(ls))] -/
theorem vals_rng {σ : St} {H : Hp} {i : Nat} {tt : TT} {te : TE} {P : Addr → Hp → Prop} {ls : List Nat} {f : Nat → V} (hn : ls.length ≤ 1000000)
    (ht : ∀ j, j < ls.length → ∀ H1, Same H H1 → ∀ R : Bool → Hp → Prop, (∀ H2, Same H1 H2 → R true H2) → tt ((wipe σ [i]).set i (some (.int (j : Nat)))) H1 R)
    (he : ∀ j, j < ls.length → ∀ H1, Same H H1 → ∀ R : VK, (∀ H2, Same H1 H2 → R (f (ls.getD j 0)) H2) → te ((wipe σ [i]).set i (some (.int (j : Nat)))) H1 R)
    (q : ∀ D H', H D = none → Same H H' → H' D = some (.lst (ls.map f)) → P D H') :
    ∀ D, H D = none → ∃ W : Nat → Nat → Hp → Prop, (∃ m, W 0 m (upd H D (.lst []))) ∧ ∀ k m H, W k m H →
      ((Itr 0 ((ls.length : Nat) : Int).toNat).stop k H ∧ P D H) ∨ ((Itr 0 ((ls.length : Nat) : Int).toNat).go k H ∧ ∃ Nx : Hp → Prop, (∀ H', Nx H' → ∃ m', m' < m ∧ W (k + 1) m' H') ∧ ∀ x H', (Itr 0 ((ls.length : Nat) : Int).toNat).yld k H x H' → (gName i) x (wipe σ [i]) H' fun s2 H2 => wipe s2 [i] = wipe σ [i] ∧ tt s2 H2 fun c H3 =>
        if c = true then te s2 H3 fun y H4 => ∃ acc, H4 D = some (.lst acc) ∧ acc.length < sizeLine ∧ Nx (upd H4 D (.lst (acc ++ [y]))) else Nx H3) := by
  rw [Int.toNat_natCast]
  refine lc_gen (b := fun _ => true) (f := fun k => f (ls.getD k 0)) (it := fun k => .int ((k : Nat) : Int)) (walk_rI (fun k => ((k : Nat) : Int)) (fun k => Int.zero_add _)) (fun _ _ => trivial) hn (fun k hk H1 s1 R r => ht k hk H1 s1 R r) (fun k hk c H1 s1 R r => he k hk H1 s1 R r) (fun D H' hD s' e => q D H' hD s' ?_)
  rw [e, range_map ls (fun _ => true) f, List.filter_eq_self.mpr (fun _ _ => rfl)]
end Cw
set_option Elab.async false
set_option linter.all false
set_option maxRecDepth 100000
set_option maxHeartbeats 4000000
/-! more words: >, upper, list + list, parts of texts, values that are no texts -/
namespace Cw
open PySem PySem.Spec L2
section
variable {X : Cx}
theorem op_cat1 : OpR X (binaryOp .Add) rCat := op_cat
end
section
variable {σ : St} {H : Hp} {Q : VK} {K : PySem.W.Frag}
theorem v_cat {l b : Addr} {xs zs : List V} (h1 : H l = some (.lst xs)) (h2 : H b = some (.lst zs)) (hl : xs.length + zs.length ≤ 1000000) (q : ∀ p H', H p = none → Same H H' → H' p = some (.lst (xs ++ zs)) → Q (.ref p) H') : rCat (.ref l) (.ref b) H Q :=
  ⟨l, b, xs, zs, rfl, rfl, h1, h2, szl hl, fun p hp => q p _ hp (Same.new hp) upd_same⟩
end
end Cw
set_option Elab.async false
set_option linter.all false
set_option maxRecDepth 100000
set_option maxHeartbeats 4000000
/-! classes without defaults; == with an object of another class -/
namespace Cw
open PySem PySem.Spec L2
section
variable {P : Program} {w : World} {K : PySem.W.Frag} {mg : Str → Option Value} {base : Heap} {CX : CXT} {k : Nat} {C : Addr} {x qual : Str} {ps N : List Str} {sp sp0 : Sp} {st : Stmt}
/-- C(..) by its __init__, which has no defaults -/
structure CMk0 (P : Program) (w : World) (K : PySem.W.Frag) (mg : Str → Option Value) (base : Heap) (CX : CXT) (k : Nat) (x : Str) (C : Addr) (sp : Sp) (ps : List Str) (qual : Str) (st : Stmt) : Prop where
  ex : ∃ f fd sp0, mg x = some (.ref C) ∧ Mk K C f ∧ Binds K fd ps [] ∧ FnOk P w K mg base CX k f fd ps sp0 ∧ Conv C sp0 sp ∧ Fun K "__init__" qual st f fd
theorem CMk0.cdef (D : CMk0 P w K mg base CX k x C sp ps qual st) : CDef P w K mg base CX k x C sp := by
  obtain ⟨f, fd, sp0, a, b, c, d, e, _⟩ := D.ex
  exact ⟨f, fd, ps, sp0, a, b, c, d, e⟩
theorem MAt.make0 (F : MAt K C "__init__" qual st) (cf : ClsF K mg x C) (S : FnScope N ps (defScope st))
    (hb : ∀ (kV doc pm : Value) (an : Option Addr) (cdv ct : Value) (us : List Value), us.length = ps.length → bindArgs (PySem.W.fnOf "__init__" qual (defArgs st) (defBody st) (defScope st) .none kV doc pm an cdv ct) ⟨us, []⟩ = pure (ps.zip us))
    (len : ∀ vs H Q E, sp0 vs H Q E → vs.length = ps.length) (cv : Conv C sp0 sp)
    (hbody : ∀ (f : Addr) (cdv : Value) (A : Around) (outer : List Env) (s : Shared) (H : Hp) (vs : List V) (Q : VK) (E : XK), Room k (A.deeper (PyProof.Rows.envOfC qual (defScope st) s.heap.objs.size f cdv)) → sp0 vs H Q E →
      ∃ t, PSs (cxOf CX0 P w K mg base N qual (defScope st) f cdv A outer s H E).nox (defBody st) t ∧ t { nx := fun _ H' => Q .non H', rt := Q } (start N vs) H) : CMk0 P w K mg base CX0 (k + 1) x C sp ps qual st := by
  obtain ⟨f, fd, h1, h2, F⟩ := F.ex
  exact ⟨f, fd, sp0, cf.at, ⟨cf.mks, h1, h2, cf.kp⟩, F.binds hb, F.ok S len fun cdv A outer s H vs Q E hr h => hbody f cdv A outer s H vs Q E hr h, cv, F⟩
theorem CMk0.kw (D : CMk0 P w K mg base CX k x C sp ps qual st) (n : Nat) (ks : List Str) (ss : List Src)
    (h : ∀ (kV doc pm : Value) (an : Option Addr) (cdv ct : Value) (us ws : List Value), us.length = n + 1 → ws.length = ks.length → bindArgs (PySem.W.fnOf "__init__" qual (defArgs st) (defBody st) (defScope st) .none kV doc pm an cdv ct) ⟨us, ks.zip ws⟩ = pure (ps.zip (gS (.pos 0 :: ss.map Src.up) us [] ws))) : CDefN P w K mg base CX k x C sp n ks ss [] := by
  obtain ⟨f, fd, sp0, a, b, c, d, e, G⟩ := D.ex
  refine ⟨f, fd, ps, sp0, a, b, ?_, d, e⟩
  obtain ⟨oc, od, kV, doc, pm, an, cdv, ct, osl, rfl, _⟩ := G.ex
  exact kb_of (h kV doc pm an cdv ct)
end
section
variable {X : Cx} {CX : CXT} {k : Nat} {C C' : Addr} {m : Str} {ps : List Str} {sp : Sp} {E : XK}
end
end Cw
set_option Elab.async false
set_option linter.all false
set_option maxRecDepth 100000
set_option maxHeartbeats 4000000
/-! ''.join(d): the keys of a dict, one behind another -/
namespace PySem
open Builtin Builtin.Str
theorem keyit_len : typeLookup (.type "dict_keyiterator") "__len__" = pure none := by rw [typeLookup_type, builtinLookup_eq_fast]; kernel_rfl
section
variable {prog : Program} {w : World} {A : Around} {E : Value → Shared → Prop} {s : Shared} {J : Addr} {fp wr : List Addr} {G : Array GenState → Array GenState → Prop} {m : Nat} {P : Nat → Value → Prop} {Z : Nat → Shared → Prop}
theorem collect_keyit {Q : List Value → Shared → Prop} (W : WalksS prog w A.in1 J fp wr G m P Z) (ty : ∀ i s, Z i s → s.TypeIs (.ref J) "dict_keyiterator") (z0 : Z 0 s) (lt : ∀ b ∈ fp, b < s.heap.objs.size) (mem : J ∈ fp) (sz : m ≤ sizeLine)
    (hQ : ∀ s' acc, Moved wr G s s' → ItemsOf P acc m → Q acc.toList s') : wpAny (model prog w) A (collect (.ref J)) Q E s := by
  have out : s.heap.objs.size ∉ fp := fun z => absurd (lt _ z) (Nat.lt_irrefl _)
  have ne : s.heap.objs.size ≠ J := fun z => out (z.symm ▸ mem)
  let L : Obj := { cls := .type "list", data := .seq ([] : List Value).toArray }
  have z1 := W.frame 0 s (s.heap.push L) s.toks z0 (Nat.le_refl _) fun _ _ _ e => Heap.get?_push_of_some _ e
  have at1 : (s.heap.push L).get? s.heap.objs.size = some L := Heap.get?_push_size _ rfl
  have t1 := ty 0 _ z1
  have d1 : Builtin.List.listSameRef (.ref s.heap.objs.size) (.ref J) = false := by simp [Builtin.List.listSameRef, ne]
  unfold collect
  apply wpAny_bind
  apply wpAny_runValue
  apply codeAny_builtin F.entry_proto_collect
  rw [show A.under (.builtin "proto.collect" ⟨[.ref J], []⟩) = A.in1 from Around.under_plainId F.plain_proto_collect _]
  show wpAny (model prog w) A.in1 (newList [] >>= fun l => again (.builtin "list.__iadd__" ⟨[l, Value.ref J], []⟩)) _ _ s
  refine wpAny_bind (wpAny_newObj_type (wpAny_pure ⟨plainId_quiet F.plain_list_iadd _, (?_ : codeAny _ _ _ _ _)⟩))
  apply codeAny_builtin F.entry_list_iadd
  rw [show A.under (.builtin "list.__iadd__" ⟨[.ref s.heap.objs.size, .ref J], []⟩) = A.in1 from Around.under_plainId F.plain_list_iadd _]
  show wpAny (model prog w) A.in1 (Builtin.List.listExtendWith (.ref s.heap.objs.size) (.ref J) (.ref s.heap.objs.size)) _ _ { s with heap := s.heap.push L }
  unfold Builtin.List.listExtendWith
  apply wpAny_bind
  refine wpAny_typeOf t1 ?_
  rw [if_neg (show ¬ _ by rw [d1]; decide)]
  apply wpAny_bind
  refine W.self 0 _ _ _ z1 ?_
  apply wpAny_bind
  apply wpAny_holding
  unfold Builtin.List.listLengthHint
  apply wpAny_bind
  refine wpAny_specialOf t1 keyit_len ?_
  show wpAny (model prog w) A.in1 (specialOf (Value.ref J) (Str.ofString "__length_hint__") >>= fun _ => _) _ _ _
  apply wpAny_bind
  refine wpAny_specialOf t1 F.slot_dict_keyiterator_length_hint.lookup ?_
  generalize hj : ("dict_keyiterator.__length_hint__" : String) = jd
  wp_delta
  rw [show splitId jd = some ("dict_keyiterator", "__length_hint__") by subst hj; decide +kernel]
  subst hj
  apply wpAny_bind
  refine wpAny_isInstance (b := true) t1 (by rw [isSubtype_type]; kernel_rfl) ?_
  apply wpAny_pure
  rw [if_neg (by decide)]
  apply wpAny_pure
  refine ⟨plainId_quiet F.plain_extend_loop _, codeAny_extend_loopS W sz _ out _ m 0 _ _ _ rfl (Nat.zero_le _) z1 at1 (ItemsOf.nil P) fun s2 acc c mv at2 items => ?_⟩
  apply wpAny_bind
  refine wpAny_load at2 ?_
  apply wpAny_pure
  exact hQ s2 acc (Moved.drop_new (o := L) (tk := s.toks) mv (Nat.le_refl _)) items
end
section
variable {prog : Program} {w : World} {A : Around} {E : Value → Shared → Prop} {s : Shared} {sep : Str} {t : Tok} {Q : Value → Shared → Prop}
theorem join_keys {K : Type} [DecidableEq K] {knd : KeyKind prog w K} {d : Addr} {kvs : List (K × Value)} {ep : Nat} (nf : A.handled = none) (lo : (d == sysModules) = false) (hm : s.heap.DictAt knd d kvs ep) (sz : kvs.length ≤ sizeLine)
    (str : ∀ (i : Nat) (k : K) (x v : Value), kvs[i]? = some (k, x) → knd.is k v = true → ∃ y u, v = Value.str y u)
    (hq : ∀ h' (l : List (Str × Tok)), (∀ b o, s.heap.get? b = some o → h'.get? b = some o) → ItemsOf (fun (i : Nat) v => ∃ k x, kvs[i]? = some (k, x) ∧ knd.is k v = true) (strValues l).toArray kvs.length → JoinOk sep (l.map (·.1)) = true ∧ ∀ t' k, Q (.str (Txt.join sep (l.map (·.1))) t') { s with heap := h', toks := k }) :
    wpAny (model prog w) A (call (.builtin "str.join") [.str sep t, .ref d]) Q E s := by
  apply wpAny_call
  refine codeAny_call_builtin F.slot_str_join.plain F.entry_str_join (F.slot_str_join.check _ _ _ _ _ _ _ _ (typeIs_str _ _ _) (F.args_str_join_2 _ _) ?_)
  rw [join_tree_other]
  apply wpAny_bind
  refine wpAny_typeOf hm.dictOf.typeIs ?_
  show wpAny (model prog w) A.in1 ((pyIter (.ref d)).tryCatch _ >>= fun it => collect it >>= fun xs => joinTail sep xs) _ _ s
  apply wpAny_bind
  apply wpAny_tryCatch
  refine wpAny_pyIter_dict lo hm ?_
  have ne : d ≠ s.heap.objs.size := Nat.ne_of_lt hm.lt_size
  have W := (Walks.dictKeys (knd := knd) (A := A.in1.in1) nf s.heap.objs.size d ne kvs ep).toS
  apply wpAny_bind
  refine collect_keyit W (fun _ _ st => st.1.typeIs) ⟨⟨_, Heap.get?_push_size _ rfl, rfl, rfl⟩, hm.push _⟩ (fun b hb => ?_) (by simp) sz fun s2 acc mv items => ?_
  · rcases List.mem_cons.mp hb with rfl | hb
    · exact Heap.lt_size (Heap.get?_push_size _ rfl)
    · rw [List.mem_singleton.mp hb]
      exact (hm.push _).lt_size
  obtain ⟨l, hl⟩ := exists_strValues acc.toList fun v hv => by
    obtain ⟨j, hj, rfl⟩ := Array.mem_iff_getElem.mp (Array.mem_toList_iff.mp hv)
    obtain ⟨k, x, e1, e2⟩ := items.2 j _ (Array.getElem?_eq_getElem hj)
    exact str j k x _ e1 e2
  have items : ItemsOf (fun (i : Nat) v => ∃ k x, kvs[i]? = some (k, x) ∧ knd.is k v = true) (strValues l).toArray kvs.length := by
    rw [hl]
    simpa using items
  rw [← hl]
  have same : ∀ k, ({ s2 with toks := k } : Shared) = { s with heap := s2.heap, toks := k } := by
    intro k
    obtain ⟨g1, g2, g3⟩ : s2.gens = s.gens ∧ s2.drawn = s.drawn ∧ s2.os = s.os := ⟨mv.gens, mv.drawn, mv.os⟩
    obtain ⟨hp, g, d, tk, os⟩ := s2
    obtain ⟨hp0, g0, d0, tk0, os0⟩ := s
    simp only at g1 g2 g3
    subst g1; subst g2; subst g3
    rfl
  obtain ⟨jk, post⟩ := hq s2.heap l (fun b o e => mv.heap b o (fun z => absurd (Heap.lt_size e) (by rw [List.mem_singleton.mp z]; exact Nat.lt_irrefl _)) (Heap.get?_push_of_some _ e)) items
  have jk' := jk
  unfold JoinOk at jk'
  rw [Bool.not_eq_true'] at jk'
  have g1 : Gives (joinTail sep (strValues l)) (joinMade sep l) := by
    clear post items hl
    have z := gives_joinTail sep l jk'
    rcases l with _ | ⟨a, _ | ⟨b, r⟩⟩
    · exact z
    · exact z
    · exact z
  exact g1 prog w A (wants Q E) s2 (post_join l ⟨joinFit_length jk', fun t' k => by rw [same k]; exact post t' k⟩)
end
end PySem

namespace Cw
open PySem PySem.Spec L2 PyProof.Rows
section
variable {X : Cx} {K : PySem.W.Frag}
/-- the letters that are the keys of a dict -/
def rJoinD : V → List V → Hp → VK → Prop := fun x xs H Q => ∃ (p : Addr) (ls : List Nat) (g : Nat → V), x = .str (tx []) ∧ xs = [.ref p] ∧ H p = some (.dK (ls.map fun c => ((Sum.inr (tx [c]) : Key), g c))) ∧ ls.length ≤ 1000 ∧ Q (.str (tx ls)) H
theorem mt_joinD (hc : X.calm = true) : MtR X "str.join" rJoinD := by
  intro pins s σ H x xs v us Q I rx rs h
  obtain ⟨p, ls, g, rfl, rfl, hp, hl, h⟩ := h
  obtain ⟨t, rfl⟩ := rx
  cases rs with
  | cons r1 rs =>
    cases rs
    cases r1
    obtain ⟨z, lo, vs, rk, hd⟩ := (show ObjOk X.prog X.w H s.heap p (.dK _) from I.hok p _ hp)
    obtain ⟨ep, hat⟩ := hd.dictAt
    have len : vs.length = ls.length := by
      have := Paired.length rk
      rw [List.length_map] at this
      exact this.symm
    have key : ∀ (i : Nat) (k : Key) (y : Value), vs[i]? = some (k, y) → ∃ c, ls[i]? = some c ∧ k = Sum.inr (tx [c]) := by
      intro i k y e
      have e1 := KV.keys rk
      have e2 : (vs.map (·.1))[i]? = some k := by rw [List.getElem?_map, e]; rfl
      rw [← e1, List.map_map, List.getElem?_map] at e2
      cases hc : ls[i]? with
      | none => rw [hc] at e2; cases e2
      | some c =>
        rw [hc] at e2
        injection e2 with e2
        exact ⟨c, rfl, e2.symm⟩
    refine join_keys (knd := mixKind X.prog X.w) (I.ok.hd hc) lo hat (by rw [len]; exact szl (by omega)) (fun i k y u e1 e2 => ?_) (fun h' l hk items => ?_)
    · obtain ⟨c, _, rfl⟩ := key i k y e1
      have e2 : keyIs (Sum.inr (tx [c])) u = true := e2
      rcases keyIs_shape e2 with ⟨j, t, e, _⟩ | ⟨x, t, _, e⟩
      · cases e
      · exact ⟨x, t, e⟩
    · have l1 : l.length = ls.length := by
        have := items.1
        rw [len] at this
        simpa [strValues] using this
      have e : l.map (·.1) = (ls.map fun c => [c]).map tx := by
        apply List.ext_getElem?
        intro j
        rw [List.map_map, List.getElem?_map, List.getElem?_map]
        cases hj : l[j]? with
        | none =>
          have := List.getElem?_eq_none_iff.mp hj
          rw [List.getElem?_eq_none (by omega)]
          rfl
        | some q =>
          obtain ⟨k, y, e1, e2⟩ := items.2 j (.str q.1 q.2) (by simp [strValues, hj])
          obtain ⟨c, hc, rfl⟩ := key j k y e1
          rw [hc]
          have e2 : keyIs (Sum.inr (tx [c])) (.str q.1 q.2) = true := e2
          rcases keyIs_shape e2 with ⟨_, _, e, _⟩ | ⟨x, t, ex, e⟩
          · cases e
          · injection ex with ex
            injection e with e _
            show some q.1 = some (tx [c])
            rw [e, ← ex]
      have fl : (ls.map fun c => [c]).flatten = ls := by
        clear e l1 items key len hd lo z hp h hl rk
        induction ls with
        | nil => rfl
        | cons c r ih => rw [List.map_cons, List.flatten_cons, ih]; rfl
      rw [e, join_empty, fl]
      refine ⟨?_, fun t' k => ⟨.str (tx ls), H, I.kept hk, ⟨t', rfl⟩, h⟩⟩
      refine joinOk_of ?_
      rw [List.map_map, List.map_map]
      have s1 : (ls.map (Str.length ∘ tx ∘ fun c => [c])).sum = ls.length := by
        clear e l1 items key len hd lo z hp h hl rk fl
        induction ls with
        | nil => rfl
        | cons c r ih =>
          rw [List.map_cons, List.sum_cons, ih, List.length_cons]
          show (tx [c]).length + r.length = _
          rw [tx_len, List.length_singleton]
          omega
      have s2 : (tx []).length = 0 := by rw [tx_len]; rfl
      rw [s2, Nat.mul_zero, Nat.add_zero]
      exact Nat.le_trans (Nat.le_of_eq s1) (by omega)
theorem pe_joinD {o e : Expr} {to te : TE} {apos pos : PySem.Pos} (hc : X.calm = true) (ho : PE X o to) (he : PE X e te) (hs : starEach [e] X.env = [(false, eval e X.env)] := by rfl) (hbase : attributeBase o "join" X.env (eval o X.env) = eval o X.env := by rfl) (hline : (apos.endLine == pos.line) = true := by rfl) :
    PE X (.Call (.Attribute o "join" apos) [e] [] pos) (tM1 rJoinD to te) := pe_m1 PySem.F.slot_str_join PySem.F.type_str_join (mt_joinD hc) ho he hs hbase hline
theorem v_joinD {H : Hp} {Q : VK} {p : Addr} {ls : List Nat} {g : Nat → V} (h : H p = some (.dK (ls.map fun c => ((Sum.inr (tx [c]) : Key), g c)))) (l : ls.length ≤ 1000) (q : Q (.str (tx ls)) H) : rJoinD (.str (tx [])) [.ref p] H Q := ⟨p, ls, g, rfl, rfl, h, l, q⟩
end
/-- a, b, .. = a list -/
theorem pg_lstK {X : Cx} {K : PySem.W.Frag} {es : List Expr} {k : Nat} {t : TGs} {n : Nat} {pos : PySem.Pos} (h : X.K = K) (hc : X.calm = true) (g : PGs X es t) (hn : (assignEach es X.env).length = n := by rfl) (hst : (assignEach es X.env).findIdx? (·.1) = none := by rfl) : PG X (.Tuple es k pos) (gLst K n t) := h ▸ pg_lst hc g hn hst
/-- [e for x in ..]: e makes new objects; Rel tells of each item what it is -/
theorem lc_mapA {σ : L2.St} {H : Hp} {i : Nat} {tt : TT} {te : TE} {P : Addr → Hp → Prop} {J : It} {n : Nat} {G : Hp → Prop} {it : Nat → V} (Rel : Nat → V → Hp → Prop) (w : Walk J n G (fun k H x H' => H' = H ∧ x = it k)) (hG : ∀ H', Same H H' → G H') (hn : n ≤ 1000000)
    (m1 : ∀ k v H1 H2, Rel k v H1 → Same H1 H2 → Rel k v H2) (m2 : ∀ k v H1 H2 D l, Rel k v H1 → H1 D = some (.lst l) → Keep D H1 H2 → Rel k v H2)
    (ht : ∀ k, k < n → ∀ H1, Same H H1 → ∀ R : Bool → Hp → Prop, (∀ H2, Same H1 H2 → R true H2) → tt ((wipe σ [i]).set i (some (it k))) H1 R)
    (he : ∀ k, k < n → ∀ H1, Same H H1 → ∀ R : VK, (∀ v H2, Same H1 H2 → Rel k v H2 → R v H2) → te ((wipe σ [i]).set i (some (it k))) H1 R)
    (q : ∀ D H' vs, H D = none → Same H H' → H' D = some (.lst vs) → vs.length = n → (∀ k v, vs[k]? = some v → Rel k v H') → P D H') :
    ∀ D, H D = none → ∃ W : Nat → Nat → Hp → Prop, (∃ m, W 0 m (upd H D (.lst []))) ∧ ∀ k m H, W k m H →
      (J.stop k H ∧ P D H) ∨ (J.go k H ∧ ∃ Nx : Hp → Prop, (∀ H', Nx H' → ∃ m', m' < m ∧ W (k + 1) m' H') ∧ ∀ x H', J.yld k H x H' → (gName i) x (wipe σ [i]) H' fun s2 H2 => wipe s2 [i] = wipe σ [i] ∧ tt s2 H2 fun c H3 =>
        if c = true then te s2 H3 fun y H4 => ∃ acc, H4 D = some (.lst acc) ∧ acc.length < sizeLine ∧ Nx (upd H4 D (.lst (acc ++ [y]))) else Nx H3) := by
  intro D hD
  refine lc_it w (vs := [i]) (σ := σ) (g := gName i) (tt := tt) (te := te) (Qd := fun H' => P D H') (fun k H' => Same H H' ∧ ∃ vs, H' D = some (.lst vs) ∧ vs.length = k ∧ ∀ j v, vs[j]? = some v → Rel j v H')
    ⟨Same.new hD, [], upd_same, rfl, fun j v z => by simp at z⟩ (fun k H' _ p => hG H' p.1) (fun k x H1 H2 hk p y => ?_) (fun H' p => ?_)
  · obtain ⟨p1, vs, p2, p3, p4⟩ := p
    obtain ⟨rfl, rfl⟩ := y
    refine ⟨wipe1, ht k hk _ p1 _ fun H3 s3 => ?_⟩
    rw [if_pos rfl]
    refine he k hk _ (p1.trans s3) _ fun v H4 s4 r4 => ?_
    have e4 := s4 _ _ (s3 _ _ p2)
    refine ⟨vs, e4, szlt (by omega), fun a o ha => ?_, vs ++ [v], upd_same, by rw [List.length_append, p3]; rfl, fun j u hj => ?_⟩
    · rw [upd_ne (ne_of_none ha hD)]
      exact s4 _ _ (s3 _ _ (p1 _ _ ha))
    · by_cases c : j < vs.length
      · rw [List.getElem?_append_left c] at hj
        exact m2 _ _ _ _ D vs (m1 _ _ _ _ (p4 j u hj) (s3.trans s4)) e4 Keep.put
      · have e : j = vs.length := by
          have := (List.getElem?_eq_some_iff.mp hj).1
          rw [List.length_append, List.length_singleton] at this
          omega
        rw [e, List.getElem?_append_right (Nat.le_refl _), Nat.sub_self] at hj
        injection hj with hj
        rw [e, ← hj, p3]
        exact m2 _ _ _ _ D vs r4 e4 Keep.put
  · obtain ⟨p1, vs, p2, p3, p4⟩ := p
    exact q D H' vs hD p1 p2 p3 p4
section
variable {σ : L2.St} {H : Hp} {Q : VK} {te ta : TE} {D : Ends} {K : PySem.W.Frag} {n : Nat} {t : TGs}
theorem s_asgL (q : te σ H fun v H1 => gLst K n t v σ H1 fun σ2 H2 => D.nx σ2 H2) : tAsg te (gLst K n t) D σ H := q
theorem e_MN {C : Addr} {m : Str} {sp : Sp} {n l : Nat} {ss : List Src} {dvs : List V} {E : XK} {t tk : TA} (q : ta σ H fun x H1 => ∃ a dx fs, x = .ref a ∧ H1 a = some (.ins C dx fs) ∧ fs.lookup m = none ∧ t σ H1 fun vs H2 => tk σ H2 fun zs H3 => vs.length = n ∧ zs.length = l ∧ sp (x :: gS ss vs dvs zs) H3 Q E) : tMN C m sp n l ss dvs E ta t tk σ H Q := q
end
end Cw
set_option Elab.async false
set_option linter.all false
set_option maxRecDepth 100000
set_option maxHeartbeats 4000000
/-! sorted of texts, any number of them -/
namespace Cw
open PySem PySem.Spec L2 PyProof.Rows SrtO
/-- the codes of a text -/
def sv : Value → List Nat
  | .str x _ => x.cps.toList
  | _ => []
def ltSv (v u : Value) : Bool := decide (sv v < sv u)
theorem swo_str : Swo ltSv := by
  refine ⟨fun x y h => ?_, fun x y z h1 h2 => ?_⟩
  · have a := of_decide_eq_true (p := sv x < sv y) h
    exact decide_eq_false (p := sv y < sv x) (List.lt_asymm a)
  · have a := of_decide_eq_false (p := sv y < sv x) h1
    have b := of_decide_eq_false (p := sv z < sv y) h2
    exact decide_eq_false (p := sv z < sv x) fun c => by
      by_cases d : sv z < sv y
      · exact b d
      · exact a (List.lt_of_le_of_lt (List.not_lt.mp d) c)
section
variable {prog : Program} {w : World} {A : Around} {s : Shared}
theorem str_sortable {a : Addr} {vs : List Value} {ss : List Str} (hS : StrsAre vs ss) (h2 : 2 ≤ vs.length) : SortableO prog w A s a vs ltSv := by
  intro h' _
  refine ⟨oneType', fun Q E hq => ?_, fun p q hm hm' => ?_⟩
  · match vs, hS, h2 with
    | v1 :: v2 :: rest, hS, _ =>
      rw [keyKind_strs hS]
      exact wpAny_pure hq
    | [], _, h => exact absurd h (by decide)
    | [v], _, h => exact absurd h (by simp)
  · obtain ⟨x, t, e⟩ := hS.all _ hm
    obtain ⟨y, u, e'⟩ := hS.all _ hm'
    show wpAny (model prog w) A (keyLt' oneType' p.1 q.1) (fun r s' => s' = { s with heap := h' } ∧ r = ltSv p.1 q.1) (fun _ _ => False) { s with heap := h' }
    rw [e, e', keyLt'_oneType]
    exact oneLt_str ⟨rfl, rfl⟩
end
theorem sv_str {vs : List Value} {ls : List (List Nat)} (h : StrsAre vs (ls.map tx)) : vs.map sv = ls := by
  have key : ∀ {vs : List Value} {ss : List Str}, StrsAre vs ss → vs.map sv = ss.map fun x => x.cps.toList := by
    intro vs ss h
    induction h with
    | nil => rfl
    | cons x t r ih => rw [List.map_cons, List.map_cons, ih]; rfl
  rw [key h, List.map_map]
  have : ((fun x : Str => x.cps.toList) ∘ tx) = id := funext fun l => rfl
  rw [this, List.map_id]
theorem str_sv {vs : List Value} (h : ∀ v ∈ vs, ∃ x t, v = Value.str x t) : StrsAre vs ((vs.map sv).map tx) := by
  have e : (vs.map sv).map tx = vs.map strOf := by
    rw [List.map_map]
    refine List.map_congr_left fun v hv => ?_
    obtain ⟨x, t, rfl⟩ := h v hv
    show tx x.cps.toList = x
    exact tx_eq.symm
  rw [e]
  exact strsAre_map vs h
/-- sorted(xs), texts, any number of them -/
def rSortedS (K : PySem.W.Frag) : List V → Hp → VK → Prop := fun vs H Q => ∃ (a : Addr) (ls : List (List Nat)), vs = [V.ref a] ∧ SqL K H a (ls.map fun l => V.str (tx l)) ∧
  ∀ (ls' : List (List Nat)) (p : Addr), ls'.Perm ls → ls'.Pairwise (fun a b => ¬ b < a) → H p = none → Q (.ref p) (upd H p (.lst (ls'.map fun l => V.str (tx l))))
theorem map_tx (ls : List (List Nat)) : (ls.map fun l => V.str (tx l)) = (ls.map tx).map V.str := by rw [List.map_map]; rfl
section
variable {X : Cx}
theorem cr_sortedT : CallR X (.builtin "sorted") (rSortedS X.K) := by
  intro pins s σ H vs us Q I r h
  obtain ⟨a, ls, rfl, hs, q⟩ := h
  rw [map_tx] at hs
  obtain ⟨its, rv, hl, hz⟩ := I.list hs
  rw [Vals.ref1 r]
  have hi := rv.strs
  refine sorted_ord swo_str hl.isList (by rw [← rv.length]; exact hz) (fun h2 h₁ a' _ _ => str_sortable hi h2) fun out h1 h2 => ?_
  have all := fun v hv => hi.all v (h2.perm.mem_iff.mp hv)
  have k1 : StrsAre out ((out.map sv).map tx) := str_sv all
  have k2 : (out.map sv).Perm ls := by
    have := h2.perm.map sv
    rw [sv_str hi] at this
    exact this
  have k3 : (out.map sv).Pairwise (fun a b => ¬ b < a) := List.pairwise_map.mpr (h1.imp fun {x y} h => of_decide_eq_false (p := sv y < sv x) h)
  obtain ⟨ep, he'⟩ := sortedAll_at s.heap its out.toArray
  have hlen : (((out.map sv).map tx).map V.str).length ≤ sizeLine := by
    rw [List.length_map, List.length_map, k2.length_eq]
    rw [List.length_map, List.length_map] at hz
    exact hz
  have q := q _ (s.heap.objs.size + 1) k2 k3 (I.hok.fresh (Nat.le_succ _))
  rw [map_tx] at q
  exact ⟨.ref _, upd H (s.heap.objs.size + 1) (.lst (((out.map sv).map tx).map V.str)), I.laid (t' := s.toks) (fun _ _ => sortedAll_old) (Nat.le_succ _) ⟨hlen, out, ep, vals_of_strs k1, he'⟩, rfl, q⟩
end
end Cw
set_option Elab.async false
set_option linter.all false
set_option maxRecDepth 100000
set_option maxHeartbeats 4000000
/-! sorted(xs, key=len) of texts, any number of them: stable -/
namespace Cw
open PySem PySem.Spec PyProof.Rows Srt SrtO
def ltLen (v u : Value) : Bool := decide ((sv v).length < (sv u).length)
section
variable {prog : Program} {w : World} {A : Around} {E : Value → Shared → Prop} {s : Shared} {a kS : Addr} {vs : List Value} {keys : Array Value} {e e1 : Nat} {R : PySem.Fin → Shared → Prop}
/-- the end of a sort by keys: the keys go, the items are laid -/
theorem len_tail {st : SortSt} (hk : s.heap.get? kS = some (seqObj "list" keys e)) (ha : s.heap.get? a = some (seqObj "list" #[] e1)) (ne : kS ≠ a) (zk : keys.size ≤ sizeLine) (zs : (arrOf st).size ≤ sizeLine) (hf : failedOf st = none)
    (q : ∀ h', (∀ b o, b ≠ a → b ≠ kS → s.heap.get? b = some o → h'.get? b = some o) → (∃ c, h'.get? a = some (seqObj "list" ((arrOf st).map (·.2)) c)) → R (.done (.ret .none)) { s with heap := h' }) :
    wpAny (model prog w) A (ksk_tail a false e1 (.ref kS) st) R E s := by
  have b1 := Heap.SameBut.update s.heap kS (Obj.mapSeq fun _ => (#[] : Array Value))
  have a1 := (b1.2 a ne.symm).trans ha
  have b2 := Heap.SameBut.update (s.heap.update kS (Obj.mapSeq fun _ => (#[] : Array Value))) a (Obj.mapSeq fun _ => (arrOf st).map (·.2))
  have a2 := get?_update_seq a1 fun _ => (arrOf st).map (·.2)
  unfold ksk_tail
  dsimp only
  refine wpAny_bind (listUpdate_at hk rfl ?_ zk (Nat.zero_le _))
  refine wpAny_bind (wpAny_letGo ?_)
  refine wpAny_bind (seqEpoch_at a1 rfl ?_)
  refine wpAny_bind (listUpdate_at a1 rfl ?_ (Nat.zero_le _) (by
    show ((arrOf st).map (·.2)).size ≤ sizeLine + 1
    rw [Array.size_map]
    omega))
  rw [hf]
  simp only [bne_self_eq_false, Bool.false_eq_true, if_false]
  exact wpAny_pure (q _ (fun b o n1 n2 z => (b2.2 b n1).trans ((b1.2 b n2).trans z)) ⟨_, a2⟩)
theorem zip_keys (ks : Array Value) (xs : List Value) : (ks.zip xs.toArray).toList = ks.toList.zip xs := by simp
/-- what the pairs of lengths and texts come to -/
theorem len_out {xs ks : List Value} (hS : ∀ v ∈ xs, ∃ x t, v = Value.str x t) (hk : ks.map iv = xs.map fun v => ((sv v).length : Int)) {l : List Keyed} (h1 : Srtd (lt2 ltIv) l) (h2 : Stb (lt2 ltIv) l (ks.zip xs)) : Srtd ltLen (l.map (·.2)) ∧ Stb ltLen (l.map (·.2)) xs := by
  have hl : ks.length = xs.length := by
    have := congrArg List.length hk
    rw [List.length_map, List.length_map] at this
    exact this
  have pair : ∀ p ∈ ks.zip xs, iv p.1 = ((sv p.2).length : Int) := by
    intro p hp
    obtain ⟨i, hi, rfl⟩ := List.mem_iff_getElem.mp hp
    rw [List.length_zip] at hi
    have := congrArg (·[i]?) hk
    simp only [List.getElem?_map] at this
    rw [List.getElem?_eq_getElem (by omega), List.getElem?_eq_getElem (by omega)] at this
    rw [List.getElem_zip]
    injection this
  have pl : ∀ p ∈ l, iv p.1 = ((sv p.2).length : Int) := fun p hp => pair p (h2.perm.mem_iff.mp hp)
  have lt_eq : ∀ p q : Keyed, iv p.1 = ((sv p.2).length : Int) → iv q.1 = ((sv q.2).length : Int) → lt2 ltIv p q = ltLen p.2 q.2 := by
    intro p q e1 e2
    show decide (iv p.1 < iv q.1) = decide _
    rw [e1, e2]
    exact decide_eq_decide.mpr (by omega)
  refine ⟨?_, ?_, fun v => ?_⟩
  · show (l.map (·.2)).Pairwise _
    rw [List.pairwise_map]
    refine List.Pairwise.imp_of_mem (fun {p q} hp hq h => ?_) h1
    rw [← lt_eq q p (pl q hq) (pl p hp)]
    exact h
  · have := h2.perm.map (·.2)
    rw [List.map_snd_zip (by omega)] at this
    exact this
  · have c := congrArg (List.map (·.2)) (h2.cls ((.int ((sv v).length : Int) 0, v) : Keyed))
    have key : ∀ m : List Keyed, (∀ p ∈ m, iv p.1 = ((sv p.2).length : Int)) → (m.filter (eqv (lt2 ltIv) ((.int ((sv v).length : Int) 0, v) : Keyed))).map (·.2) = (m.map (·.2)).filter (eqv ltLen v) := by
      intro m hm
      rw [List.filter_map]
      congr 1
      refine List.filter_congr fun p hp => ?_
      show eqv (lt2 ltIv) _ p = eqv ltLen v p.2
      unfold eqv
      rw [lt_eq _ p rfl (hm p hp), lt_eq p _ (hm p hp) rfl]
    rw [key l pl, key _ pair, List.map_snd_zip (by omega)] at c
    exact c
theorem len_end {ss : List Str} (hS : StrsAre vs ss) (hk : s.heap.get? kS = some (seqObj "list" keys e)) (ha : s.heap.get? a = some (seqObj "list" #[] e1)) (ne : kS ≠ a) (zv : vs.length ≤ sizeLine) (hi : IntsAre keys.toList (vs.map fun v => ((sv v).length : Int)))
    (q : ∀ h' (out : List Value), (∀ b o, b ≠ a → b ≠ kS → s.heap.get? b = some o → h'.get? b = some o) → (∃ c, h'.get? a = some (seqObj "list" out.toArray c)) → Srtd ltLen out → Stb ltLen out vs → R (.done (.ret .none)) { s with heap := h' }) :
    wpAny (model prog w) A (ksk_end a false vs.toArray e1 (.ref kS) keys) R E s := by
  have hl : keys.size = vs.length := by
    have := hi.length
    rw [Array.length_toList, List.length_map] at this
    exact this
  have hkz : (keys.zip vs.toArray).toList = keys.toList.zip vs := zip_keys _ _
  have zz : (keys.zip vs.toArray).size = vs.length := by rw [Array.size_zip, hl, List.size_toArray, Nat.min_self]
  have fin : ∀ st' : SortSt, Srtd (lt2 ltIv) (arrOf st').toList → Stb (lt2 ltIv) (arrOf st').toList (keys.zip vs.toArray).toList → failedOf st' = none → wpAny (model prog w) A (ksk_tail a false e1 (.ref kS) st') R E s := by
    intro st' h1 h2 h3
    have hz : (arrOf st').size = vs.length := by
      have := h2.perm.length_eq
      rw [Array.length_toList, Array.length_toList, zz] at this
      exact this
    rw [hkz] at h2
    obtain ⟨k1, k2⟩ := len_out (fun v hv => hS.all v hv) (iv_ints hi) h1 h2
    refine len_tail hk ha ne (by rw [hl]; exact zv) (by rw [hz]; exact zv) h3 fun h' kp ⟨c, hc⟩ => ?_
    refine q h' ((arrOf st').toList.map (·.2)) kp ⟨c, ?_⟩ k1 k2
    rw [hc]
    congr 2
    apply Array.ext'
    simp
  unfold ksk_end
  dsimp only
  rw [if_neg Bool.false_ne_true]
  by_cases h2 : vs.toArray.size < 2
  · rw [if_pos h2, if_pos h2]
    refine wpAny_bind (wpAny_pure ?_)
    rw [StateT.run_pure]
    refine wpAny_bind (wpAny_pure ?_)
    refine fin (SortSt.mk' general' (keys.zip vs.toArray) #[] 7 none) ?_ (Stb.refl _) rfl
    show Srtd (lt2 ltIv) (keys.zip vs.toArray).toList
    have hlen : (keys.zip vs.toArray).toList.length < 2 := by
      rw [Array.length_toList, zz]
      rw [List.size_toArray] at h2
      exact h2
    match (keys.zip vs.toArray).toList, hlen with
    | [], _ => exact List.Pairwise.nil
    | [v], _ => exact List.pairwise_singleton _ _
    | _ :: _ :: l, h => exact absurd h (by simp)
  · rw [if_neg h2, if_neg h2]
    rw [List.size_toArray] at h2
    rw [ksk_kind hi (by rw [hl]; omega)]
    refine wpAny_bind (wpAny_pure ?_)
    have all : AllL (fun p : Keyed => p.1 ∈ keys.toList) (keys.zip vs.toArray).toList := fun p hm => by
      rw [hkz] at hm
      obtain ⟨x, y⟩ := p
      exact (List.of_mem_zip hm).1
    refine wpAny_bind (wpAny_mono (wpS_sortO (st0 := SortSt.mk' oneType' (keys.zip vs.toArray) #[] 7 none)
      (Q := fun _ st' => Srtd (lt2 ltIv) (arrOf st').toList ∧ Stb (lt2 ltIv) (arrOf st').toList (keys.zip vs.toArray).toList ∧ failedOf st' = none) (swo2 swo_int) (int_cmp hi) rfl all rfl rfl fun st' c1 c2 c3 => ⟨c1, c2, c3⟩) ?_ fun _ _ z => z)
    rintro ⟨⟨⟩, st'⟩ s' ⟨rfl, c1, c2, c3⟩
    exact fin st' c1 c2 c3
theorem ints_app {n : Int} {t : Tok} : ∀ {xs : List Value} {ns : List Int}, IntsAre xs ns → IntsAre (xs ++ [.int n t]) (ns ++ [n])
  | _, _, .nil => .cons n t .nil
  | _, _, .cons m u r => .cons m u (ints_app r)
/-- the lengths are taken one by one -/
theorem len_rest {ss : List Str} (hS : StrsAre vs ss) (hz : ∀ v ∈ vs, (sv v).length ≤ 1000000) (hk : s.heap.get? kS = some (seqObj "list" #[] e)) (ha : s.heap.get? a = some (seqObj "list" #[] e1)) (ne : kS ≠ a) (zv : vs.length ≤ sizeLine)
    (q : ∀ h' tk (out : List Value), (∀ b o, b ≠ a → b ≠ kS → s.heap.get? b = some o → h'.get? b = some o) → (∃ c, h'.get? a = some (seqObj "list" out.toArray c)) → Srtd ltLen out → Stb ltLen out vs → R (.done (.ret .none)) { s with heap := h', toks := tk }) :
    wpAny (model prog w) A (ksk_rest a (.builtin "len") false vs.toArray e1 (.ref kS)) R E s := by
  unfold ksk_rest
  refine wpAny_bind (wpAny_rule ?_)
  rw [List.forIn_toArray]
  refine wpAny_bind (ksk_fold (fun i s' => ∃ h' tk kA c, s' = { s with heap := h', toks := tk } ∧ (∀ b o, b ≠ a → b ≠ kS → s.heap.get? b = some o → h'.get? b = some o) ∧ h'.get? kS = some (seqObj "list" kA c) ∧ h'.get? a = some (seqObj "list" #[] e1) ∧ IntsAre kA.toList ((vs.map fun v => ((sv v).length : Int)).take i)) vs 0 s
    ⟨s.heap, s.toks, #[], e, rfl, fun _ _ _ _ z => z, hk, ha, by simpa using IntsAre.nil⟩ ?step ?done)
  case step =>
    rintro j x s' hx ⟨h', tk, kA, c, rfl, kp, k1, a1, hi⟩
    simp only [Nat.zero_add] at hi ⊢
    have hj : j < vs.length := (List.getElem?_eq_some_iff.mp hx).1
    have hm : x ∈ vs := List.mem_of_getElem? hx
    obtain ⟨y, t, rfl⟩ := hS.all _ hm
    have ly : (y.length : Int) = ((sv (.str y t)).length : Int) := by
      show (y.cps.size : Int) = (y.cps.toList.length : Int)
      rw [Array.length_toList]
    have lz : y.length ≤ 1000000 := by
      have := hz _ hm
      omega
    have zk : kA.size ≤ vs.length := by
      have := hi.length
      rw [Array.length_toList, List.length_take, List.length_map] at this
      omega
    refine wpAny_bind (wpAny_attempt (PySem.P.len_str (by omega) ?_))
    dsimp only
    have b1 := Heap.SameBut.update h' kS (Obj.mapSeq (·.push (.int y.length (tk + 1))))
    have k2 := get?_update_seq k1 (·.push (Value.int y.length (tk + 1)))
    refine wpAny_bind (listUpdate_at k1 rfl ?_ (Nat.le_trans zk zv) (Nat.le_trans (Nat.le_of_eq (Array.size_push ..)) (Nat.succ_le_succ (Nat.le_trans zk zv))))
    refine wpAny_pure ⟨rfl, _, _, kA.push (.int y.length (tk + 1)), _, rfl, fun b o n1 n2 z => (b1.2 b n2).trans (kp b o n1 n2 z), k2, (b1.2 a ne.symm).trans a1, ?_⟩
    have ek : (vs.map fun v => ((sv v).length : Int)).take (j + 1) = (vs.map fun v => ((sv v).length : Int)).take j ++ [(y.length : Int)] := by
      rw [List.take_add_one, List.getElem?_map, hx, ly]
      rfl
    rw [ek, Array.toList_push]
    exact ints_app hi
  case done =>
    rintro s' ⟨h', tk, kA, c, rfl, kp, k1, a1, hi⟩
    have ek : (vs.map fun v => ((sv v).length : Int)).take (0 + vs.length) = vs.map fun v => ((sv v).length : Int) := List.take_of_length_le (by rw [List.length_map]; omega)
    rw [ek] at hi
    refine wpAny_bind (listItems_at k1 rfl ?_)
    exact len_end hS k1 a1 ne zv hi fun h2 out kp2 ho r1 r2 => q h2 tk out (fun b o n1 n2 z => kp2 b o n1 n2 (kp b o n1 n2 z)) ho r1 r2
theorem len_sort {ss : List Str} {n : Nat} (hS : StrsAre vs ss) (hz : ∀ v ∈ vs, (sv v).length ≤ 1000000) (ho : s.heap.get? a = some (seqObj "list" vs.toArray n)) (zv : vs.length ≤ sizeLine)
    (q : ∀ h' tk (out : List Value), (∀ b o, b ≠ a → s.heap.get? b = some o → h'.get? b = some o) → (∃ c, h'.get? a = some (seqObj "list" out.toArray c)) → Srtd ltLen out → Stb ltLen out vs → R (.done (.ret .none)) { s with heap := h', toks := tk }) :
    wpAny (model prog w) A (ksk_tree a (.builtin "len") false) R E s := by
  have la : a < s.heap.objs.size := Heap.lt_size ho
  have b1 := Heap.SameBut.update s.heap a (Obj.mapSeq fun _ => (#[] : Array Value))
  have a1 := get?_update_seq ho fun _ => (#[] : Array Value)
  have hk : ((s.heap.update a (Obj.mapSeq fun _ => (#[] : Array Value))).push (seqObj "tuple" vs.toArray 0)).objs.size = s.heap.objs.size + 1 := by rw [size_push', Heap.size_update]
  unfold ksk_tree
  refine wpAny_bind (listItems_at ho rfl ?_)
  refine wpAny_bind (listUpdate_at ho rfl ?_ (by rw [List.size_toArray]; exact zv) (Nat.zero_le _))
  refine wpAny_bind (seqEpoch_at a1 rfl ?_)
  refine wpAny_bind (wpAny_newTuple ?_ (by show vs.length ≤ _; exact zv))
  refine wpAny_bind (wpAny_newList ?_ (Nat.zero_le _))
  refine wpAny_holding ?_
  have more : ∀ b o, b ≠ a → s.heap.get? b = some o → (((s.heap.update a (Obj.mapSeq fun _ => (#[] : Array Value))).push (seqObj "tuple" vs.toArray 0)).push (seqObj "list" #[] 0)).get? b = some o := fun b o nb z => Heap.get?_push_of_some _ (Heap.get?_push_of_some _ ((b1.2 b nb).trans z))
  refine len_rest (s := { s with heap := ((s.heap.update a (Obj.mapSeq fun _ => (#[] : Array Value))).push (seqObj "tuple" vs.toArray 0)).push (seqObj "list" #[] 0) }) (kS := ((s.heap.update a (Obj.mapSeq fun _ => (#[] : Array Value))).push (seqObj "tuple" vs.toArray 0)).objs.size) (e := 0) hS hz
    (Heap.get?_push_size _ rfl) (Heap.get?_push_of_some _ (Heap.get?_push_of_some _ a1)) (by rw [hk]; exact Nat.ne_of_gt (Nat.lt_succ_of_lt la)) zv fun h' tk out kp ho' r1 r2 => ?_
  refine q h' tk out (fun b o nb z => ?_) ho' r1 r2
  have lb : b < s.heap.objs.size := Heap.lt_size z
  exact kp b o nb (by rw [hk]; exact Nat.ne_of_lt (Nat.lt_succ_of_lt lb)) (more b o nb z)
/-- sorted(l, key=len) -/
theorem len_sorted {ss : List Str} {l : Addr} {Q : Value → Shared → Prop} (hS : StrsAre vs ss) (hz : ∀ v ∈ vs, (sv v).length ≤ 1000000) (hl : s.heap.IsList l vs.toArray) (zv : vs.length ≤ sizeLine)
    (q : ∀ h' tk (out : List Value), (∀ b o, s.heap.get? b = some o → h'.get? b = some o) → (∃ c, h'.get? (s.heap.objs.size + 1) = some (seqObj "list" out.toArray c)) → Srtd ltLen out → Stb ltLen out vs → Q (.ref (s.heap.objs.size + 1)) { s with heap := h', toks := tk }) :
    wpAny (model prog w) A (call (.builtin "sorted") [.ref l] [(Str.ofString "key", .builtin "len")]) Q E s := by
  refine call_function_entry_kw kind_sorted plain_sorted entry_sorted (ksk_s1 _ _) ?_
  unfold Builtin.«sorted»
  refine wpAny_bind (m := checkCount "sorted" 1 1 _) (wpAny_pure ?_)
  refine wpAny_bind (collect_list hl ?_ zv)
  refine wpAny_bind (wpAny_newList ?_ zv)
  have zs : ((s.heap.push (seqObj "list" #[] 0)).update s.heap.objs.size (Obj.mapSeq (· ++ vs.toArray))).objs.size = s.heap.objs.size + 1 := by rw [Heap.size_update, size_push']
  have hL : (((s.heap.push (seqObj "list" #[] 0)).update s.heap.objs.size (Obj.mapSeq (· ++ vs.toArray))).push (seqObj "list" vs.toArray 0)).get? (s.heap.objs.size + 1) = some (seqObj "list" vs.toArray 0) := by
    rw [← zs]
    exact Heap.get?_push_size _ rfl
  have kp : ∀ b o, s.heap.get? b = some o → b ≠ s.heap.objs.size + 1 ∧ (((s.heap.push (seqObj "list" #[] 0)).update s.heap.objs.size (Obj.mapSeq (· ++ vs.toArray))).push (seqObj "list" vs.toArray 0)).get? b = some o := fun b o z => by
    have lb : b < s.heap.objs.size := Heap.lt_size z
    refine ⟨Nat.ne_of_lt (Nat.lt_succ_of_lt lb), Heap.get?_push_of_some _ ?_⟩
    rw [Heap.get?_update_ne _ _ _ _ (Nat.ne_of_lt lb)]
    exact Heap.get?_push_of_some _ z
  show wpAny _ _ _ _ _ { s with heap := ((s.heap.push (seqObj "list" #[] 0)).update s.heap.objs.size (Obj.mapSeq (· ++ vs.toArray))).push (seqObj "list" vs.toArray 0) }
  rw [zs]
  refine wpAny_bind (wpAny_holding (wpAny_call_entry_kw slot_list_sort ⟨_, hL, rfl⟩ entry_list_sort ?body (ksk_l1 _ _)))
  case body =>
    show wpAny (model prog w) A.in1.in1 (Builtin.«list.sort» ⟨[.ref (s.heap.objs.size + 1)], [(Str.ofString "key", .builtin "len")]⟩) _ _ _
    rw [ksk_t4]
    refine len_sort (s := { s with heap := ((s.heap.push (seqObj "list" #[] 0)).update s.heap.objs.size (Obj.mapSeq (· ++ vs.toArray))).push (seqObj "list" vs.toArray 0) }) hS hz hL zv fun h' tk out kp2 ho r1 r2 => ⟨_, rfl, ?_⟩
    exact wpAny_pure ⟨_, rfl, q h' tk out (fun b o z => kp2 b o (kp b o z).1 (kp b o z).2) ho r1 r2⟩
end
end Cw
set_option Elab.async false
set_option linter.all false
set_option maxRecDepth 100000
set_option maxHeartbeats 4000000
/-! the expression sorted(xs, key=len) -/
namespace Cw
open PySem PySem.Spec L2
def rSortedL (K : PySem.W.Frag) : List V → Hp → VK → Prop := fun vs H Q => ∃ (a : Addr) (ls : List (List Nat)), vs = [V.ref a] ∧ SqL K H a (ls.map fun l => V.str (tx l)) ∧ (∀ l ∈ ls, l.length ≤ 1000000) ∧
  ∀ (ls' : List (List Nat)) (p : Addr), ls'.Perm ls → ls'.Pairwise (fun a b => a.length ≤ b.length) → (∀ n, (ls'.filter fun l => decide (l.length = n)) = ls.filter fun l => decide (l.length = n)) → H p = none → Q (.ref p) (upd H p (.lst (ls'.map fun l => V.str (tx l))))
def tSortL (K : PySem.W.Frag) (t : TA) : TE := fun σ H Q => t σ H fun vs H1 => rSortedL K vs H1 Q
theorem e_sortL {K : PySem.W.Frag} {t : TA} {σ : St} {H : Hp} {Q : VK} (q : t σ H fun vs H1 => rSortedL K vs H1 Q) : tSortL K t σ H Q := q
theorem pe_sortL {X : Cx} {K : PySem.W.Frag} {p pos p2 kp : PySem.Pos} {e : Expr} {t : TA} (h : X.K = K) (hg : Gl X "sorted") (hm : X.mg "sorted" = none) (hgl : Gl X "len") (hml : X.mg "len" = none) (ha : PA X [e] t)
    (he : backTo pos (starEach [e] X.env) = (false, eval e X.env) :: backTo pos (starEach [] X.env) := by rfl) (hpl : (backTo pos (starEach [e] X.env)).any (·.1) = false := by rfl) :
    PE X (.Call (.Name "sorted" p) [e] [⟨some "key", .Name "len" p2, kp⟩] pos) (tSortL K t) := by
  subst h
  refine ⟨fun pins s σ H Q I hq => ?_⟩
  refine wpAny_Call_Name_kw (ld_blt I hg hm (u := .builtin "sorted") (by decide +kernel) ?_ (by decide) (by decide))
  refine PyProof.Rows.callWith_kw (thn (ha.run pos pins s σ H _ I hq) fun us s1 ⟨vs, H1, I1, r1, q1⟩ => ?_) he hpl rfl rfl
  show wpAny _ _ (evalAll ((do let v ← eval (.Name "len" p2) X.env; standAt pos; pure v) :: (backToKw pos (keywordEach [] X.env)).map (·.2))) _ _ s1
  refine PySem.wpAny_evalAll_cons (wpAny_bind (ld_blt I1 hgl hml (u := .builtin "len") (by decide +kernel) ?_ (by decide) (by decide)))
  refine wpAny_bind (wpAny_standAt (wpAny_pure ?_))
  refine PySem.wpAny_evalAll_nil ?_
  obtain ⟨a, ls, rfl, hs, lz, q⟩ := q1
  rw [map_tx] at hs
  obtain ⟨its, rv, hl, hz⟩ := I1.list hs
  obtain rfl := Vals.ref1 r1
  have hi := rv.strs
  have zi : its.length ≤ sizeLine := by
    rw [← rv.length]
    exact hz
  have svl : its.map sv = ls := sv_str hi
  show wpAny _ _ (call (.builtin "sorted") [.ref a] [(Str.ofString "key", .builtin "len")]) _ _ s1
  refine len_sorted hi (fun v hv => lz _ (by rw [← svl]; exact List.mem_map.mpr ⟨v, hv, rfl⟩)) hl.isList zi fun h' tk out kp ho r1 r2 => ?_
  have all := fun v hv => hi.all v (r2.perm.mem_iff.mp hv)
  have k1 : PyProof.Rows.StrsAre out ((out.map sv).map tx) := str_sv all
  have k2 : (out.map sv).Perm ls := by
    have := r2.perm.map sv
    rw [svl] at this
    exact this
  have k3 : (out.map sv).Pairwise (fun a b => a.length ≤ b.length) := List.pairwise_map.mpr (r1.imp fun {x y} h => by
    have := of_decide_eq_false (p := (sv y).length < (sv x).length) h
    omega)
  have k4 : ∀ n, ((out.map sv).filter fun l => decide (l.length = n)) = ls.filter fun l => decide (l.length = n) := by
    intro n
    have c := congrArg (List.map sv) (r2.cls (.str (tx (List.replicate n 0)) 0))
    have key : ∀ m : List Value, (m.filter (SrtO.eqv ltLen (.str (tx (List.replicate n 0)) 0))).map sv = (m.map sv).filter fun l => decide (l.length = n) := by
      intro m
      rw [List.filter_map]
      congr 1
      refine List.filter_congr fun v _ => ?_
      show SrtO.eqv ltLen _ v = decide ((sv v).length = n)
      unfold SrtO.eqv ltLen
      have e0 : (sv (.str (tx (List.replicate n 0)) 0)).length = n := by
        show (List.replicate n 0).length = n
        rw [List.length_replicate]
      rw [e0, Bool.eq_iff_iff]
      simp only [Bool.and_eq_true, Bool.not_eq_true', decide_eq_false_iff_not, decide_eq_true_eq]
      omega
    rw [key, key, svl] at c
    exact c
  obtain ⟨ep, he'⟩ := ho
  have hlen : (((out.map sv).map tx).map V.str).length ≤ sizeLine := by
    rw [List.length_map, List.length_map, k2.length_eq, ← svl, List.length_map]
    exact zi
  have q := q _ (s1.heap.objs.size + 1) k2 k3 k4 (I1.hok.fresh (Nat.le_succ _))
  rw [map_tx] at q
  exact ⟨.ref _, upd H1 (s1.heap.objs.size + 1) (.lst (((out.map sv).map tx).map V.str)), I1.laid (t' := tk) kp (Nat.le_succ _) ⟨hlen, out, ep, vals_of_strs k1, he'⟩, rfl, q⟩
def rStrS : List V → Hp → VK → Prop := fun xs H Q => ∃ a, xs = [.str a] ∧ Q (.str a) H
theorem c_strS {X : Cx} : CallR X (.type "str") rStrS := SkE.call_str_str
theorem v_strS {H : Hp} {Q : VK} {a : Str} (q : Q (.str a) H) : rStrS [.str a] H Q := ⟨a, rfl, q⟩
theorem cr_sortedTK {X : Cx} {K : PySem.W.Frag} (h : X.K = K) : CallR X (.builtin "sorted") (rSortedS K) := h ▸ cr_sortedT
/-- texts by length, then by the alphabet -/
def shortLe (a b : List Nat) : Prop := a.length < b.length ∨ (a.length = b.length ∧ ¬ b < a)
theorem sorted_twice {l m n : List (List Nat)} (h1 : m.Perm l) (h2 : m.Pairwise fun a b => ¬ b < a) (h3 : n.Perm m) (h4 : n.Pairwise fun a b => a.length ≤ b.length) (h5 : ∀ k, (n.filter fun l => decide (l.length = k)) = m.filter fun l => decide (l.length = k)) : n.Perm l ∧ n.Pairwise shortLe := by
  refine ⟨h3.trans h1, ?_⟩
  rw [List.pairwise_iff_getElem] at h4 ⊢
  intro i j hi hj hij
  have hl := h4 i j hi hj hij
  by_cases c : n[i].length = n[j].length
  · right
    refine ⟨c, ?_⟩
    have hp : (n.filter fun l => decide (l.length = n[j].length)).Pairwise fun a b => ¬ b < a := by
      rw [h5]
      exact h2.filter _
    have e : n = n.take i ++ (n[i] :: (n.drop (i + 1)).take (j - i - 1) ++ n[j] :: n.drop (j + 1)) := by
      have e1 : n.drop (i + 1) = (n.drop (i + 1)).take (j - i - 1) ++ n[j] :: n.drop (j + 1) := by
        have := List.take_append_drop (j - i - 1) (n.drop (i + 1))
        rw [List.drop_drop, show i + 1 + (j - i - 1) = j by omega] at this
        rw [← List.drop_eq_getElem_cons hj]
        exact this.symm
      rw [List.cons_append, ← e1, ← List.drop_eq_getElem_cons hi, List.take_append_drop]
    generalize hx : n[i] = x at *
    generalize hy : n[j] = y at *
    rw [e, List.filter_append, List.filter_append] at hp
    have hp := (List.pairwise_append.mp hp).2.1
    have px : decide (x.length = y.length) = true := decide_eq_true c
    have py : decide (y.length = y.length) = true := decide_eq_true rfl
    rw [List.filter_cons_of_pos (by simpa using c), List.filter_cons_of_pos (by simp)] at hp
    exact (List.pairwise_append.mp hp).2.2 x (List.mem_cons_self ..) y (List.mem_cons_self ..)
  · left
    omega
end Cw
set_option Elab.async false
set_option linter.all false
set_option maxRecDepth 100000
set_option maxHeartbeats 4000000
/-! the five words of how two walls lie -/
namespace Cw
section
variable {f : Nat → List Nat} {ls : List Nat} {s t c : Nat} {m n : List Nat}
end
/-! ### the words -/
def crossP (f : Nat → List Nat) (m : List Nat) (s : Nat) (n : List Nat) (t : Nat) : Prop := t ∈ f s ∧ startC f (nameOf f (m ++ (splitA f (f s) (wayC f m n)).1)) t = n
instance (f : Nat → List Nat) (m : List Nat) (s : Nat) (n : List Nat) (t : Nat) : Decidable (crossP f m s n t) := inferInstanceAs (Decidable (_ ∧ _))
section
variable {f : Nat → List Nat} {ls : List Nat} {s t : Nat} {m n : List Nat}
end
end Cw
set_option Elab.async false
set_option linter.all false
set_option maxRecDepth 100000
set_option maxHeartbeats 4000000
/-! how two walls lie, as the law tells it -/
namespace Cw
section
variable {f : Nat → List Nat} {ls : List Nat} {s t : Nat} {w v : List Nat}
theorem W2.of (hn : ls.Nodup) (ok : CrOk f) (hs : s ∈ ls) (ht : t ∈ ls) (hw : ∀ y ∈ w, y ∈ ls) (hv : ∀ y ∈ v, y ∈ ls) : W2 f ls (startC f (nameOf f w) s) s (startC f (nameOf f v) t) t where
  nd := hn
  ok := ok
  hs := hs
  ht := ht
  m1 := start_NF ok (name_NF ok w) s
  n1 := start_NF ok (name_NF ok v) t
  mm := st_mem (fun y hy => hw y (name_mem hy)) hs
  mn := st_mem (fun y hy => hv y (name_mem hy)) ht
  sm := Strt.of ok (name_NF ok w) s
  sn := Strt.of ok (name_NF ok v) t
end
end Cw
set_option Elab.async false
set_option linter.all false
set_option maxRecDepth 100000
set_option maxHeartbeats 4000000
/-! text.replace(letter, "", 1): the first such letter is left out -/
namespace Cw
open PySem PySem.Spec L2 PyProof.Rows Builtin Builtin.Str
theorem occ_one {p q : List Nat} {c : Nat} (hp : ¬ c ∈ p) : occurrences (tx (p ++ c :: q)) (tx [c]) 0 (tx (p ++ c :: q)).length 1 = [p.length] := by
  have hat : ∀ i, StrLaws.At (tx (p ++ c :: q)) (tx [c]) (tx (p ++ c :: q)).length i ↔ (p ++ c :: q)[i]? = some c := fun i => StrLaws.subAt_one (tx (p ++ c :: q)) c i
  have h0 : (p ++ c :: q)[p.length]? = some c := by rw [List.getElem?_append_right (Nat.le_refl _), Nat.sub_self]; rfl
  have hl := StrLaws.occ_length_le (tx (p ++ c :: q)) (tx [c]) 0 (tx (p ++ c :: q)).length 1
  rcases StrLaws.occ_head (tx (p ++ c :: q)) (tx [c]) 1 (Nat.le_refl _) with ⟨_, h⟩ | ⟨i, r, e, h1, h2⟩
  · exact absurd ((hat _).mpr h0) (h _)
  · rw [e] at hl ⊢
    have hr : r = [] := by
      cases r with
      | nil => rfl
      | cons a r => simp at hl
    have hi := (hat i).mp h1
    have e1 : ¬ i < p.length := by
      intro z
      rw [List.getElem?_append_left z] at hi
      exact hp (List.mem_of_getElem? hi)
    have e2 : ¬ p.length < i := fun z => h2 _ z ((hat _).mpr h0)
    rw [hr, show i = p.length by omega]
theorem cut_one {p q : List Nat} {c : Nat} (hp : ¬ c ∈ p) : glued (tx []) (partsBetween (tx (p ++ c :: q)) [p.length] 1) = tx (p ++ q) := by
  apply Str.ext'
  apply Array.toList_inj.mp
  rw [StrLaws.partsBetween_eq]
  show (([strSub (tx (p ++ c :: q)) (p.length + 1) (tx (p ++ c :: q)).length].foldl (fun acc z => acc ++ (tx []).cps ++ z.cps) (strSub (tx (p ++ c :: q)) 0 p.length).cps)).toList = p ++ q
  rw [List.foldl_cons, List.foldl_nil, Array.toList_append, Array.toList_append, StrLaws.strSub_toList, StrLaws.strSub_toList]
  show ((p ++ c :: q).drop 0).take (p.length - 0) ++ [] ++ ((p ++ c :: q).drop (p.length + 1)).take _ = _
  rw [List.drop_zero, Nat.sub_zero, List.take_left, List.append_nil]
  congr 1
  have e : (p ++ c :: q).drop (p.length + 1) = q := by
    rw [← List.drop_drop, List.drop_left]
    rfl
  rw [e]
  apply List.take_of_length_le
  show q.length ≤ (p ++ c :: q).toArray.size - _
  simp
  omega
theorem gives_cut (x y z : Str) (t u v k : Tok) (hu : (u == 0 || v == 0) = false) (huv : (u == v) = false) (hyz : (y == z) = false)
    (hl : tooLong (x.length + (occurrences x y 0 x.length 1).length * z.length) = false) (hc : ((occurrences x y 0 x.length 1).isEmpty || (y.length == 0 && z.length == 0)) = false) :
    Gives («str.replace» ⟨[.str x t, .str y u, .str z v, .int 1 k], []⟩) (.str (glued z (partsBetween x (occurrences x y 0 x.length 1) y.length))) := by
  show Gives (if ((occurrences x y 0 x.length 1).isEmpty || (y.length == 0 && z.length == 0)) = true then (do rule "str.replace.nothing"; ret (.str x t)) else (do
    let same ← isSame (.str y u) (.str z v); if same = true then (do rule "str.replace.old-is-new"; ret (.str x t)) else if tooLong (x.length + (occurrences x y 0 x.length 1).length * z.length) = true then unsupported "str.replace:memory" else
      retStr (glued z (partsBetween x (occurrences x y 0 x.length 1) y.length)))) _
  rw [hc, isSame_str_other y z u v hu huv hyz, hl]
  exact .of_eq rfl
theorem call_cut {prog : Program} {w : World} {A : Around} {E : Value → Shared → Prop} {s : Shared} {Q : Value → Shared → Prop} {p q : List Nat} {c : Nat} {t u v k : Tok} (hp : ¬ c ∈ p) (hl : (p ++ c :: q).length ≤ 1000000) (hu : u ≠ 0) (hv : v ≠ 0) (huv : u ≠ v)
    (hq : ∀ t' k, Q (.str (tx (p ++ q)) t') { s with toks := k }) : wpAny (model prog w) A (call (.builtin "str.replace") [.str (tx (p ++ c :: q)) t, .str (tx [c]) u, .str (tx []) v, .int 1 k]) Q E s := by
  have ho := occ_one (q := q) hp
  have hg := cut_one (q := q) hp
  have g := gives_cut (tx (p ++ c :: q)) (tx [c]) (tx []) t u v k (by simp [hu, hv]) (by simp [huv]) (by
    apply beq_eq_false_iff_ne.mpr
    intro z
    have := tx_inj.mp z
    cases this) (by
    rw [ho]
    unfold tooLong sizeLine
    refine decide_eq_false ?_
    show ¬ (p ++ c :: q).toArray.size + [p.length].length * 0 > 2 ^ 24
    rw [List.size_toArray]
    omega) (by rw [ho]; rfl)
  rw [ho, show (tx [c]).length = 1 from rfl, hg] at g
  refine call_gives F.slot_str_replace (typeIs_str _ _ _) F.entry_str_replace (F.args_str_replace_4 _ _ _ _) g ?_
  refine ⟨?_, hq _ _⟩
  show (p ++ q).toArray.size ≤ sizeLine
  rw [List.size_toArray]
  simp only [List.length_append, List.length_cons] at hl ⊢
  have : (1000000 : Nat) ≤ sizeLine := by decide
  omega
theorem meth3 {prog : Program} {w : World} {A : Around} {E : Value → Shared → Prop} {s : Shared} {env : Env} {Q : Value → Shared → Prop} {o a b c : Expr} {name : Str} {apos pos : PySem.Pos} (hbase : attributeBase o name env (eval o env) = eval o env)
    (hs : starEach [a, b, c] env = [(false, eval a env), (false, eval b env), (false, eval c env)]) (hline : (apos.endLine == pos.line) = true) (h : wpAny (model prog w) A (eval o env) (fun ov s1 => MethodOnS prog w A E name ov pos [(false, eval a env), (false, eval b env), (false, eval c env)] Q s1) E s) :
    wpAny (model prog w) A (eval (.Call (.Attribute o name apos) [a, b, c] [] pos) env) Q E s := by
  refine wpAny_Call_method_lateS hbase (by rw [hs]; rfl) hline ?_
  rw [hs]
  exact h
/-! ### def without_first(way, kind): return way.replace(kind, "", 1) -/
/-- its promise, of raw arguments -/
def CutRun (P : Program) (w : World) (K : PySem.W.Frag) (mg : Str → Option Value) (base : Heap) (CX : CXT) (k : Nat) (f : Addr) : Prop :=
  ∀ (A : Around) (outer : List Env) (s : Shared) (H : Hp) (p q : List Nat) (c : Nat) (t u : Tok) (Q : VK) (E : XK), Room k A → Env0 P w K mg base A outer s H → u ≠ 0 → u < s.toks → ¬ c ∈ p → (p ++ c :: q).length ≤ 1000000 → Q (.str (tx (p ++ q))) H →
    codeAny (model P w) A (.call (.ref f) ⟨[.str (tx (p ++ c :: q)) t, .str (tx [c]) u], []⟩) (CR CX outer P w H s Q E) s
theorem cut_run {CX : CXT} {P : Program} {w : World} {K : PySem.W.Frag} {mg : Str → Option Value} {base : Heap} {k : Nat} {f : Addr} {fd : FuncData} {x a0 a1 z : Str} {st : Stmt} {N : List Str} {p1 p2 c2 c3 apos cpos rpos : PySem.Pos} {j2 j3 : Nat} (Fn : Fun K x x st f fd) (S : FnScope N [a0, a1] (defScope st)) (hz : z = tx [])
    (hbd : defBody st = [.Return (some (.Call (.Attribute (.Name a0 p1) "replace" apos) [.Name a1 p2, .Constant (.str z) j2 c2, .Constant (.int 1) j3 c3] [] cpos)) rpos])
    (hb : ∀ (kV doc pm : Value) (an : Option Addr) (cdv ct : Value) (us : List Value), us.length = 2 → bindArgs (PySem.W.fnOf x x (defArgs st) (defBody st) (defScope st) .none kV doc pm an cdv ct) ⟨us, []⟩ = pure ([a0, a1].zip us))
    (l0 : (defScope st).names.lookup a0 = some .local) (l1 : (defScope st).names.lookup a1 = some .local) (d0 : (a0 == ("__debug__" : Str)) = false) (d1 : (a1 == ("__debug__" : Str)) = false) (hline : (apos.endLine == cpos.line) = true) : CutRun P w K mg base CX (k + 1) f := by
  obtain ⟨oc, od, kV, doc, pm, an, cdv, ct, osl, rfl, lk, hcd⟩ := Fn.ex
  subst hz
  intro A outer s H p q c t u Q E hr ev hu hut hp hl fin
  rw [hbd] at lk hb
  have inK : K.In s.heap := ev.mod.kin.keeps fun b o z => (ev.bs b o z).1
  have nl : s.heap.NoLimit := ev.mod.nolimit.keeps fun b o z => (ev.bs b o z).1
  have kinds : ∀ y ∈ [a0, a1].zip [Value.str (tx (p ++ c :: q)) t, .str (tx [c]) u], (defScope st).names.lookup y.1 = some .local ∨ ((defScope st).names.lookup y.1 = some .cell ∧ ((cellsFrom (s.heap.objs.size + 1) (defScope st).names []).lookup y.1).isSome = true) := fun ⟨n, v⟩ hy => by
    rcases S.par n (List.of_mem_zip hy).1 with r | r
    · exact .inl r
    · exact .inr ⟨r, PySem.W.cellsFrom_some _ _ _ (.inl r)⟩
  refine codeAny_call_function hr.depth (inK _ _ lk) rfl S.co S.gen rfl (PySem.W.codeRec_of inK hcd) (BindsTo.of_eq (hb kV doc pm an cdv ct [.str (tx (p ++ c :: q)) t, .str (tx [c]) u] rfl) _ _ _ _ ?_)
  refine wpAny_mono (PySem.wpAny_toks (wpAny_newFunctionEnv_cells (Q := fun env s1 => env = _ ∧ InCallC s _ _ _ _ s1) S.kind kinds fun env he s1 xx => ⟨he, xx⟩)) (fun env s1 hh => ?_) fun _ _ y => y.2
  obtain ⟨tk, he, xx⟩ := hh
  subst he
  refine ⟨nl.keeps xx.toInCall.keep, codeAny_func ?_⟩
  have vals : Vals [V.str (tx (p ++ c :: q)), .str (tx [c])] [Value.str (tx (p ++ c :: q)) t, .str (tx [c]) u] := .cons ⟨t, rfl⟩ (.cons ⟨u, rfl⟩ .nil)
  have tk : s.toks ≤ s1.toks := tk
  have hut : u < s.toks := hut
  have J0 : Inv (cxOf CX P w K mg base N x (defScope st) f cdv A outer s H E) [] (start N [.str (tx (p ++ c :: q)), .str (tx [c])]) H s1 := inv_start S hr.hd ev rfl vals xx
  have ns := xx.toInCall.ns
  have two : [a0, a1].Nodup := by
    rw [show [a0, a1] = N.take 2 from S.pre.symm]
    exact S.nd.sublist (List.take_sublist _ _)
  have g0 := bindL_get (kindOf := (envOfC x (defScope st) s.heap.objs.size f cdv).kindOf) (x := a0) (v := Value.str (tx (p ++ c :: q)) t) (P := [a0, a1]) (vs := [.str (tx (p ++ c :: q)) t, .str (tx [c]) u]) (i := 0) (m := fun _ => none) two rfl rfl l0
  have g1 := bindL_get (kindOf := (envOfC x (defScope st) s.heap.objs.size f cdv).kindOf) (x := a1) (v := Value.str (tx [c]) u) (P := [a0, a1]) (vs := [.str (tx (p ++ c :: q)) t, .str (tx [c]) u]) (i := 1) (m := fun _ => none) two rfl rfl l1
  refine wpAny_execs_cons (wpAny_Return_some (meth3 rfl rfl hline (wpAny_Name (wpAny_loadName_local S.kind l0 ns g0 ?_) d0)))
  refine ⟨"str", _, F.plainAttrs_str, F.slot_str_replace, F.type_str_replace, typeIs_str _ _ _, (fun _ z => nomatch z), Calls.callWith_builtin rfl (Calls.evalArgs_plain (Calls.spliced_cons ?_))⟩
  refine wpAny_Name (wpAny_loadName_local S.kind l1 ns g1 ?_) d1
  refine Calls.spliced_cons (Calls.Constant_str ?_)
  refine Calls.spliced_cons (wpAny_Constant_int ?_)
  refine Calls.spliced_nil ?_
  refine call_cut hp hl hu (Nat.ne_of_gt (Nat.lt_of_lt_of_le (Nat.lt_of_le_of_lt (Nat.zero_le u) hut) tk)) (Nat.ne_of_lt (Nat.lt_of_lt_of_le hut tk)) fun t' k' => ?_
  have J := J0.tok k'
  exact ⟨.str (tx (p ++ q)), H, J.os, J.bare, J.base, J.hok, ⟨t', rfl⟩, fin⟩
end Cw
set_option Elab.async false
set_option linter.all false
set_option maxRecDepth 100000
set_option maxHeartbeats 4000000
/-! a loop over a text whose letters go on to text.replace: the letter's token is carried in its name -/
namespace Cw
open PySem PySem.Spec L2
theorem ns_one {h : Heap} {a : Addr} {m m' : Str → Option Value} (x : h.Ns a m) (y : h.Ns a m') : m = m' := by
  obtain ⟨o, es, ep, e1, e2, _, e4⟩ := x
  obtain ⟨o', es', ep', f1, f2, _, f4⟩ := y
  rw [e1] at f1
  cases f1
  rw [e2] at f2
  cases f2
  funext z
  rw [← e4, f4]
section
variable {X : Cx} {pins : List (Addr × Obj)} {σ : St} {H : Hp} {s : Shared}
/-- the letter c stands under the name x, with the token u -/
def RawAt (X : Cx) (x : Str) (c : Nat) (u : Tok) (s : Shared) : Prop := ∃ m, s.heap.Ns X.env.locals m ∧ m x = some (.str (tx [c]) u) ∧ u ≠ 0 ∧ u < s.toks
/-- a local name is stored, all seen -/
theorem stored {i : Nat} {y : Str} {v : V} {u : Value} {m : Str → Option Value} {h1 : Heap} {tk : Nat} (I : Inv X pins σ H s) (hN : X.N.Nodup) (hi : X.N[i]? = some y) (hk : X.env.kindOf y = some .local) (r : RelV v u) (hm : s.heap.Ns X.env.locals m)
    (hn : h1.Ns X.env.locals (fun z => if z = y then some u else m z)) (sb : Heap.SameBut X.env.locals s.heap h1) : Inv X pins (σ.set i (some v)) H { s with heap := h1, toks := tk } := by
  have mv : ∀ b, b ≠ X.env.locals → h1.get? b = s.heap.get? b := sb.2
  have old : ∀ {b : Addr} {o : Obj}, X.s_0.heap.get? b = some o → b ≠ X.env.locals := fun e => Nat.ne_of_lt (Nat.lt_of_lt_of_le (Heap.lt_size e) I.ok.above)
  have ne := I.cne
  obtain ⟨m0, n0, l0⟩ := I.loc
  obtain rfl := ns_one n0 hm
  obtain ⟨oL, _, _, hoL, _⟩ := id hm
  have cell' : ∀ {c : Addr} {w : Option Value}, c ≠ X.env.locals → s.heap.IsCell c w → h1.IsCell c w := fun hc z => z.sameBut sb hc
  exact {
    ok := I.ok
    os := I.os
    bare := I.bare
    base := {
      keep := fun b o e n f x => (mv b (old e)).trans (I.base.keep b o e n f x)
      slot := fun b o e n f x => by
        obtain ⟨sl, z⟩ := I.base.slot b o e n f x
        exact ⟨sl, (mv b (old e)).trans z⟩
      free := I.base.free
      there := fun b o e x => by
        obtain ⟨o', z⟩ := I.base.there b o e x
        exact ⟨o', (mv b (old e)).trans z⟩
      tups := I.base.tups
      frzs := I.base.frzs
      tbls := I.base.tbls }
    loc := by
      refine ⟨_, hn, fun j z w e1 e2 e3 => ?_⟩
      by_cases hj : i = j
      · subst hj
        rw [hi] at e1
        cases e1
        rw [List.getElem?_set_self (by rw [I.len]; exact (List.getElem?_eq_some_iff.mp hi).1)] at e2
        cases e2
        exact ⟨u, r, .inl ⟨hk, if_pos rfl⟩⟩
      · rw [List.getElem?_set_ne hj] at e2
        obtain ⟨u', r', q⟩ := l0 j z w e1 e2 e3
        refine ⟨u', r', ?_⟩
        rcases q with ⟨k, e⟩ | ⟨k, c, e, q⟩
        · have hz : z ≠ y := fun e => hj (nodup_ix hN hi (e ▸ e1))
          exact .inl ⟨k, by show (if z = y then _ else _) = _; rw [if_neg hz]; exact e⟩
        · exact .inr ⟨k, c, e, cell' (ne z c e) q⟩
    cell := fun z c e => by
      obtain ⟨w, q⟩ := I.cell z c e
      exact ⟨w, cell' (ne z c e) q⟩
    free := I.free
    freeC := I.freeC
    pin := fun p hp => by
      obtain ⟨e, n, nl, nf, d⟩ := I.pin p hp
      exact ⟨(mv p.1 nl).trans e, n, nl, nf, d⟩
    hok := fun b o e => (I.hok b o e).stay (fun c w hc q => (mv c (by
      rintro rfl
      rcases hc with z | z
      · rw [← z, I.free] at e
        cases e
      · rw [I.free] at z
        cases z)).trans q) (fun _ q => q) fun _ _ q => q
    len := by rw [List.length_set]; exact I.len }
/-- a value is stored under another name: the letter stays -/
theorem store_raw {M : Model} {A : Around} {E : Value → Shared → Prop} {i : Nat} {x y : Str} {c : Nat} {t : Tok} {v : V} {u : Value} {Q : Unit → Shared → Prop} (I : Inv X pins σ H s) (hN : X.N.Nodup) (hi : X.N[i]? = some y) (hk : X.env.kindOf y = some .local) (hxy : x ≠ y) (r : RelV v u) (hR : RawAt X x c t s)
    (q : ∀ s', Inv X pins (σ.set i (some v)) H s' → RawAt X x c t s' → Q () s') : wpAny M A (storeName X.env y u) Q E s := by
  obtain ⟨m, hm, hx, h0, ht⟩ := hR
  have hcls : (X.env.scope.kind == .class || (X.env.scope.kind == .module && X.env.locals != X.env.globals)) = false := by rw [I.ok.kind]; rfl
  refine wpAny_storeName_local hk hm (fun h1 hn sb => ?_) hcls
  refine q _ (stored I hN hi hk r hm hn sb) ⟨_, hn, ?_, h0, Nat.lt_succ_of_lt ht⟩
  show (if x = y then _ else _) = _
  rw [if_neg hxy]
  exact hx
/-- the letter itself is stored -/
theorem store_new {M : Model} {A : Around} {E : Value → Shared → Prop} {i : Nat} {x : Str} {c : Nat} {t : Tok} {Q : Unit → Shared → Prop} (I : Inv X pins σ H s) (hN : X.N.Nodup) (hi : X.N[i]? = some x) (hk : X.env.kindOf x = some .local) (h0 : t ≠ 0) (ht : t < s.toks)
    (q : ∀ s', Inv X pins (σ.set i (some (.str (tx [c])))) H s' → RawAt X x c t s' → Q () s') : wpAny M A (storeName X.env x (.str (tx [c]) t)) Q E s := by
  obtain ⟨m, hm, _⟩ := id I.loc
  have hcls : (X.env.scope.kind == .class || (X.env.scope.kind == .module && X.env.locals != X.env.globals)) = false := by rw [I.ok.kind]; rfl
  refine wpAny_storeName_local hk hm (fun h1 hn sb => ?_) hcls
  exact q _ (stored I hN hi hk ⟨t, rfl⟩ hm hn sb) ⟨_, hn, if_pos rfl, h0, Nat.lt_succ_of_lt ht⟩
end
/-! ### judgements that carry the letter -/
def PSsR (X : Cx) (ix : Nat) (x : Str) (st : List Stmt) (t : TS) : Prop :=
  ∀ (pins : List (Addr × Obj)) (s : Shared) (σ : St) (H : Hp) (D : Ends) (c : Nat) (u : Tok), Inv X pins σ H s → σ[ix]? = some (some (.str (tx [c]))) → RawAt X x c u s → t D σ H → wpAny (model X.prog X.w) X.A (execs st X.env) (SP X pins D) X.xe s
section
variable {X : Cx} {ix : Nat} {x : Str} {rest : List Stmt} {u : TS}
theorem PSsR.of (h : PSs X rest u) : PSsR X ix x rest u := fun pins s σ H D _ _ I _ _ q => h.run pins s σ H D I q
/-- y = z + x -/
theorem psr_cat {i j : Nat} {y z : Str} {p0 p1 p2 pb pos : PySem.Pos} (hN : X.N.Nodup) (hi : X.N[i]? = some y) (hj : X.N[j]? = some z) (hx : X.N[ix]? = some x) (ky : X.env.kindOf y = some .local) (kx : X.env.kindOf x = some .local) (vz : Vis X.env.scope z) (hxy : x ≠ y) (h2 : PSsR X ix x rest u)
    (hs : swapsWith (.BinOp (.Name z p1) .Add (.Name x p2) pb) (some (.Name y p0)) pos.line X.env = pure false := by rfl) (dz : (z == ("__debug__" : Str)) = false := by decide) (cz : (z == ("__classdict__" : Str)) = false := by decide) (dx : (x == ("__debug__" : Str)) = false := by decide) :
    PSsR X ix x (.Assign [.Name y p0] (.BinOp (.Name z p1) .Add (.Name x p2) pb) pos :: rest) (tSeq (tAsg (tOp rTAdd (tVar j) (tVar ix)) (gName i)) u) := by
  intro pins s σ H D c t I hσ hR h
  obtain ⟨v1, h1, v2, hv2, a, b, e1, e2, hl, q⟩ := h
  subst e1 e2
  rw [hσ] at hv2
  obtain rfl : [c] = b := by
    injection hv2 with hv2
    injection hv2 with hv2
    injection hv2 with hv2
    exact tx_inj.mp hv2
  obtain ⟨m, hm, hxm, h0, ht⟩ := id hR
  have hne : i ≠ ix := by
    rintro rfl
    rw [hx] at hi
    cases hi
    exact hxy rfl
  have hσ2 : ∀ w : V, (σ.set i (some w))[ix]? = some (some (.str (tx [c]))) := fun w => by
    rw [List.getElem?_set_ne hne]
    exact hσ
  refine wpAny_execs_cons (wpAny_Assign_Name (wpAny_BinOp (raw_name hj vz I h1 (fun w r => ?_) dz cz)) hs)
  obtain ⟨t1, rfl⟩ := r
  refine wpAny_Name (wpAny_loadName_local I.ok.kind kx hm hxm ?_) dx
  refine PySem.P.add_str ?_
  have go : ∀ (w : Value) (s' : Shared), Inv X pins σ H s' → RawAt X x c t s' → RelV (.str (tx (a ++ [c]))) w → wpAny (model X.prog X.w) X.A (storeName X.env y w) (fun _ s2 => wpAny (model X.prog X.w) X.A (execs rest X.env) (SP X pins D) X.xe s2) X.xe s' := fun w s' I' R' r' =>
    store_raw I' hN hi ky hxy r' R' fun s2 I2 R2 => h2 pins s2 _ H D c t I2 (hσ2 _) R2 q
  cases a with
  | nil => exact go _ s I hR ⟨t, rfl⟩
  | cons d r =>
    refine ⟨by rw [tx_app, tx_len, List.length_append]; exact szl hl, go _ _ (I.tok _) ⟨m, hm, hxm, h0, Nat.lt_succ_of_lt ht⟩ ⟨s.toks, by rw [tx_app]⟩⟩
/-- what the callee of text.replace reads -/
def tCut (j ix : Nat) : TE := fun σ H Q => ∃ p q c, σ[j]? = some (some (.str (tx (p ++ c :: q)))) ∧ σ[ix]? = some (some (.str (tx [c]))) ∧ ¬ c ∈ p ∧ (p ++ c :: q).length ≤ 1000000 ∧ Q (.str (tx (p ++ q))) H
theorem raw_after {c : Nat} {t : Tok} {pins : List (Addr × Obj)} {σ : St} {H H' : Hp} {s s' : Shared} (I : Inv X pins σ H s) (un : Un (frs X.stack) [] H H' s.heap s'.heap) (hR : RawAt X x c t s) (hk : s.toks ≤ s'.toks) : RawAt X x c t s' := by
  obtain ⟨m, ⟨o, es, ep, ho, r⟩, hx, h0, ht⟩ := hR
  obtain ⟨sl, hL⟩ := un.any ho I.free (fun z => nomatch z)
  exact ⟨m, ⟨_, es, ep, hL, r⟩, hx, h0, Nat.lt_of_lt_of_le ht hk⟩
/-- y = without_first(z, x) -/
theorem psr_cut {CX : CXT} {k : Nat} {f : Addr} {E : XK} {i j : Nat} {fx y z : Str} {p0 p1 p2 pf cpos pos : PySem.Pos} (R : CutRun X.prog X.w X.K X.mg X.base CX k f) (hr : Room k X.A) (hp : Passes CX X E) (hg : Gl X fx) (hm : X.mg fx = some (.ref f)) (hk : PySem.W.keepIn X.K (.ref f) = true)
    (hN : X.N.Nodup) (hi : X.N[i]? = some y) (hj : X.N[j]? = some z) (hx : X.N[ix]? = some x) (ky : X.env.kindOf y = some .local) (kx : X.env.kindOf x = some .local) (vz : Vis X.env.scope z) (hxy : x ≠ y) (h2 : PSsR X ix x rest u)
    (hs : swapsWith (.Call (.Name fx pf) [.Name z p1, .Name x p2] [] cpos) (some (.Name y p0)) pos.line X.env = pure false := by rfl) (df : (fx == ("__debug__" : Str)) = false := by decide) (dz : (z == ("__debug__" : Str)) = false := by decide) (cz : (z == ("__classdict__" : Str)) = false := by decide) (dx : (x == ("__debug__" : Str)) = false := by decide) :
    PSsR X ix x (.Assign [.Name y p0] (.Call (.Name fx pf) [.Name z p1, .Name x p2] [] cpos) pos :: rest) (tSeq (tAsg (tCut j ix) (gName i)) u) := by
  intro pins s σ H D c t I hσ hR h
  obtain ⟨a, b, c', h1, hc', ha, hl, q⟩ := h
  rw [hσ] at hc'
  obtain rfl : c = c' := by
    injection hc' with hc'
    injection hc' with hc'
    injection hc' with hc'
    have := tx_inj.mp hc'
    injection this
  obtain ⟨m, hm', hxm, h0, ht⟩ := id hR
  have hne : i ≠ ix := by
    rintro rfl
    rw [hx] at hi
    cases hi
    exact hxy rfl
  refine wpAny_execs_cons (wpAny_Assign_Name (wpAny_Call_Name_kw (ld_glob I hg hm ?_ df)) hs)
  refine PySem.W.callWith_K (h₀ := X.base) I.ok.mod.kin hk ?_ rfl rfl
  show wpAny _ _ (spliced ((false, eval (.Name z p1) X.env) :: backTo cpos (starEach [.Name x p2] X.env))) _ _ s
  refine Calls.spliced_cons (raw_name hj vz I h1 (fun w r => ?_) dz cz)
  obtain ⟨t1, rfl⟩ := r
  show wpAny _ _ (spliced ((false, eval (.Name x p2) X.env) :: backTo cpos (starEach [] X.env))) _ _ s
  refine Calls.spliced_cons (wpAny_Name (wpAny_loadName_local I.ok.kind kx hm' hxm ?_) dx)
  refine Calls.spliced_nil ⟨I.kIn, ?_⟩
  refine wpAny_mono (PySem.wpAny_toks (wpAny_call (Q := fun w s' => CE X.stack X.prog X.w H s (fun v H' => u D (σ.set i (some v)) H') w s') (E := X.xe) (codeAny_mono (R X.A X.stack s H a b c t1 t (fun v H' => u D (σ.set i (some v)) H') E hr I.env0 h0 ht ha hl q) fun r s' hq => ?_))) (fun w s' hh => ?_) fun _ _ z => z.2
  · cases r with
    | error e => exact hp pins σ H _ e s' I hq
    | ok fl =>
      cases fl with
      | ret w => exact hq
      | next => exact False.elim hq
      | brk => exact False.elim hq
      | cont => exact False.elim hq
  · obtain ⟨hkt, ce⟩ := hh
    have R2 : RawAt X x c t s' := by
      obtain ⟨v, H', _, _, un, _⟩ := id ce
      exact raw_after I un hR hkt
    obtain ⟨v, H', I2, rv, q2⟩ := I.after ce
    exact store_raw I2 hN hi ky hxy rv R2 fun s2 I3 R3 => h2 pins s2 _ H' D c t I3 (by rw [List.getElem?_set_ne hne]; exact hσ) R3 q2
/-- while, one token out -/
theorem pst_while {c : Expr} {body : List Stmt} {tc : TT} {tb : TS} {pos : PySem.Pos} (hp : PassesOwn (model X.prog X.w) X.A X.env X.xe) (hc : PT X c tc) (hb : PSsT X body tb) : PST X (.While c body [] pos) (tWhile tc tb) := by
  intro pins s σ H D h0 I h
  obtain ⟨W, ⟨m0, w0⟩, turn⟩ := h
  refine wpAny_While (codeAny_whileLoop (fun n s' => 1 ≤ s'.toks ∧ ∃ σ' H', Inv X pins σ' H' s' ∧ W n σ' H') ?_ m0 ⟨h0, σ, H, I, w0⟩)
  rintro n s1 ⟨t1, σ1, H1, I1, w1⟩
  refine wpAny_passesOwn hp (wpAny_mono (PySem.wpAny_toks_of t1 (hc.run pins s1 σ1 H1 _ I1 (turn n σ1 H1 w1))) (fun b s2 hh => ?_) fun _ _ z => z.2)
  obtain ⟨t2, H2, I2, q2⟩ := hh
  cases b with
  | false =>
    rw [if_neg Bool.false_ne_true]
    exact wpAny_execs_nil ⟨σ1, H2, I2, q2⟩
  | true =>
    obtain ⟨N, again, q2⟩ := q2
    rw [if_pos rfl]
    refine wpAny_passesOwn hp (wpAny_mono (PySem.wpAny_toks_of t2 (hb pins s2 σ1 H2 _ t2 I2 q2)) (fun f s3 hh => ?_) fun _ _ z => z.2)
    obtain ⟨t3, q3⟩ := hh
    have on : (∃ σ' H', Inv X pins σ' H' s3 ∧ N σ' H') → ∃ m, m < n ∧ 1 ≤ s3.toks ∧ ∃ σ' H', Inv X pins σ' H' s3 ∧ W m σ' H' := fun ⟨σ3, H3, I3, n3⟩ => by
      obtain ⟨m, hm, w3⟩ := again σ3 H3 n3
      exact ⟨m, hm, t3, σ3, H3, I3, w3⟩
    cases f with
    | next => exact on q3
    | cont => exact on q3
    | brk => exact q3
    | ret v => exact q3
/-- the next letter of a text: its token is new -/
theorem next_letter {prog : Program} {w : World} {A : Around} {E : Value → Shared → Prop} {s : Shared} {it : Addr} {xs : Str} {t : Tok} {i c : Nat} {ty : String} {Q : Option Value → Shared → Prop} (hty : ty = "str_ascii_iterator" ∨ ty = "str_iterator") (hit : s.heap.IsStrIter it ty xs t i) (hx : xs.cps[i]? = some c)
    (hQ : ∀ h', h'.IsStrIter it ty xs t (i + 1) → Heap.SameBut it s.heap h' → Q (some (.str ⟨#[c]⟩ s.toks)) { s with heap := h', toks := s.toks + 1 }) : wpAny (model prog w) A (pyNext (.ref it)) Q E s := by
  rcases hty with e | e
  · subst e
    exact PySem.wpAny_pyNext_ascii_item hit hx hQ
  · subst e
    exact PySem.wpAny_pyNext_wide_item hit hx hQ
/-- the walk over a text, its iterator laid -/
theorem letters_go {p0 : PySem.Pos} {body : List Stmt} {tb : TS} {pins : List (Addr × Obj)} {s : Shared} {σ : St} {H : Hp} {D : Ends} {xs : Str} {t : Tok} {ty : String} {it : Addr} (hp : PassesOwn (model X.prog X.w) X.A X.env X.xe) (hc : X.calm = true) (hN : X.N.Nodup) (hx : X.N[ix]? = some x) (kx : X.env.kindOf x = some .local)
    (hb : PSsR X ix x body tb) (hty : ty = "str_ascii_iterator" ∨ ty = "str_iterator") (I : Inv X pins σ H s) (h0 : 1 ≤ s.toks) (fr : FpOk X pins H it) (st : s.heap.IsStrIter it ty xs t 0)
    (h : ∃ W : Nat → Nat → St → Hp → Prop, (∃ m, W 0 m σ H) ∧ ∀ i m σ H, W i m σ H → ((Its xs).stop i H ∧ D.nx σ H) ∨ ((Its xs).go i H ∧ ∃ N : St → Hp → Prop, (∀ σ' H', N σ' H' → ∃ m', m' < m ∧ W (i + 1) m' σ' H') ∧ ∀ v H', (Its xs).yld i H v H' → gName ix v σ H' fun σ2 H2 => tb { D with nx := N, ct := N, bk := D.nx } σ2 H2)) :
    codeAny (model X.prog X.w) X.A (.forLoop (.Name x p0) (.ref it) body [] X.env) (fun r s' => match r with | .ok f => SP X pins D f s' | .error e => cameBackBy (model X.prog X.w) X.A X.env X.xe e s') s := by
  obtain ⟨W, ⟨m0, w0⟩, turn⟩ := h
  have T := turn_str (P := X.prog) (w := X.w) (K := X.K) (tg := .Name x p0) it xs t ty hty
  have only : ∀ {H' : Hp}, H' it = none → ∀ b ∈ [it], FpOk X pins H' b := fun {H'} hn b hb => by
    obtain rfl : b = it := by simpa using hb
    exact ⟨hn, fr.2⟩
  have hno : ["enumerate", "zip", "dict_itemiterator", "dict_reverseitemiterator", "odict_iterator", "itertools.zip_longest", "itertools.pairwise"].contains ty = false := by rcases hty with e | e <;> (subst e; decide)
  refine codeAny_forLoop_any (fun n s' => 1 ≤ s'.toks ∧ ∃ i σ' H', Inv X pins σ' H' s' ∧ s'.heap.IsStrIter it ty xs t i ∧ H' it = none ∧ W i n σ' H') ?_ m0 ⟨h0, 0, σ, H, I, st, fr.1, w0⟩
  rintro n s3 ⟨t3, i, σ3, H3, I3, st3, fr3, w3⟩
  rcases turn i n σ3 H3 w3 with ⟨stop, qn⟩ | ⟨go, N, again, step⟩
  · refine wpAny_passesOwn hp (thn (T.done X rfl rfl rfl hc i pins s3 σ3 H3 X.xe I3 (only fr3) st3 stop) fun r s4 hr => ?_)
    obtain ⟨rfl, I4⟩ := hr
    exact wpAny_execs_nil ⟨σ3, H3, I4, qn⟩
  · have hcx : xs.cps[i]? = some xs.cps[i] := Array.getElem?_eq_getElem go
    refine wpAny_passesOwn hp (next_letter hty st3 hcx fun h' st4 sb => ?_)
    obtain ⟨f0, f1, f2, f3, f4, f5⟩ := only fr3 it (by simp)
    have I4 : Inv X pins σ3 H3 { s3 with heap := h', toks := s3.toks + 1 } := I3.turned (fun b o hb e => (sb.2 b hb).trans e) f0 f1 f3 f4 f5
    obtain ⟨o4, e4, c4, d4⟩ := id st4
    refine wpAny_passesOwn hp (go_of (s := { s3 with heap := h', toks := s3.toks + 1 }) e4 c4 d4 hno ?_)
    have I5 := I4.pinned (only fr3) (T.obj _ _ st4)
    have q := step (.str ⟨#[xs.cps[i]]⟩) H3 ⟨rfl, _, hcx, rfl⟩
    refine wpAny_passesOwn hp (wpAny_assign_Name (store_new (c := xs.cps[i]) I5 hN hx kx (Nat.ne_of_gt t3) (Nat.lt_succ_self _) fun s6 I6 R6 => ?_))
    have hσ6 : (σ3.set ix (some (.str (tx [xs.cps[i]]))))[ix]? = some (some (.str (tx [xs.cps[i]]))) := List.getElem?_set_self (by rw [I3.len]; exact (List.getElem?_eq_some_iff.mp hx).1)
    have t6 : 1 ≤ s6.toks := by
      obtain ⟨_, _, _, _, z⟩ := R6
      exact Nat.lt_of_le_of_lt (Nat.zero_le _) z
    refine wpAny_passesOwn hp (wpAny_mono (PySem.wpAny_toks_of t6 (hb _ s6 _ H3 _ _ _ I6 hσ6 R6 q)) (fun f s7 hh => ?_) fun _ _ z => z.2)
    obtain ⟨t7, q7⟩ := hh
    have on : (∃ σ' H', Inv X (pins ++ pinsAt [it] h') σ' H' s7 ∧ N σ' H') → ∃ m, m < n ∧ 1 ≤ s7.toks ∧ ∃ i σ' H', Inv X pins σ' H' s7 ∧ s7.heap.IsStrIter it ty xs t i ∧ H' it = none ∧ W i m σ' H' := fun ⟨σ7, H7, I7, n7⟩ => by
      obtain ⟨m, hm, w7⟩ := again σ7 H7 n7
      have hpin := fun b hb o (e : Heap.get? h' b = some o) => I7.pin (b, o) (List.mem_append_right _ (List.mem_append_right _ (mem_pinsAt (fp := [it]) hb e)))
      exact ⟨m, hm, t7, i + 1, σ7, H7, I7.unpinned, T.keep _ _ _ st4 fun b hb o e => (hpin b hb o e).1, (hpin it (by simp) o4 e4).2.1, w7⟩
    cases f with
    | next => exact on q7
    | cont => exact on q7
    | brk =>
      obtain ⟨σ7, H7, I7, q7⟩ := q7
      exact ⟨σ7, H7, I7.unpinned, q7⟩
    | ret v =>
      obtain ⟨x7, σ7, H7, I7, r7, q7⟩ := q7
      exact ⟨x7, σ7, H7, I7.unpinned, r7, q7⟩
/-- for x in text: .., the letter's token carried -/
theorem pst_letters {p0 pos : PySem.Pos} {iter : Expr} {te : TE} {body : List Stmt} {tb : TS} (hp : PassesOwn (model X.prog X.w) X.A X.env X.xe) (hc : X.calm = true) (hN : X.N.Nodup) (hx : X.N[ix]? = some x) (kx : X.env.kindOf x = some .local) (he : PE X iter te) (hb : PSsR X ix x body tb)
    (hs : ∀ v, foldedSetIterable iter X.env v = pure v := by intro _; rfl) : PST X (.For (.Name x p0) iter body [] pos) (tFor (iStr te) (gName ix) tb) := by
  intro pins s σ H D h0 I h
  refine wpAny_For (wpAny_mono (PySem.wpAny_toks_of h0 (he.run pins s σ H _ I h)) (fun v s1 hh => ?_) fun _ _ z => z.2) hs
  obtain ⟨t1, y, H1, I1, r1, xs, rfl, q⟩ := hh
  obtain ⟨t, rfl⟩ := r1
  have hf : H1 s1.heap.objs.size = none := I1.hok.fresh (Nat.le_refl _)
  cases ha : xs.cps.all (· < 128)
  · refine wpAny_pyIter_wide ha ?_
    exact letters_go (ty := "str_iterator") hp hc hN hx kx hb (.inr rfl) (I1.kept fun b o e => Heap.get?_push_of_some _ e) t1 (I1.fpOk (Nat.le_refl _) hf) ⟨_, Heap.get?_push_size _ rfl, rfl, rfl⟩ q
  · refine wpAny_pyIter_ascii ha ?_
    exact letters_go (ty := "str_ascii_iterator") hp hc hN hx kx hb (.inl rfl) (I1.kept fun b o e => Heap.get?_push_of_some _ e) t1 (I1.fpOk (Nat.le_refl _) hf) ⟨_, Heap.get?_push_size _ rfl, rfl, rfl⟩ q
end
end Cw
set_option Elab.async false
set_option linter.all false
set_option maxRecDepth 100000
set_option maxHeartbeats 4000000
/-! the middle lies between -/
namespace Cw
section
variable {f : Nat → List Nat} {ls : List Nat} {s : Nat}
def Btw (f : Nat → List Nat) (a b M : List Nat) : Prop := (wayC f a M).length + (wayC f M b).length = (wayC f a b).length
theorem share_btw (ok : CrOk f) {a b fd u' : List Nat} (h : ∀ g, act f (wayC f a b) g = act f (fd ++ u') g) (l : fd.length + u'.length = (wayC f a b).length) : Btw f a b (nameOf f (a ++ fd)) := by
  have e1 : wayC f a (nameOf f (a ++ fd)) = nameOf f fd := name_eq ok fun g => by rw [act_app, name_act ok, act_app, act_rev ok]
  have e2 : wayC f (nameOf f (a ++ fd)) b = nameOf f u' := name_eq ok fun g => by
    have e := h g
    unfold wayC at e
    rw [name_act ok, act_app, act_app] at e
    rw [act_app, act_of_name ok, List.reverse_append, act_app, e, act_rev ok]
  have t := way_tri ok a b (nameOf f (a ++ fd))
  have l1 : (nameOf f fd).length ≤ fd.length := name_len f fd
  have l2 : (nameOf f u').length ≤ u'.length := name_len f u'
  unfold Btw
  rw [e1, e2] at t ⊢
  omega
/-- the middle, between the first room and the others -/
structure MidX (f : Nat → List Nat) (ls a b c M : List Nat) : Prop extends Mid f ls a b c M where
  ab : Btw f a b M
  ac : Btw f a c M
theorem midx_of (hn : ls.Nodup) (ok : CrOk f) {a b c fd u' v' : List Nat} (ma : ∀ y ∈ a, y ∈ ls) (mb : ∀ y ∈ b, y ∈ ls) (mc : ∀ y ∈ c, y ∈ ls) (h : Share f ls (wayC f a b) (wayC f a c) fd u' v') (hd : ∀ t ∈ ls, ¬ (desc f t u' ∧ desc f t v')) : MidX f ls a b c (nameOf f (a ++ fd)) :=
  ⟨mid_of hn ok ma mb mc h hd, share_btw ok h.au h.lu, share_btw ok h.av h.lv⟩
end
end Cw
set_option Elab.async false
set_option linter.all false
set_option maxRecDepth 100000
set_option maxHeartbeats 4000000
/-! two rooms with a common beginning: when walls cross, the kinds do -/
namespace Cw
open PySem PySem.Spec L2
section
variable {f : Nat → List Nat} {ls : List Nat}
/-- a way whose letters bear nought changes nothing -/
theorem act_still {g : Nat → Int} {s : Nat} : ∀ {w : List Nat}, (∀ y ∈ w, g y = 0) → act f w g s = g s := by
  have key : ∀ (w : List Nat), (∀ y ∈ w, g y = 0) → ∀ e, act f w g e = g e := by
    intro w
    induction w with
    | nil => intro _ e; rfl
    | cons c r ih =>
      intro h e
      have i := ih fun y hy => h y (List.mem_cons_of_mem _ hy)
      have hc : act f r g c = 0 := (i c).trans (h c (List.mem_cons_self ..))
      show thr f c (act f r g) e = g e
      unfold thr
      split
      · rename_i he
        subst he
        rw [hc, h e (List.mem_cons_self ..)]
        rfl
      · split
        · exact i e
        · rw [hc, i e]
          omega
  exact fun {w} h => key w h s
theorem act_many (ok : CrOk f) {v : List Nat} : ∀ {u : List Nat}, (∀ a ∈ u, ∀ b ∈ v, a ∈ f b) → ∀ g, act f (u ++ v) g = act f (v ++ u) g
  | [], _, g => by rw [List.append_nil]; rfl
  | c :: r, h, g => by
    have ih := act_many ok (v := v) (u := r) (fun a ha => h a (List.mem_cons_of_mem _ ha)) g
    show thr f c (act f (r ++ v) g) = _
    rw [ih, act_app, act_app]
    show _ = act f v (thr f c (act f r g))
    exact (act_comm ok fun y hy => ok.sym _ _ (h c (List.mem_cons_self ..) y hy)).symm
/-- the product of two walls of ways from one room, once what lies ahead crosses -/
theorem prod_step (hn : ls.Nodup) (ok : CrOk f) {M p q : List Nat} {s t : Nat} (mM : ∀ y ∈ M, y ∈ ls) (mp : ∀ y ∈ p, y ∈ ls) (mq : ∀ y ∈ q, y ∈ ls) (hs : s ∈ ls) (ht : t ∈ ls) (h1 : ∀ a ∈ p, ∀ b ∈ q, a ∈ f b) (h2 : ∀ a ∈ p, a ∈ f t) (h3 : ∀ b ∈ q, s ∈ f b) :
    prodV f ls (mark f (M ++ p).reverse s) (mark f (M ++ q).reverse t) = bt f t s := by
  have mMp : ∀ y ∈ M ++ p, y ∈ ls := fun y hy => (List.mem_append.mp hy).elim (mM y) (mp y)
  have mMq : ∀ y ∈ M ++ q, y ∈ ls := fun y hy => (List.mem_append.mp hy).elim (mM y) (mq y)
  rw [prod_act hn ok mMp mMq hs ht]
  have e : act f ((M ++ p).reverse ++ (M ++ q)) (bt f t) = act f p.reverse (act f q (bt f t)) := by
    rw [act_app, List.reverse_append, act_app, act_app M q, act_rev ok]
  rw [e]
  have hq : ∀ c, (∀ b ∈ q, c ∈ f b) → act f q (bt f t) c = bt f t c := fun c hc => by
    have := mark_along (f := f) (s := c) ok (g := bt f t) (v := []) (u := q) fun y hy => ok.sym _ _ (hc y hy)
    rwa [List.append_nil] at this
  rw [act_still fun y hy => ?_]
  · exact hq s h3
  · have hy := List.mem_reverse.mp hy
    rw [hq y (h1 y hy)]
    exact bt_in ok (h2 y hy)
theorem bt_zero (ok : CrOk f) {s t : Nat} : bt f t s = 0 ↔ s ∈ f t := by
  constructor
  · intro h
    by_cases e : s = t
    · rw [e, bt_self] at h
      cases h
    · by_cases c : s ∈ f t
      · exact c
      · rw [bt_out e c] at h
        cases h
  · exact bt_in ok
/-- all walls of two ways cross just if all their letters do -/
theorem all_cross (hn : ls.Nodup) (ok : CrOk f) {M u v : List Nat} (mM : ∀ y ∈ M, y ∈ ls) (mu : ∀ y ∈ u, y ∈ ls) (mv : ∀ y ∈ v, y ∈ ls) :
    (∀ i, i < u.length → ∀ j, j < v.length → prodV f ls (mark f (M ++ u.take i).reverse (u.getD i 0)) (mark f (M ++ v.take j).reverse (v.getD j 0)) = 0) ↔ ∀ a ∈ u, ∀ b ∈ v, a ∈ f b := by
  have tk : ∀ {w : List Nat} {n : Nat} {y : Nat}, y ∈ w.take n → ∃ k, k < n ∧ k < w.length ∧ y = w.getD k 0 := fun {w n y} hy => by
    obtain ⟨k, hk, rfl⟩ := List.getElem_of_mem hy
    rw [List.length_take] at hk
    refine ⟨k, by omega, by omega, ?_⟩
    rw [List.getElem_take, List.getD_eq_getElem?_getD, List.getElem?_eq_getElem (by omega)]
    rfl
  have key : ∀ i j, i < u.length → j < v.length → (∀ i' j', i' ≤ i → j' ≤ j → ¬ (i' = i ∧ j' = j) → u.getD i' 0 ∈ f (v.getD j' 0)) → prodV f ls (mark f (M ++ u.take i).reverse (u.getD i 0)) (mark f (M ++ v.take j).reverse (v.getD j 0)) = bt f (v.getD j 0) (u.getD i 0) := fun i j hi hj h => by
    refine prod_step hn ok mM (fun y hy => mu y (List.mem_of_mem_take hy)) (fun y hy => mv y (List.mem_of_mem_take hy)) (mu _ (getD_in hi)) (mv _ (getD_in hj)) (fun a ha b hb => ?_) (fun a ha => ?_) fun b hb => ?_
    · obtain ⟨k, k1, k2, rfl⟩ := tk ha
      obtain ⟨l, l1, l2, rfl⟩ := tk hb
      exact h k l (by omega) (by omega) (by omega)
    · obtain ⟨k, k1, k2, rfl⟩ := tk ha
      exact h k j (by omega) (by omega) (by omega)
    · obtain ⟨l, l1, l2, rfl⟩ := tk hb
      exact h i l (by omega) (by omega) (by omega)
  constructor
  · intro h
    have all : ∀ n i j, i + j = n → i < u.length → j < v.length → u.getD i 0 ∈ f (v.getD j 0) := by
      intro n
      induction n using Nat.strongRecOn with
      | ind n ih =>
        intro i j e hi hj
        refine (bt_zero ok).mp ?_
        rw [← key i j hi hj fun i' j' h1 h2 h3 => ih (i' + j') (by omega) i' j' rfl (by omega) (by omega)]
        exact h i hi j hj
    intro a ha b hb
    obtain ⟨i, hi, rfl⟩ := List.getElem_of_mem ha
    obtain ⟨j, hj, rfl⟩ := List.getElem_of_mem hb
    have := all _ i j rfl hi hj
    rw [List.getD_eq_getElem?_getD, List.getD_eq_getElem?_getD, List.getElem?_eq_getElem hi, List.getElem?_eq_getElem hj] at this
    exact this
  · intro h i hi j hj
    rw [key i j hi hj fun i' j' h1 h2 _ => h _ (getD_in (by omega)) _ (getD_in (by omega))]
    exact bt_in ok (h _ (getD_in hi) _ (getD_in hj))
/-- the way through all three is a shortest one -/
theorem red_both (ok : CrOk f) {M u v : List Nat} (r1 : Red f (M ++ u)) (r2 : Red f (M ++ v)) (h : ∀ a ∈ u, ∀ b ∈ v, a ∈ f b) : Red f (M ++ u ++ v) := by
  rw [Red_iff]
  intro p s m q e hm
  have irr : ∀ c, ¬ c ∈ f c := fun c hc => ok.irr c hc
  have e' : M ++ u ++ v = (p ++ s :: m) ++ (s :: q) := by rw [e]; simp
  have two : (∃ x, p ++ s :: m = M ++ u ++ x ∧ v = x ++ s :: q) ∨ ∃ x, M ++ u = p ++ s :: (m ++ s :: x) := by
    rcases List.append_eq_append_iff.mp e' with ⟨x, e1, e2⟩ | ⟨x, e1, e2⟩
    · exact .inl ⟨x, e1, e2⟩
    · cases x with
      | nil => exact .inl ⟨[], by rw [e1]; simp, by rw [e2]; rfl⟩
      | cons s' x =>
        have g : s :: q = s' :: (x ++ v) := e2
        injection g with a b
        subst a
        exact .inr ⟨x, by rw [e1]; simp⟩
  rcases two with ⟨x, e1, e2⟩ | ⟨x, e1⟩
  · have hsv : s ∈ v := by rw [e2]; simp
    rcases List.append_eq_append_iff.mp e1 with ⟨y, f1, f2⟩ | ⟨y, f1, f2⟩
    · -- M ++ u = p ++ y, s :: m = y ++ x
      cases y with
      | nil =>
        have f2 : s :: m = x := f2
        refine Red_iff.mp r2 M s m q ?_ hm
        rw [e2, ← f2]
        simp
      | cons s' y =>
        have g : s :: m = s' :: (y ++ x) := f2
        injection g with a f3
        subst a
        rcases List.append_eq_append_iff.mp f1 with ⟨z, g1, g2⟩ | ⟨z, g1, g2⟩
        · -- p = M ++ z, u = z ++ s :: y
          have hsu : s ∈ u := by rw [g2]; simp
          exact irr s (h s hsu s hsv)
        · -- M = p ++ z, s :: y = z ++ u
          cases z with
          | nil =>
            have g2 : s :: y = u := g2
            have hsu : s ∈ u := by rw [← g2]; simp
            exact irr s (h s hsu s hsv)
          | cons s'' z =>
            have g : s :: y = s'' :: (z ++ u) := g2
            injection g with a g3
            subst a
            refine Red_iff.mp r2 p s (z ++ x) q ?_ fun c hc => hm c ?_
            · rw [g1, e2]
              simp
            · rw [f3, g3]
              simp only [List.mem_append] at hc ⊢
              rcases hc with hc | hc
              · exact .inl (.inl hc)
              · exact .inr hc
    · -- p = M ++ u ++ y, x = y ++ s :: m
      refine Red_iff.mp r2 (M ++ y) s m q ?_ hm
      rw [e2, f2]
      simp
  · exact Red_iff.mp r1 p s m x e1 hm
end
end Cw
set_option Elab.async false
set_option linter.all false
set_option maxRecDepth 100000
set_option maxHeartbeats 4000000
/-! the gate of rooms, seen from a room -/
namespace Cw
section
variable {f : Nat → List Nat} {ls : List Nat}
structure Gate (f : Nat → List Nat) (ls : List Nat) (r : List Nat) (S : List (List Nat)) (N : List Nat) : Prop where
  nf : NF f N
  mem : ∀ y ∈ N, y ∈ ls
  ne : S ≠ []
  by' : ∀ z, (∀ y ∈ z, y ∈ ls) → ∀ s ∈ ls, (Ng f ls (z ++ N) s ↔ (Ng f ls (z ++ r) s ∧ ∃ x ∈ S, Ng f ls (z ++ x) s) ∨ ∀ x ∈ S, Ng f ls (z ++ x) s)
  bt : ∀ x ∈ S, Btw f r x N
theorem btw_end (ok : CrOk f) {a b : List Nat} : Btw f a b b := by
  unfold Btw
  rw [way_self ok]
  rfl
theorem Gate.one (ok : CrOk f) {r x : List Nat} (nx : NF f x) (mx : ∀ y ∈ x, y ∈ ls) : Gate f ls r [x] x where
  nf := nx
  mem := mx
  ne := by simp
  by' z hz s hs := by simp
  bt y hy := by rw [List.mem_singleton.mp hy]; exact btw_end ok
theorem Gate.step (ok : CrOk f) {r N x N' : List Nat} {S : List (List Nat)} (h : Gate f ls r S N) (m : MidX f ls r N x N') : Gate f ls r (S ++ [x]) N' where
  nf := m.nf
  mem := m.mem
  ne := by simp
  by' z hz s hs := by
    rw [m.by' z hz s hs, h.by' z hz s hs]
    obtain ⟨y, S', e⟩ : ∃ y S', S = y :: S' := by
      cases hS : S with
      | nil => exact absurd hS h.ne
      | cons y S' => exact ⟨y, S', rfl⟩
    have ex : (∀ x ∈ S, Ng f ls (z ++ x) s) → ∃ x ∈ S, Ng f ls (z ++ x) s := fun a => ⟨y, by rw [e]; exact List.mem_cons_self .., a y (by rw [e]; exact List.mem_cons_self ..)⟩
    simp only [List.mem_append, List.mem_singleton]
    have e1 : (∃ w, (w ∈ S ∨ w = x) ∧ Ng f ls (z ++ w) s) ↔ (∃ w ∈ S, Ng f ls (z ++ w) s) ∨ Ng f ls (z ++ x) s := by
      constructor
      · rintro ⟨w, a | rfl, b⟩
        · exact .inl ⟨w, a, b⟩
        · exact .inr b
      · rintro (⟨w, a, b⟩ | b)
        · exact ⟨w, .inl a, b⟩
        · exact ⟨x, .inr rfl, b⟩
    have e2 : (∀ w, (w ∈ S ∨ w = x) → Ng f ls (z ++ w) s) ↔ (∀ w ∈ S, Ng f ls (z ++ w) s) ∧ Ng f ls (z ++ x) s := ⟨fun a => ⟨fun w hw => a w (.inl hw), a x (.inr rfl)⟩, fun a w hw => hw.elim (a.1 w) fun z => z ▸ a.2⟩
    rw [e1, e2]
    generalize (∃ w ∈ S, Ng f ls (z ++ w) s) = EX at *
    generalize (∀ w ∈ S, Ng f ls (z ++ w) s) = AL at *
    generalize Ng f ls (z ++ r) s = R
    generalize Ng f ls (z ++ x) s = X
    by_cases R <;> by_cases X <;> by_cases EX <;> by_cases AL <;> simp_all
  bt y hy := by
    rcases List.mem_append.mp hy with hy | hy
    · have h1 := h.bt y hy
      have h2 := m.ab
      have t1 := way_tri ok r y N'
      have t2 := way_tri ok N' y N
      unfold Btw at *
      omega
    · rw [List.mem_singleton.mp hy]
      exact m.ac
theorem Gate.uniq (ok : CrOk f) {r N N' : List Nat} {S S' : List (List Nat)} (h : Gate f ls r S N) (h' : Gate f ls r S' N') (e : ∀ x, x ∈ S ↔ x ∈ S') : N = N' := by
  refine room_uniq ok h.nf h'.nf h.mem h'.mem fun s hs z => ?_
  have hz : ∀ y ∈ N.reverse, y ∈ ls := fun y hy => h.mem y (List.mem_reverse.mp hy)
  rw [h'.by' _ hz s hs] at z
  simp only [← e] at z
  exact ng_back ok N s ((h.by' _ hz s hs).mpr z)
theorem Gate.door (ok : CrOk f) {r N : List Nat} {S : List (List Nat)} (h : Gate f ls r S N) {s : Nat} (hs : s ∈ ls) : ∃ x ∈ S, ¬ Ng f ls (N.reverse ++ x) s := by
  refine Classical.byContradiction fun n => ?_
  have hz : ∀ y ∈ N.reverse, y ∈ ls := fun y hy => h.mem y (List.mem_reverse.mp hy)
  exact ng_back ok N s ((h.by' _ hz s hs).mpr (.inr fun x hx => Classical.byContradiction fun m => n ⟨x, hx, m⟩))
/-- the gate is its own gate -/
theorem Gate.self (ok : CrOk f) {r N N' : List Nat} {S : List (List Nat)} (h : Gate f ls r S N) (h' : Gate f ls N S N') : N' = N := by
  refine (room_uniq ok h.nf h'.nf h.mem h'.mem fun s hs z => ?_).symm
  have hz : ∀ y ∈ N.reverse, y ∈ ls := fun y hy => h.mem y (List.mem_reverse.mp hy)
  rw [h'.by' _ hz s hs] at z
  obtain ⟨x, hx, n⟩ := h.door ok hs
  rcases z with z | z
  · exact ng_back ok N s z.1
  · exact n (z x hx)
end
end Cw
set_option Elab.async false
set_option linter.all false
set_option maxRecDepth 100000
set_option maxHeartbeats 4000000
/-! rooms with weights: where no door leads to a lesser total, the total is told by the walls -/
namespace Cw
section
variable {f : Nat → List Nat} {ls : List Nat}
/-- the rooms and their weights -/
structure Wts (f : Nat → List Nat) (ls : List Nat) (P : List (List Nat × Int)) : Prop where
  ne : P ≠ []
  nf : ∀ a ∈ P, NF f a.1
  mem : ∀ a ∈ P, ∀ c ∈ a.1, c ∈ ls
  pos : ∀ a ∈ P, 0 < a.2
theorem wayB_mem {u v : List Nat} (hu : ∀ y ∈ u, y ∈ ls) (hv : ∀ y ∈ v, y ∈ ls) : ∀ y ∈ wayC f u v, y ∈ ls := fun y hy => by
  rcases List.mem_append.mp (name_mem hy) with z | z
  · exact hu y (List.mem_reverse.mp z)
  · exact hv y z
end
end Cw
set_option Elab.async false
set_option linter.all false
set_option maxRecDepth 100000
set_option maxHeartbeats 4000000
/-! the least total, wall by wall -/
namespace Cw
section
variable {f : Nat → List Nat} {ls : List Nat}
end
end Cw
set_option Elab.async false
set_option linter.all false
set_option maxRecDepth 100000
set_option maxHeartbeats 4000000
/-! going from door to door: paths, pulls, the one centre -/
namespace Cw
section
variable {f : Nat → List Nat} {ls : List Nat}
theorem red_len (ok : CrOk f) {w : List Nat} (mw : ∀ y ∈ w, y ∈ ls) (h : Red f w) : (nameOf f w).length = w.length := by
  have key : ∀ (n : Nat) (w : List Nat), w.length = n → (∀ y ∈ w, y ∈ ls) → Red f w → (nameOf f w).length = w.length := by
    intro n
    induction n with
    | zero =>
      intro w hl _ _
      rw [List.length_eq_zero_iff.mp hl]
      rfl
    | succ n ih =>
      intro w hl mw h
      rcases List.eq_nil_or_concat w with rfl | ⟨v, k, rfl⟩
      · rfl
      rw [List.concat_eq_append] at *
      have hv := Red_left h
      have mv : ∀ y ∈ v, y ∈ ls := fun y hy => mw y (List.mem_append_left _ hy)
      have mk : k ∈ ls := mw k (List.mem_append_right _ (List.mem_singleton_self k))
      have i := ih v (by simpa using hl) mv hv
      have nd : ¬ desc f k v.reverse := by
        have := h.rev
        rw [List.reverse_append] at this
        exact this.1
      have nd2 : ¬ desc f k (nameOf f v).reverse := fun d => nd <| by
        have mvr : ∀ y ∈ v.reverse, y ∈ ls := fun y hy => mv y (List.mem_reverse.mp hy)
        have mnr : ∀ y ∈ (nameOf f v).reverse, y ∈ ls := fun y hy => mv y (name_mem (List.mem_reverse.mp hy))
        refine (ng_desc ok hv.rev mvr mk).mp ((ng_act (fun g => ?_) k).mp ((ng_desc ok (name_NF ok v).red.rev mnr mk).mpr d))
        exact act_rev_eq ok (name_act ok v) g
      have e : nameOf f (v ++ [k]) = stepOf (f k) (nameOf f v) k := by
        show joinC f [] (v ++ [k]) = _
        rw [joinC_app]
        rfl
      rw [e, (step_len_desc ok (nameOf f v) k).2 nd2, i, List.length_append]
      rfl
  exact key _ w rfl mw h
/-- a shortest way from room to room -/
structure PathTo (f : Nat → List Nat) (ls x y p : List Nat) : Prop where
  red : Red f p
  mem : ∀ c ∈ p, c ∈ ls
  act' : ∀ g, act f p g = act f (x.reverse ++ y) g
theorem PathTo.start (ok : CrOk f) {x y : List Nat} (mx : ∀ c ∈ x, c ∈ ls) (my : ∀ c ∈ y, c ∈ ls) : PathTo f ls x y (wayC f x y) := ⟨(name_NF ok _).red, wayB_mem mx my, fun g => name_act ok _ g⟩
theorem PathTo.len (ok : CrOk f) {x y p : List Nat} (h : PathTo f ls x y p) : p.length = (wayC f x y).length := by
  rw [← red_len ok h.mem h.red, name_eq ok h.act']
  rfl
theorem PathTo.first (ok : CrOk f) {x y p : List Nat} (h : PathTo f ls x y p) {s : Nat} (hs : s ∈ ls) : desc f s p ↔ Ng f ls (x.reverse ++ y) s := by
  rw [← ng_desc ok h.red h.mem hs]
  exact ng_act h.act' s
theorem step_act (ok : CrOk f) (x : List Nat) (s : Nat) (y : List Nat) (g : Nat → Int) : act f ((nameOf f (x ++ [s])).reverse ++ y) g = act f (s :: (x.reverse ++ y)) g := by
  rw [act_app, act_rev_eq ok (name_act ok (x ++ [s])), List.reverse_append, List.reverse_singleton, ← act_app]
  rfl
theorem PathTo.erase (ok : CrOk f) {x y p : List Nat} (h : PathTo f ls x y p) {s : Nat} (d : desc f s p) : PathTo f ls (nameOf f (x ++ [s])) y (p.erase s) where
  red := erase_red ok d h.red
  mem c hc := h.mem c (List.mem_of_mem_erase hc)
  act' g := by
    rw [step_act ok]
    show _ = thr f s (act f (x.reverse ++ y) g)
    rw [← h.act', ← erase_act ok d]
    show _ = thr f s (thr f s (act f (p.erase s) g))
    rw [thr_thr ok]
theorem PathTo.cons (ok : CrOk f) {x y p : List Nat} (h : PathTo f ls x y p) {s : Nat} (hs : s ∈ ls) (d : ¬ desc f s p) : PathTo f ls (nameOf f (x ++ [s])) y (s :: p) where
  red := ⟨d, h.red⟩
  mem c hc := (List.mem_cons.mp hc).elim (fun e => e ▸ hs) (h.mem c)
  act' g := by
    rw [step_act ok]
    show thr f s (act f p g) = thr f s (act f (x.reverse ++ y) g)
    rw [h.act']
end
end Cw
set_option Elab.async false
set_option linter.all false
set_option maxRecDepth 100000
set_option maxHeartbeats 4000000
/-! the last common room, the room beyond both; the nearest room at a wall -/
namespace Cw
open PySem PySem.Spec L2
section
variable {f : Nat → List Nat} {ls : List Nat}
/-- beyond the last common room's walls both are -/
theorem both_on (hn : ls.Nodup) (ok : CrOk f) {a b M : List Nat} (md : Mid f ls [] a b M) (na : NF f a) (nb : NF f b) (ma : ∀ y ∈ a, y ∈ ls) (mb : ∀ y ∈ b, y ∈ ls) {w : List Nat} (hw : NF f w) (mw : ∀ y ∈ w, y ∈ ls) {u : Nat → Int} (hu : u ∈ crL f w) :
    (∃ v ∈ crL f M, ∀ x ∈ ls, v x = u x) ↔ (∃ v ∈ crL f a, ∀ x ∈ ls, v x = u x) ∧ (∃ v ∈ crL f b, ∀ x ∈ ls, v x = u x) := by
  rw [mid_on hn ok md NF_nil na nb (fun _ h => nomatch h) ma mb hw mw hu]
  constructor
  · rintro (⟨⟨v, hv, _⟩, _⟩ | ⟨⟨v, hv, _⟩, _⟩ | h)
    · exact nomatch hv
    · exact nomatch hv
    · exact h
  · exact fun h => .inr (.inr h)
theorem both_due (hn : ls.Nodup) (ok : CrOk f) {a b M : List Nat} (md : Mid f ls [] a b M) (na : NF f a) (nb : NF f b) (ma : ∀ y ∈ a, y ∈ ls) (mb : ∀ y ∈ b, y ∈ ls) :
    (crL f M).length = ((crL f a).filter fun u => decide (∃ v ∈ crL f b, ∀ x ∈ ls, v x = u x)).length ∧ (((crL f a).filter fun u => decide (∃ v ∈ crL f b, ∀ x ∈ ls, v x = u x)).filter fun u => !decide (∃ v ∈ crL f M, ∀ x ∈ ls, v x = u x)) = [] := by
  have sub : ∀ u ∈ (crL f a).filter fun u => decide (∃ v ∈ crL f b, ∀ x ∈ ls, v x = u x), ∃ v ∈ crL f M, ∀ x ∈ ls, v x = u x := fun u hu => by
    obtain ⟨h1, h2⟩ := List.mem_filter.mp hu
    exact (both_on hn ok md na nb ma mb na ma h1).mpr ⟨⟨u, h1, fun _ _ => rfl⟩, of_decide_eq_true h2⟩
  refine ⟨len_same (crL_nd hn ok md.nf md.mem) (List.Pairwise.filter _ (crL_nd hn ok na ma)) (fun u hu => ?_) sub, ?_⟩
  · obtain ⟨⟨v, hv, e⟩, ⟨z, hz, e2⟩⟩ := (both_on hn ok md na nb ma mb md.nf md.mem hu).mp ⟨u, hu, fun _ _ => rfl⟩
    exact ⟨v, List.mem_filter.mpr ⟨hv, decide_eq_true ⟨z, hz, fun x hx => (e2 x hx).trans (e x hx).symm⟩⟩, e⟩
  · rw [List.filter_eq_nil_iff]
    intro u hu z
    rw [Bool.not_eq_true', decide_eq_false_iff_not] at z
    exact z (sub u hu)
/-- what lies behind a shortest way is beyond its walls -/
theorem on_way (hn : ls.Nodup) (ok : CrOk f) {a v : List Nat} (na : NF f a) (ma : ∀ y ∈ a, y ∈ ls) (mv : ∀ y ∈ v, y ∈ ls) (r : Red f (a ++ v)) {u : Nat → Int} (hu : u ∈ crL f a) : ∃ w ∈ crL f (nameOf f (a ++ v)), ∀ x ∈ ls, w x = u x := by
  obtain ⟨i, hi, rfl⟩ := List.mem_map.mp hu
  have hi := List.mem_range.mp hi
  have mav : ∀ y ∈ a ++ v, y ∈ ls := fun y hy => (List.mem_append.mp hy).elim (ma y) (mv y)
  refine (on_iff hn ok na ma hi (name_NF ok _) fun y hy => mav y (name_mem hy)).mpr ?_
  have es : a = a.take i ++ a.getD i 0 :: a.drop (i + 1) := split_at hi
  have e : ∀ g, act f ((a.take i).reverse ++ nameOf f (a ++ v)) g = act f (a.getD i 0 :: (a.drop (i + 1) ++ v)) g := fun g => by
    have e1 : a ++ v = a.take i ++ (a.getD i 0 :: (a.drop (i + 1) ++ v)) := by
      conv => lhs; rw [es]
      simp
    rw [act_app, name_act ok, e1, act_app (a.take i), act_rev ok]
  rw [ng_act e]
  have r' : Red f (a.getD i 0 :: (a.drop (i + 1) ++ v)) := by
    refine Red_right (p := a.take i) ?_
    rw [es] at r
    simpa using r
  refine (ng_desc ok r' (fun y hy => ?_) (ma _ (getD_in hi))).mpr (.inl rfl)
  rcases List.mem_cons.mp hy with rfl | hy
  · exact ma _ (getD_in hi)
  · exact (List.mem_append.mp hy).elim (fun z => ma y (List.mem_of_mem_drop z)) (mv y)
/-- the room beyond both, if all letters cross -/
structure BothX (f : Nat → List Nat) (ls a b M : List Nat) : Prop where
  len : (nameOf f (a ++ wayC f M b)).length = M.length + (wayC f M a).length + (wayC f M b).length
  ina : ∀ u ∈ crL f a, ∃ w ∈ crL f (nameOf f (a ++ wayC f M b)), ∀ x ∈ ls, w x = u x
  inb : ∀ u ∈ crL f b, ∃ w ∈ crL f (nameOf f (a ++ wayC f M b)), ∀ x ∈ ls, w x = u x
theorem wayC_mem {a b : List Nat} (ma : ∀ y ∈ a, y ∈ ls) (mb : ∀ y ∈ b, y ∈ ls) : ∀ y ∈ wayC f a b, y ∈ ls := fun y hy => (List.mem_append.mp (name_mem hy)).elim (fun z => ma y (List.mem_reverse.mp z)) (mb y)
theorem both_x (hn : ls.Nodup) (ok : CrOk f) {a b M : List Nat} (md : MidX f ls [] a b M) (na : NF f a) (nb : NF f b) (ma : ∀ y ∈ a, y ∈ ls) (mb : ∀ y ∈ b, y ∈ ls) (h : ∀ p ∈ wayC f M a, ∀ q ∈ wayC f M b, p ∈ f q) : BothX f ls a b M := by
  have ea : nameOf f a = a := (is_NF ok).mpr na
  have eb : nameOf f b = b := (is_NF ok).mpr nb
  have eM : nameOf f M = M := (is_NF ok).mpr md.nf
  have la : M.length + (wayC f M a).length = a.length := by
    have := md.ab
    unfold Btw at this
    rw [way_nil, way_nil, ea, eM] at this
    exact this
  have lb : M.length + (wayC f M b).length = b.length := by
    have := md.ac
    unfold Btw at this
    rw [way_nil, way_nil, eb, eM] at this
    exact this
  have na' : nameOf f (M ++ wayC f M a) = a := (way_goes ok M a).trans ea
  have nb' : nameOf f (M ++ wayC f M b) = b := (way_goes ok M b).trans eb
  have mu := wayC_mem (f := f) md.mem ma
  have mv := wayC_mem (f := f) md.mem mb
  have r1 : Red f (M ++ wayC f M a) := red_of_len ok (by rw [na', List.length_append, la])
  have r2 : Red f (M ++ wayC f M b) := red_of_len ok (by rw [nb', List.length_append, lb])
  obtain ⟨u, hu⟩ : ∃ u, wayC f M a = u := ⟨_, rfl⟩
  obtain ⟨v, hv⟩ : ∃ v, wayC f M b = v := ⟨_, rfl⟩
  rw [hu] at h la na' mu r1
  rw [hv] at h lb nb' mv r2
  have r := red_both ok r1 r2 h
  have mall : ∀ y ∈ M ++ u ++ v, y ∈ ls := fun y hy => (List.mem_append.mp hy).elim (fun z => (List.mem_append.mp z).elim (md.mem y) (mu y)) (mv y)
  have eT : nameOf f (a ++ v) = nameOf f (M ++ u ++ v) := by rw [← na', name_catL ok]
  have eT2 : nameOf f (b ++ u) = nameOf f (a ++ v) := by
    rw [eT, ← nb', name_catL ok]
    refine name_eq ok fun g => ?_
    rw [List.append_assoc, List.append_assoc, act_app, act_app M (u ++ v), act_many ok h]
  have lT : (nameOf f (a ++ v)).length = M.length + u.length + v.length := by
    rw [eT, red_len ok mall r, List.length_append, List.length_append]
  have ra : Red f (a ++ v) := red_of_len ok (by rw [lT, List.length_append]; omega)
  have rb : Red f (b ++ u) := red_of_len ok (by rw [eT2, lT, List.length_append]; omega)
  exact ⟨by rw [hu, hv]; exact lT, fun w hw => by rw [hv]; exact on_way hn ok na ma mv ra hw, fun w hw => by rw [hv, ← eT2]; exact on_way hn ok nb mb mu rb hw⟩
/-! ### the nearest room at a wall -/
theorem pos_along (ok : CrOk f) {w : List Nat} {s c : Nat} (hc : c ∈ f s) : posM f ls (w ++ [c]) s = posM f ls w s := by
  have e : ∀ x, act f (w ++ [c]).reverse (unit x) s = act f w.reverse (unit x) s := fun x => by
    rw [List.reverse_append]
    exact mark_along (u := [c]) ok fun y hy => by
      rw [List.mem_singleton.mp hy]
      exact hc
  unfold posM
  simp only [e]
theorem near_step (hn : ls.Nodup) (ok : CrOk f) {w : List Nat} {s c : Nat} (mw : ∀ y ∈ w, y ∈ ls) (hs : s ∈ ls) (hc : c ∈ ls) (h : c = s ∨ c ∈ f s) : startC f (nameOf f (w ++ [c])) s = startC f (nameOf f w) s := by
  rcases h with rfl | h
  · exact wall_thr hn ok hs mw
  · refine (wall_iff hn ok hs (fun y hy => (List.mem_append.mp hy).elim (mw y) fun z => List.mem_singleton.mp z ▸ hc) mw).mpr fun x _ => ?_
    rw [pos_along ok h]
theorem near_end (hn : ls.Nodup) (ok : CrOk f) {w : List Nat} {s : Nat} (mw : ∀ y ∈ w, y ∈ ls) (hs : s ∈ ls) (h0 : ¬ desc f s (nameOf f w).reverse) (h : ∀ t ∈ f s, ¬ desc f t (nameOf f w).reverse) : startC f (nameOf f w) s = nameOf f w := by
  refine wall_uniq hn ok hs (start_NF ok (name_NF ok _) s) (name_NF ok _) (fun y hy => (start_mem hy).elim (fun z => z ▸ hs) fun z => mw y (name_mem z)) (fun y hy => mw y (name_mem hy)) (start_free ok _ s) h fun x _ => ?_
  show act f (startC f (nameOf f w) s).reverse (unit x) s = act f (nameOf f w).reverse (unit x) s
  rw [start_mark ok, near_same h0]
end
end Cw
set_option Elab.async false
set_option linter.all false
set_option maxRecDepth 100000
set_option maxHeartbeats 4000000
/-! the first two walls that do not cross -/
namespace Cw
open PySem PySem.Spec L2
def firstA (P : List Nat → List Nat → Prop) [∀ a b, Decidable (P a b)] (l1 l2 : List (List Nat)) : Option (List Nat × List Nat) := (l1.flatMap fun a => (l2.filter fun b => decide (P a b)).map fun b => (a, b)).head?
section
variable {P : List Nat → List Nat → Prop} [∀ a b, Decidable (P a b)] {l1 l2 : List (List Nat)}
theorem firstA_none : firstA P l1 l2 = none ↔ ∀ a ∈ l1, ∀ b ∈ l2, ¬ P a b := by
  unfold firstA
  rw [List.head?_eq_none_iff, List.flatMap_eq_nil_iff]
  constructor
  · intro h a ha b hb p
    have := h a ha
    rw [List.map_eq_nil_iff, List.filter_eq_nil_iff] at this
    exact this b hb (decide_eq_true p)
  · intro h a ha
    rw [List.map_eq_nil_iff, List.filter_eq_nil_iff]
    exact fun b hb z => h a ha b hb (of_decide_eq_true z)
theorem firstA_at {i j : Nat} (hi : i < l1.length) (hj : j < l2.length) (h1 : ∀ i', i' < i → ∀ b ∈ l2, ¬ P (l1.getD i' []) b) (h2 : ∀ j', j' < j → ¬ P (l1.getD i []) (l2.getD j' [])) (h : P (l1.getD i []) (l2.getD j [])) : firstA P l1 l2 = some (l1.getD i [], l2.getD j []) := by
  have gi : ∀ {l : List (List Nat)} {k : Nat} (hk : k < l.length), l.getD k [] = l[k] := fun hk => by rw [List.getD_eq_getElem?_getD, List.getElem?_eq_getElem hk]; rfl
  have e1 : l1 = l1.take i ++ l1.getD i [] :: l1.drop (i + 1) := by rw [gi hi, ← List.drop_eq_getElem_cons hi, List.take_append_drop]
  have e2 : l2 = l2.take j ++ l2.getD j [] :: l2.drop (j + 1) := by rw [gi hj, ← List.drop_eq_getElem_cons hj, List.take_append_drop]
  have n1 : ((l1.take i).flatMap fun a => (l2.filter fun b => decide (P a b)).map fun b => (a, b)) = [] := by
    rw [List.flatMap_eq_nil_iff]
    intro a ha
    obtain ⟨k, hk, rfl⟩ := List.getElem_of_mem ha
    rw [List.length_take] at hk
    rw [List.map_eq_nil_iff, List.filter_eq_nil_iff]
    intro b hb z
    rw [List.getElem_take, ← gi (by omega)] at z
    exact h1 k (by omega) b hb (of_decide_eq_true z)
  have n2 : ∀ a, a = l1.getD i [] → (l2.filter fun b => decide (P a b)) = l2.getD j [] :: ((l2.drop (j + 1)).filter fun b => decide (P a b)) := by
    rintro a rfl
    conv => lhs; rw [e2]
    rw [List.filter_append, List.filter_eq_nil_iff.mpr, List.nil_append, List.filter_cons_of_pos (p := fun b => decide (P (l1.getD i []) b)) (decide_eq_true h)]
    intro b hb z
    obtain ⟨k, hk, rfl⟩ := List.getElem_of_mem hb
    rw [List.length_take] at hk
    rw [List.getElem_take, ← gi (by omega)] at z
    exact h2 k (by omega) (of_decide_eq_true z)
  unfold firstA
  conv => lhs; rw [e1]
  rw [List.flatMap_append, n1, List.nil_append, List.flatMap_cons, n2 _ rfl, List.map_cons]
  rfl
end
/-- two walls, told by room and kind, do not cross -/
def apartK (f : Nat → List Nat) (ls : List Nat) (a b : List Nat) : Prop := prodV f ls (markK f a) (markK f b) ≠ 0
instance (f : Nat → List Nat) (ls : List Nat) (a b : List Nat) : Decidable (apartK f ls a b) := inferInstanceAs (Decidable (_ ≠ _))
section
variable {f : Nat → List Nat} {ls : List Nat}
theorem KeyOk.w2 (hn : ls.Nodup) (ok : CrOk f) {m n : List Nat} {k j : Nat} (h1 : KeyOk f ls m k) (h2 : KeyOk f ls n j) : W2 f ls m k n j := ⟨hn, ok, h1.hk, h2.hk, h1.nf, h2.nf, h1.mem, h2.mem, ⟨h1.nf.red, h1.td, h1.fr⟩, ⟨h2.nf.red, h2.td, h2.fr⟩⟩
theorem apart_iff (hn : ls.Nodup) (ok : CrOk f) {m n : List Nat} {k j : Nat} (h1 : KeyOk f ls m k) (h2 : KeyOk f ls n j) : apartK f ls (m ++ [k]) (n ++ [j]) ↔ ¬ crossP f m k n j := by
  have w := h1.w2 hn ok h2
  unfold apartK crossP
  rw [markK_app, markK_app, w.prod]
  exact not_congr w.crosses
theorem prodV_smul (e e' : Int) (a b : Nat → Int) : prodV f ls (fun x => e * a x) (fun x => e' * b x) = e * (e' * prodV f ls a b) := by
  have sm : ∀ (c : Int) (g : Nat → Int) (l : List Nat), sumL l (fun x => c * g x) = c * sumL l g := fun c g l => by
    have := sumL_comb c 0 g g l
    rw [show (fun x => c * g x + 0 * g x) = fun x => c * g x from by funext x; omega] at this
    rw [this]
    omega
  unfold prodV
  rw [← sm, ← sm]
  refine congrArg (sumL ls) (funext fun x => ?_)
  rw [show (fun y => e' * b y * bt f y x) = fun y => e' * (b y * bt f y x) from by funext y; rw [Int.mul_assoc], sm]
  rw [Int.mul_assoc, ← Int.mul_assoc (a x), Int.mul_comm (a x) e', Int.mul_assoc e']
/-- the walls of two ways from one room all cross just if the letters do -/
theorem keys_cross (hn : ls.Nodup) (ok : CrOk f) {M u v : List Nat} (mM : ∀ y ∈ M, y ∈ ls) (mu : ∀ y ∈ u, y ∈ ls) (mv : ∀ y ∈ v, y ∈ ls) : (∀ a ∈ keyI f M u u.length, ∀ b ∈ keyI f M v v.length, ¬ apartK f ls a b) ↔ ∀ a ∈ u, ∀ b ∈ v, a ∈ f b := by
  rw [← all_cross hn ok mM mu mv]
  have key : ∀ i j, apartK f ls (startC f (nameOf f (M ++ u.take i)) (u.getD i 0) ++ [u.getD i 0]) (startC f (nameOf f (M ++ v.take j)) (v.getD j 0) ++ [v.getD j 0]) ↔ prodV f ls (mark f (M ++ u.take i).reverse (u.getD i 0)) (mark f (M ++ v.take j).reverse (v.getD j 0)) ≠ 0 := fun i j => by
    unfold apartK
    rw [markK_app, markK_app]
    obtain ⟨e, he, h1⟩ := start_sgn ok (M ++ u.take i) (u.getD i 0)
    obtain ⟨e', he', h2⟩ := start_sgn ok (M ++ v.take j) (v.getD j 0)
    have a1 : mark f (startC f (nameOf f (M ++ u.take i)) (u.getD i 0)).reverse (u.getD i 0) = fun x => e * mark f (M ++ u.take i).reverse (u.getD i 0) x := funext fun x => h1 (unit x)
    have a2 : mark f (startC f (nameOf f (M ++ v.take j)) (v.getD j 0)).reverse (v.getD j 0) = fun x => e' * mark f (M ++ v.take j).reverse (v.getD j 0) x := funext fun x => h2 (unit x)
    rw [a1, a2, prodV_smul]
    generalize prodV f ls (mark f (M ++ u.take i).reverse (u.getD i 0)) (mark f (M ++ v.take j).reverse (v.getD j 0)) = p
    rcases he with rfl | rfl <;> rcases he' with rfl | rfl <;> omega
  unfold keyI
  constructor
  · intro h i hi j hj
    have := h _ (List.mem_map.mpr ⟨i, List.mem_range.mpr hi, rfl⟩) _ (List.mem_map.mpr ⟨j, List.mem_range.mpr hj, rfl⟩)
    rw [key i j] at this
    exact Decidable.not_not.mp this
  · intro h a ha b hb
    obtain ⟨i, hi, rfl⟩ := List.mem_map.mp ha
    obtain ⟨j, hj, rfl⟩ := List.mem_map.mp hb
    rw [key i j]
    exact fun z => z (h i (List.mem_range.mp hi) j (List.mem_range.mp hj))
/-- sorted keys are one list -/
theorem short_uniq {a b : List (List Nat)} (p : a.Perm b) (h1 : a.Pairwise shortLe) (h2 : b.Pairwise shortLe) : a = b := by
  refine p.eq_of_pairwise (le := shortLe) (fun x y _ _ h1 h2 => ?_) h1 h2
  unfold shortLe at h1 h2
  rcases h1 with h1 | ⟨e, h1⟩
  · rcases h2 with h2 | ⟨e, _⟩ <;> omega
  · rcases h2 with h2 | ⟨_, h2⟩
    · omega
    · exact List.le_antisymm (show x ≤ y from h1) (show y ≤ x from h2)
end
end Cw
set_option Elab.async false
set_option linter.all false
set_option maxRecDepth 100000
set_option maxHeartbeats 4000000
/-! a call by keywords within a try -/
namespace Cw
open PySem PySem.Spec L2
def tCNS (sp : Sp) (n m : Nat) (ss : List Src) (dvs : List V) (E : St → XK) (t tk : TA) : TE := fun σ H Q => t σ H fun vs H1 => tk σ H1 fun zs H2 => vs.length = n ∧ zs.length = m ∧ sp (gS ss vs dvs zs) H2 Q (E σ)
section
variable {X : Cx} {CX : CXT} {k n : Nat} {sp : Sp} {E : St → XK} {x : Str} {p pos : PySem.Pos} {kws : List Keyword} {t tk : TA} {ks : List Str} {ss : List Src} {dvs : List V}
theorem run_fNS {pins : List (Addr × Obj)} {σ : St} {H : Hp} {s : Shared} {Q : VK} {us ws : List Value} {vs zs : List V} {f : Addr} {fd : FuncData} {ps : List Str} {g : List Value → List Value → List Value} {gV : List V → List V → List V} (F : FnOk X.prog X.w X.K X.mg X.base CX k f fd ps sp) (hr : Room k X.A) (hb : KBn X.K fd ps n ks g gV)
    (hx : PassesAt CX X σ (E σ)) (I : Inv X pins σ H s) (r : Vals vs us) (rz : Vals zs ws) (l1 : vs.length = n) (l2 : zs.length = ks.length) (h : sp (gV vs zs) H Q (E σ)) :
    wpAny (model X.prog X.w) X.A (call (.ref f) us (ks.zip ws)) (EP X pins σ Q) X.xe s := by
  have r2 := hb.rel r rz
  refine wpAny_call (codeAny_mono (F.run X.A X.stack s H ⟨us, ks.zip ws⟩ (g us ws) (gV vs zs) Q (E σ) hr I.env0 (hb.to s us ws I.kIn (r.length.symm.trans l1) (rz.length.symm.trans l2)) r2 h) fun r s' hq => ?_)
  cases r with
  | error e => exact hx pins H s e s' I hq
  | ok fl =>
    cases fl with
    | ret u => exact I.after hq
    | next => exact False.elim hq
    | brk => exact False.elim hq
    | cont => exact False.elim hq
theorem pe_fN0S (D : DefN X.prog X.w X.K X.mg X.base CX k x sp 0 ks ss dvs) (hr : Room k X.A) (hx : ∀ σ, PassesAt CX X σ (E σ)) (hkw : PK X kws tk) (hg : Gl X x := by rfl)
    (hall : (backToKw pos (keywordEach kws X.env)).all (·.1.isSome) = true := by rfl) (hks : (backToKw pos (keywordEach kws X.env)).filterMap (·.1) = ks := by rfl)
    (hdb : (x == ("__debug__" : Str)) = false := by decide)
    (hpl : ((backTo pos (starEach [] X.env)).any (·.1) || (backToKw pos (keywordEach kws X.env)).any (·.1.isNone)) = false := by rfl) :
    PE X (.Call (.Name x p) [] kws pos) (tCNS sp 0 ks.length ss dvs E tNil tk) := by
  obtain ⟨f, fd, ps, a, kp, ⟨g, kb⟩, F⟩ := D.ex
  refine ⟨fun pins s σ H Q I h => ?_⟩
  refine wpAny_Call_Name_kw (ld_glob I hg a ?_ hdb)
  refine PySem.W.callWith_KW0 (h₀ := X.base) I.ok.mod.kin kp hall ?_ hpl
  refine thn (hkw.run pos pins s σ H _ I h) fun ws s2 ⟨zs, H2, I2, rz, l1, l2, q2⟩ => ⟨I2.kIn, ?_⟩
  rw [hks]
  exact run_fNS (us := []) (vs := []) F hr kb (hx σ) I2 .nil rz rfl l2 q2
end
section
variable {σ : St} {H : Hp} {Q : VK}
theorem e_CNS {sp : Sp} {n m : Nat} {ss : List Src} {dvs : List V} {E : St → XK} {t tk : TA} (q : t σ H fun vs H1 => tk σ H1 fun zs H2 => vs.length = n ∧ zs.length = m ∧ sp (gS ss vs dvs zs) H2 Q (E σ)) : tCNS sp n m ss dvs E t tk σ H Q := q
theorem e_xf {a C : Addr} {cls : Value} {d : Option Addr} {f : Str} {te : TE} (q : te σ H fun x H1 => x = .ref a ∧ cls = .ref C ∧ ∃ (dd : Addr) (fs : List (Str × V)) (v : V), d = some dd ∧ H1 dd = some (.xd fs) ∧ fs.lookup f = some v ∧ Q v H1) : tXf a cls d C f te σ H Q := q
end
end Cw
set_option Elab.async false
set_option linter.all false
set_option maxRecDepth 100000
set_option maxHeartbeats 4000000
/-! where none cross, the farthest room on both ways has the common beginning of the names -/
namespace Cw
def f0 : Nat → List Nat := fun _ => []
theorem desc0 {t : Nat} : ∀ {w : List Nat}, desc f0 t w → w.head? = some t
  | [], h => h.elim
  | c :: r, h => by
    rcases h with rfl | ⟨h, _⟩
    · rfl
    · exact nomatch h
theorem cut_two : ∀ (a b : List Nat), ∃ M u v, a = M ++ u ∧ b = M ++ v ∧ ∀ t, ¬ (u.head? = some t ∧ v.head? = some t)
  | [], b => ⟨[], [], b, rfl, rfl, fun _ h => by cases h.1⟩
  | x :: a, [] => ⟨[], x :: a, [], rfl, rfl, fun _ h => by cases h.2⟩
  | x :: a, y :: b => by
    by_cases e : x = y
    · subst e
      obtain ⟨M, u, v, h1, h2, h3⟩ := cut_two a b
      exact ⟨x :: M, u, v, by rw [h1]; rfl, by rw [h2]; rfl, h3⟩
    · exact ⟨[], x :: a, y :: b, rfl, rfl, fun t h => e (by have h1 := h.1; have h2 := h.2; injection h1 with h1; injection h2 with h2; rw [h1, h2])⟩
theorem plain_mid {ls a b M : List Nat} (hn : ls.Nodup) (ok : CrOk f0) (md : Mid f0 ls [] a b M) (na : NF f0 a) (nb : NF f0 b) (ma : ∀ y ∈ a, y ∈ ls) (mb : ∀ y ∈ b, y ∈ ls) : ∃ u v, a = M ++ u ∧ b = M ++ v ∧ ∀ t, ¬ (u.head? = some t ∧ v.head? = some t) := by
  obtain ⟨N, u, v, h1, h2, h3⟩ := cut_two a b
  have ea : wayC f0 [] a = a := (is_NF ok).mpr na
  have eb : wayC f0 [] b = b := (is_NF ok).mpr nb
  have ra : Red f0 (N ++ u) := h1 ▸ red_of_len ok (by rw [show nameOf f0 a = a from ea])
  have rb : Red f0 (N ++ v) := h2 ▸ red_of_len ok (by rw [show nameOf f0 b = b from eb])
  have sh : Share f0 ls (wayC f0 [] a) (wayC f0 [] b) N u v := by
    rw [ea, eb]
    exact ⟨fun g => by rw [h1], fun g => by rw [h2], Red_right ra, Red_right rb, fun y hy => ma y (by rw [h1]; exact List.mem_append_right _ hy), fun y hy => mb y (by rw [h2]; exact List.mem_append_right _ hy), fun y hy => ma y (by rw [h1]; exact List.mem_append_left _ hy), by rw [h1, List.length_append], by rw [h2, List.length_append]⟩
  have md2 := mid_of hn ok (fun _ z => by cases z) ma mb sh fun t _ h => h3 t ⟨desc0 h.1, desc0 h.2⟩
  have nN : NF f0 N := NF_left (b := u) (h1 ▸ na)
  have eN : nameOf f0 ([] ++ N) = N := (is_NF ok).mpr nN
  rw [eN] at md2
  obtain rfl : M = N := Mid.uniq ok md md2 fun _ _ _ _ => Iff.rfl
  exact ⟨u, v, h1, h2, h3⟩
theorem take_iff {M u v : List Nat} (h : ∀ t, ¬ (u.head? = some t ∧ v.head? = some t)) {i : Nat} (hi : i ≤ (M ++ u).length) : (M ++ v).take i = (M ++ u).take i ↔ i ≤ M.length := by
  constructor
  · intro e
    rcases Nat.lt_or_ge M.length i with c | c
    · exfalso
      rw [List.length_append] at hi
      have e2 : ((M ++ v).take i)[M.length]? = ((M ++ u).take i)[M.length]? := by rw [e]
      rw [List.getElem?_take_of_lt c, List.getElem?_take_of_lt c, List.getElem?_append_right (Nat.le_refl _), List.getElem?_append_right (Nat.le_refl _), Nat.sub_self] at e2
      cases u with
      | nil => simp at hi; omega
      | cons t r =>
        cases v with
        | nil => cases e2
        | cons s q => exact h t ⟨rfl, e2⟩
    · exact c
  · intro c
    rw [List.take_append_of_le_length c, List.take_append_of_le_length c]
theorem range_upto {n m : Nat} (h : m < n) : ((List.range n).filter fun i => decide (i ≤ m)) = List.range (m + 1) := by
  induction n with
  | zero => omega
  | succ n ih =>
    rw [List.range_succ, List.filter_append]
    by_cases c : m < n
    · rw [ih c]
      have : decide (n ≤ m) = false := decide_eq_false (by omega)
      simp [this]
    · have e : m = n := by omega
      subst e
      have : (List.range m).filter (fun i => decide (i ≤ m)) = List.range m := List.filter_eq_self.mpr fun a ha => decide_eq_true (Nat.le_of_lt (List.mem_range.mp ha))
      rw [this, List.range_succ]
      simp
end Cw
set_option Elab.async false
set_option linter.all false
set_option maxRecDepth 100000
set_option maxHeartbeats 4000000
/-! len of a dict -/
namespace Cw
open PySem PySem.Spec L2
end Cw
set_option Elab.async false
set_option linter.all false
set_option maxRecDepth 100000
set_option maxHeartbeats 4000000
/-! a comprehension over a dict's keys, the dict locked meanwhile -/
namespace Cw
open PySem PySem.Spec L2
/-- all but d stands as it stood; d is locked -/
structure Lk (d : Addr) (u : HO) (H H' : Hp) : Prop where
  at' : ∃ od, H' d = some (.frz od u)
  oth : ∀ b o, H b = some o → b ≠ d → H' b = some o
theorem Lk.same {d : Addr} {u : HO} {H H' H2 : Hp} (h : Lk d u H H') (s : Same H' H2) : Lk d u H H2 := ⟨h.at'.elim fun od e => ⟨od, s _ _ e⟩, fun b o e n => s _ _ (h.oth b o e n)⟩
theorem v_lockLc {σ : St} {H : Hp} {Q : VK} {i : Nat} {td : TE} {tt : TT} {te : TE} {d : Addr} {ls : List Nat} {g : Nat → V} {b : Nat → Bool} {f : Nat → V} (h : H d = some (.dK (ls.map fun c => ((Sum.inr (tx [c]) : Key), g c)))) (hn : ls.length ≤ 1000000)
    (htd : ∀ H1, ∀ R : VK, R (.ref d) H1 → td σ H1 R)
    (ht : ∀ c ∈ ls, ∀ H1, Lk d (.dK (ls.map fun c => ((Sum.inr (tx [c]) : Key), g c))) H H1 → ∀ R : Bool → Hp → Prop, (∀ H2, Same H1 H2 → R (b c) H2) → tt ((wipe σ [i]).set i (some (.str (tx [c])))) H1 R)
    (he : ∀ c ∈ ls, b c = true → ∀ H1, Lk d (.dK (ls.map fun c => ((Sum.inr (tx [c]) : Key), g c))) H H1 → ∀ R : VK, (∀ H2, Same H1 H2 → R (f c) H2) → te ((wipe σ [i]).set i (some (.str (tx [c])))) H1 R)
    (q : ∀ D H', H D = none → Same H H' → H' D = some (.lst ((ls.filter b).map f)) → Q (.ref D) H') : tLockE (tLc (iKeys td) (gName i) tt te [i]) σ H Q := by
  refine ⟨d, _, h, trivial, fun od => ?_⟩
  have lk0 : Lk d (.dK (ls.map fun c => ((Sum.inr (tx [c]) : Key), g c))) H (upd H d (.frz od (.dK (ls.map fun c => ((Sum.inr (tx [c]) : Key), g c))))) := ⟨⟨od, upd_same⟩, fun b o e n => by rw [upd_ne n]; exact e⟩
  refine e_lc ?_
  refine e_iK ?_
  refine htd _ _ ?_
  refine ⟨d, od, rfl, .inl ⟨_, upd_same, ?_⟩⟩
  refine vals_some (ls := ls) (it := fun c => V.str (tx [c])) (f := f) (b := b) walk_let (fun H' s' => s' _ _ upd_same) hn (fun e he' H7 s7 Rk r => ht e he' H7 (lk0.same s7) Rk r) (fun e he' hb H7 s7 Rk r => he e he' hb H7 (lk0.same s7) Rk r) (fun D H7 hD s7 e7 => ?_)
  have nD : D ≠ d := fun z => by rw [z, upd_same] at hD; cases hD
  refine ⟨s7 _ _ upd_same, q D _ (by rw [upd_ne nD] at hD; exact hD) (fun b o hb => ?_) (by rw [upd_ne nD]; exact e7)⟩
  by_cases e : b = d
  · rw [e, upd_same, ← hb, e, h]
  · rw [upd_ne e]
    exact s7 _ _ (lk0.oth b o hb e)
end Cw
set_option Elab.async false
set_option linter.all false
set_option maxRecDepth 100000
set_option maxHeartbeats 4000000
/-! what the top has left, one lemma a kind -/
namespace Cw
open PySem PySem.Spec L2
section
variable {K : PySem.W.Frag} {h : Heap} {mg : Str → Option Value} {x m qual : Str} {st : Stmt} {f C T : Addr} {oc kV dc pm cd ct oc2 : Value} {od an od2 : Option Addr} {sl sl2 : Array (Option Value)}
theorem glob_mk {v : Value} (X : K.In h) (G : h.Ns mainGlobals mg) (a : PySem.W.nsIn K mainGlobals x = some (some v)) : mg x = some v := PySem.W.mg_of X G a
theorem fnAt_mk (X : K.In h) (G : h.Ns mainGlobals mg) (a : PySem.W.nsIn K mainGlobals x = some (some (.ref f))) (l : K.lookup f = some ⟨oc, od, .func (PySem.W.fnOf x x (defArgs st) (defBody st) (defScope st) .none kV dc pm an cd ct), sl⟩)
    (c : PySem.W.codeIn K cd x = true) (k : PySem.W.keepIn K (.ref f) = true) : FnAt K mg x st := ⟨f, _, PySem.W.mg_of X G a, fun_mk (st := st) l c k⟩
theorem mAt_mk (a : PySem.W.findIn K (.ref C) m = some (some (.ref f))) (i : PySem.W.isFn K (.ref f) = true) (l : K.lookup f = some ⟨oc, od, .func (PySem.W.fnOf m qual (defArgs st) (defBody st) (defScope st) .none kV dc pm an cd ct), sl⟩)
    (c : PySem.W.codeIn K cd qual = true) (k : PySem.W.keepIn K (.ref f) = true) : MAt K C m qual st := ⟨f, _, a, i, fun_mk (st := st) l c k⟩
theorem mAtD_mk {arr : Array Value} {n : Nat} {dvs : List V} (a : PySem.W.findIn K (.ref C) m = some (some (.ref f))) (i : PySem.W.isFn K (.ref f) = true) (l : K.lookup f = some ⟨oc, od, .func (PySem.W.fnOf m qual (defArgs st) (defBody st) (defScope st) (.ref T) kV dc pm an cd ct), sl⟩)
    (c : PySem.W.codeIn K cd qual = true) (k : PySem.W.keepIn K (.ref f) = true) (t : K.lookup T = some ⟨oc2, od2, .seq arr n, sl2⟩) (hv : Vals dvs arr.toList) (hd : dvs ≠ []) : MAtD K C m qual st dvs :=
  ⟨f, _, a, i, ⟨⟨oc, od, .ref T, kV, dc, pm, an, cd, ct, sl, rfl, l, c, .inr ⟨hd, T, _, arr.toList, n, rfl, t, rfl, hv⟩, .inl rfl⟩, k⟩⟩
theorem cls_mk (X : K.In h) (G : h.Ns mainGlobals mg) (a : PySem.W.nsIn K mainGlobals x = some (some (.ref C))) (pg : PySem.W.plainGet K C Str.empty = true) (hd : PySem.W.hasDictIn K C = true) (po : PySem.W.plainOver K C = true)
    (sa : PySem.W.findIn K (.ref C) "__setattr__" = some (some (.builtin "object.__setattr__"))) (mk : PySem.W.makesIn K C = true) (kc : PySem.W.keepIn K (.ref C) = true)
    (ha : PySem.W.findIn K (.ref C) "__class__" = some (some (.builtin "object.__class__"))) (hn : PySem.W.specialIn K (.builtin "object.__class__") "__get__" = some (some (.builtin "getset_descriptor.__get__"))) (ht : PySem.W.takesIn K (.builtin "object.__class__") = some true)
    (hm : PySem.W.mroIn K C (.type "object") = some true) (ob : PySem.W.subIn K (.ref C) (.type "object") = some true) (ne : PySem.W.findIn K (.ref C) "__ne__" = some (some (.builtin "object.__ne__"))) : ClsF K mg x C :=
  ⟨PySem.W.mg_of X G a, ⟨pg, hd, po, sa⟩, mk, kc, ha, hn, ht, hm, ob, ne⟩
theorem exc_mk (X : K.In h) (G : h.Ns mainGlobals mg) (a : PySem.W.nsIn K mainGlobals x = some (some (.ref C))) (e : PySem.W.excIn K C [.type "ValueError", .type "Exception", .type "BaseException", .type "object"] "ValueError.__new__" = true) (k : PySem.W.keepIn K (.ref C) = true) (ty : PySem.W.typeIn K (.ref C) = some (.type "type"))
    (hg : PySem.W.findIn K (.ref C) "__getattribute__" = some (some (.builtin "BaseException.__getattribute__"))) (hk : PySem.W.findIn K (.ref C) "__getattr__" = some none) (hs : PySem.W.subIn K (.ref C) (.type "BaseException") = some true) (hd : PySem.W.hasDictIn K C = true)
    (ha : PySem.W.findIn K (.ref C) "__class__" = some (some (.builtin "object.__class__"))) (hn : PySem.W.specialIn K (.builtin "object.__class__") "__get__" = some (some (.builtin "getset_descriptor.__get__"))) (ht : PySem.W.takesIn K (.builtin "object.__class__") = some true) (hm : PySem.W.mroIn K C (.type "object") = some true) : ExcF K mg x C :=
  ⟨PySem.W.mg_of X G a, e, k, ty, ⟨hg, hk, hs, hd, ha, hn, ht, hm⟩⟩
theorem fun1_mk (X : K.In h) (G : h.Ns mainGlobals mg) {fa : Addr} (hm : mg x = some (.ref fa)) (a : PySem.W.nsIn K mainGlobals x = some (some (.ref f))) (l : K.lookup f = some ⟨oc, od, .func (PySem.W.fnOf x x (defArgs st) (defBody st) (defScope st) .none kV dc pm an cd ct), sl⟩)
    (c : PySem.W.codeIn K cd x = true) (k : PySem.W.keepIn K (.ref f) = true) : Fun K x x st fa (PySem.W.fnOf x x (defArgs st) (defBody st) (defScope st) .none kV dc pm an cd ct) := by
  have e := hm.symm.trans (PySem.W.mg_of X G a)
  cases e
  exact fun_mk (st := st) l c k
end
/-- the law's end: its def's promise -/
theorem end_walk {l : PySem.W.OpenLaw} {q : Program} {loose : List Str} {XP : (Str → Option Value) → Heap → Prop} {YP : World → Heap → Prop} {d : DefRec} {K : Params → PySem.W.Frag} {k : Nat} {x : Str} {sp : PySem.W.Frag → Sp} (hn : l.most = some 63) (hdf : d.params.defaults = []) (hr : Room k callerA)
    (hY : ∀ (w : World) (h : Heap), YP w h → (K w.params).In h)
    (hsp : ∀ (K : PySem.W.Frag) (H : Hp) (a : Addr) (ns : List Int), ns.length ≤ 63 → Only H → SqL K H a (ns.map V.int) → sp K [.ref a] H (fun v _ => v = .bl true) fun _ _ _ => False)
    (F : ∀ (w : World) (mg : Str → Option Value) (fa : Addr) (h : Heap), (K w.params).In h → h.Ns mainGlobals mg → mg d.name = some (.ref fa) →
      ∃ fd : FuncData, (∀ (s : Shared) (u : Value), BindsTo s fd ⟨[u], []⟩ [(x, u)]) ∧ ∀ base : Heap, (K w.params).In base → base.Ns mainGlobals mg → FnOk l.prog w (K w.params) mg base CX0 k fa fd [x] (sp (K w.params))) :
    PySem.W.WalkO q loose XP YP l.row.toRowW d [] (fun f vs => PySem.call f vs) := L2.walk_ofK (n := 63) hn (by decide) hdf hr hY F hsp fun _ _ _ _ z => z
end Cw
set_option Elab.async false
set_option linter.all false
set_option maxRecDepth 100000
set_option maxHeartbeats 4000000
/-! an own exception with fields: what the top has left of it -/
namespace Cw
open PySem PySem.Spec L2
theorem exE_mk {P : Program} {K : PySem.W.Frag} {h : Heap} {mg : Str → Option Value} {x qual nm q : Str} {st : Stmt} {C N f cda cc : Addr} {bs bm sub : List Value} {sn : List Str} {ab : Bool} {col : Option Bool} {dd : Option Addr} {k0 k1 k2 k3 k5 : Option Value}
    {oc kV doc pm ct ccl cl : Value} {od an cdd cld : Option Addr} {sl ccs csl : Array (Option Value)} {vs : Array Value} {file : Str} {tf : Tok} {ar : Arg}
    (X : K.In h) (G : h.Ns mainGlobals mg) (a : PySem.W.nsIn K mainGlobals x = some (some (.ref C)))
    (lk : K.lookup C = some (excClassObj nm q C N bs bm true sn sub ab col dd k0 k1 k2 k3 k5 "ValueError.__new__")) (rv : PySem.HandSPX.refsVE bm = true)
    (sa : PySem.W.findIn K (.ref C) "__setattr__" = some (some (.builtin "object.__setattr__"))) (hs : PySem.W.subIn K (.ref C) (.type "BaseException") = some true) (ty : PySem.W.typeIn K (.ref C) = some (.type "type")) (k : PySem.W.keepIn K (.ref C) = true)
    (hg : PySem.W.findIn K (.ref C) "__getattribute__" = some (some (.builtin "BaseException.__getattribute__"))) (hk : PySem.W.findIn K (.ref C) "__getattr__" = some none) (hd : PySem.W.hasDictIn K C = true)
    (ha : PySem.W.findIn K (.ref C) "__class__" = some (some (.builtin "object.__class__"))) (hn : PySem.W.specialIn K (.builtin "object.__class__") "__get__" = some (some (.builtin "getset_descriptor.__get__"))) (ht : PySem.W.takesIn K (.builtin "object.__class__") = some true) (hm : PySem.W.mroIn K C (.type "object") = some true)
    (fi : PySem.W.findIn K (.ref C) "__init__" = some (some (.ref f))) (ti : PySem.W.typeIn K (.ref f) = some (.type "function"))
    (lf : K.lookup f = some ⟨oc, od, .func (PySem.W.fnX "__init__" qual (defArgs st) (defBody st) (defScope st) [(("__class__" : Str), cc)] .none kV doc pm an (.ref cda) ct), sl⟩)
    (cd : PySem.W.codeIn K (.ref cda) qual = true) (par : ((defArgs st).posonlyargs ++ (defArgs st).args).head? = some ar) (par2 : ar.arg = "self")
    (lc : K.lookup cda = some ⟨ccl, cdd, .fields vs, ccs⟩) (v2 : vs[2]? = some (.str file tf)) (fe : ((P.main.file : Str) == file) = true) (top : (P.main.scope.names.lookup ("super" : Str)).isSome = false)
    (lcc : K.lookup cc = some ⟨cl, cld, .cell (some (.ref C)), csl⟩) (op : PySem.W.nsIn K PySem.cStatics "thirdparty.any" = some none) (up : PySem.W.ks_superIn K C C "__init__" = some (some (.builtin "ValueError.__init__"))) : ExcE P K mg x C qual st :=
  ⟨PySem.W.mg_of X G a, ⟨⟨_, _, _, _, _, _, _, _, _, _, _, _, _, _, _, lk, rv⟩, sa, hs, ty, k⟩, ⟨hg, hk, hs, hd⟩, ⟨hg, hk, hs, hd, ha, hn, ht, hm⟩, f, cda, cc, _, kV, doc, pm, an, ct, fi, ti, rfl, cd, ⟨_, _, _, lf⟩, ⟨ar, par, par2⟩, ⟨_, _, _, _, _, _, lc, v2, fe⟩, top, ⟨_, _, _, lcc⟩, op, up⟩
theorem kit_ref {K : PySem.W.Frag} {C : Addr} {t : Value} {b : Bool} (hc : PySem.W.isClsIn K C = true) (ht : PySem.W.typeIn K (.ref C) = some (.type "type")) (hs : PySem.W.subIn K t (.ref C) = some b) (hn : (t == .ref C) = false ∨ b = true) : PySem.W.kitOne K t (.ref C) = some b := by
  unfold PySem.W.kitOne
  by_cases e : (t == .ref C) = true
  · rw [if_pos e]
    rcases hn with h | h
    · rw [h] at e; cases e
    · rw [h]
  · rw [if_neg e]
    have h2 : ((PySem.W.clsIn K C).isSome && PySem.W.typeIn K (.ref C) == some (.type "type")) = true := by
      have : (PySem.W.clsIn K C).isSome = true := hc
      rw [this, ht]
      rfl
    show (if ((PySem.W.clsIn K C).isSome && PySem.W.typeIn K (.ref C) == some (.type "type")) = true then PySem.W.subIn K t (.ref C) else none) = some b
    rw [if_pos h2]
    exact hs
end Cw
set_option Elab.async false
set_option linter.all false
set_option maxRecDepth 100000
set_option maxHeartbeats 4000000
/-! CwHeadK: the head with the law's heap told, by one run of the top over the tree -/
namespace CwTop
open PySem PySem.W PySem.Calls PyProof.Rows
/-- a hook named -/
def TagH (_ : Hook) : Prop := True
theorem headK {r : OpenRow} {q : Program} {K : Params → PySem.W.Frag} {as : List Addr} {ek : ∀ P, as = (K P).map (·.1)} {M : Nat} {loose : List PySem.Str} {d : DefRec} {kwd : List (PySem.Str × PySem.Expr)} (_ : TagH (kHook K as ek))
    (e : opening r.prog = plainProg r.prog.main.scope.names) (f : ∀ s, fenceModules? r.prog s = some s) (run : ∀ w, HandSHeadRun.RunEq r q (kHook K as ek) (fun s => as.map (HandSHeadRun.getT s)) M loose w)
    (hdef : defOf q r.name = some (d, kwd)) (hp : r.prog.theDef r.name = some (d.params, d.body, d.scope)) (hk : kwWritten? d.params.kwonlyargs d.params.kw_defaults = some kwd)
    (hwr : (!r.writes || r.records.isEmpty) = true) (k1 : r.wellSaid = true) (ok : (chainsOk q && opensWell r.prog && (frees r.toRowW && r.within.isEmpty)) = true) (hb : r.prog.bare) (hw : r.toRowW.promised)
    (call : WalkO q loose (XL q []) (kHook K as ek).says r.toRowW d kwd fun f vs => PySem.call f vs) : r.Holds :=
  HandSHeadRun.head_any (ob := fun s => as.map (HandSHeadRun.getT s)) (fun s => List.map_congr_left fun a _ => HandSHeadRun.getT_eq s a) e f run hdef hp hk hwr k1 ok hb hw call
end CwTop
set_option Elab.async false
set_option linter.all false
set_option maxRecDepth 100000
namespace CwTop
open PySem PySem.W PySem.Calls PyProof.Rows
abbrev topRow : OpenRow := OpenLaw.row PySem.Challenge.rw_crosswalls_k18_common_and_beyond_both
abbrev topView : Program := view topRow.prog [topRow.prog.main.body.length - 1]
def topLoose : List PySem.Str := topRow.prog.boundNames.filter fun x => x != topRow.name
end CwTop
open PySem PySem.W PySem.Calls PyProof.Rows in
local macro_rules | `(tactic| o_head $H) => `(tactic| refine CwTop.headK (r := CwTop.topRow) (q := CwTop.topView) (M := 9000) (loose := CwTop.topLoose) (show CwTop.TagH $H from trivial) (by kernel_rfl) (fun s => by kernel_rfl) (fun w => by intro os; kernel_rfl) (by rfl) (by rfl) (by rfl) (by rfl) (by first | assumption | decide +kernel) (by decide +kernel) ⟨rfl, rfl, rfl, rfl, rfl, by decide +kernel⟩ ?hw ?hc)
open PySem PySem.W PyProof.Rows in
set_option maxHeartbeats 0 in
open_top Cw.headOf for PySem.Challenge.rw_crosswalls_k18_common_and_beyond_both
set_option Elab.async false
set_option linter.all false
set_option maxRecDepth 100000
set_option maxHeartbeats 4000000
namespace Cw
open PySem PySem.Spec L2
local macro_rules | `(tactic| walk_at "side") => `(tactic| first | omega | assumption | (dsimp only; omega) | (unfold CMul; omega) | exact ⟨by decide, by decide, by decide⟩ | exact wdiv (by first | assumption | decide | omega) (by first | assumption | decide | omega) | (simp only [List.length_cons, List.length_nil]; omega) | rfl)
local macro_rules | `(tactic| walk_at "hl") => `(tactic| first | assumption | exact upd_same | ((refine Cw.Same.at (by assumption) ?_); walk_at "hl") | ((refine Cw.Keep.at (by assumption) ?_ (by assumption)); walk_at "hl"))
local macro_rules | `(tactic| walk_at "st") => `(tactic| first
  | (with_reducible refine s_seq ?_) | (with_reducible refine g_nm ?_) | (with_reducible refine s_next ?_) | (with_reducible refine s_set ?_) | (with_reducible refine s_drop ?_) | (with_reducible refine s_ret ?_) | (with_reducible refine s_if ?_)
  | ((with_reducible refine e_varG ?_); refine ⟨_, (by with_unfolding_all rfl), ?_⟩) | (with_reducible refine e_c ?_) | (with_reducible refine e_op ?_) | (with_reducible refine e_un ?_)
  | (with_reducible refine e_cons ?_) | (with_reducible refine e_nil ?_) | (with_reducible refine e_cb ?_) | (with_reducible refine e_call ?_) | (with_reducible refine e_md ?_)
  | (with_reducible refine t_test ?_) | (with_reducible refine t_B ?_) | (with_reducible refine t_and ?_) | (with_reducible refine t_or ?_) | (with_reducible refine t_not ?_)
  | (with_reducible refine e_andV ?_) | (with_reducible refine e_orV ?_) | (with_reducible refine e_notV ?_) | (with_reducible refine e_if ?_)
  | (with_reducible refine v_I0 ?_) | ((with_reducible refine v_I ?c ?_); try (case c => walk_at "side")) | (with_reducible refine v_bl ?_)
  | ((with_reducible refine v_eq ?c ?_); (case c => with_unfolding_all rfl)) | ((with_reducible refine v_ne ?c ?_); (case c => with_unfolding_all rfl))
  | (with_reducible refine v_inti ?_) | (with_reducible refine v_intb ?_) | ((with_reducible refine v_lenG ?_); refine ⟨_, (by walk_at "hl"), ?_⟩)
  | ((with_reducible refine v_lenS ?c ?_); try (case c => walk_at "side"))
  | (with_reducible refine e_dnew ?_) | (with_reducible refine e_dget ?_) | (with_reducible refine s_dput ?_) | (with_reducible refine e_lst ?_) | (with_reducible refine e_tup ?_)
  | ((with_reducible refine v_lst ?c ?_); (case c => walk_at "side")) | ((with_reducible refine v_tup ?c ?_); (case c => walk_at "side"))
  | ((with_reducible refine v_dgetG ?_); refine ⟨_, (by assumption), ?_⟩)
  | (with_reducible refine e_sl ?_) | (with_reducible refine e_nopart ?_) | (with_reducible refine e_part ?_) | (with_reducible refine e_m1 ?_) | (with_reducible refine v_isS ?_) | (with_reducible refine v_int ?_)
  | (with_reducible refine e_lc ?_) | (with_reducible refine e_iStr ?_) | (with_reducible refine e_iEnumS ?_) | (with_reducible refine v_iEnumS ?_) | (with_reducible refine v_str ?_) | (with_reducible refine e_yes ?_) | (with_reducible refine e_fld ?_) | (with_reducible refine e_sfld ?_)
  | ((with_reducible refine v_addS ?c ?_); try (case c => walk_at "side")) | (with_reducible refine v_inS ?_) | (with_reducible refine v_notInS ?_) | (with_reducible refine v_ltS ?_)
  | ((with_reducible refine v_inLG ?_); refine ⟨_, (by walk_at "hl"), ?_⟩) | (with_reducible refine v_isiS ?_) | (with_reducible refine e_revS ?_) | ((with_reducible refine v_revS ?c ?_); try (case c => walk_at "side"))
  | ((with_reducible refine v_lenSetG ?_); refine ⟨_, (by walk_at "hl"), ?_⟩)
  | (with_reducible refine e_bm ?_) | (with_reducible refine e_bm0 ?_) | ((with_reducible refine v_tyLG ?_); refine ⟨_, (by walk_at "hl"), ?_⟩)
  | (with_reducible refine iteNT ?_) | (with_reducible refine iteNF ?_) | (with_reducible refine e_for ?_)
  | (with_reducible refine e_iL ?_) | (with_reducible refine e_iT ?_) | ((with_reducible refine v_iLG ?_); refine ⟨_, (by walk_at "hl"), ?_⟩) | (with_reducible refine e_iR1 ?_) | ((with_reducible refine v_iR1 ?c1 ?c2 ?_); try (case c1 => walk_at "side"); try (case c2 => walk_at "side"))
  | (with_reducible refine e_iR2 ?_) | ((with_reducible refine v_iR2 ?c1 ?_); try (case c1 => walk_at "side"))
  | (with_reducible refine e_pr0 ?_) | (with_reducible refine e_pr ?_) | (with_reducible refine e_disp ?_) | (with_reducible refine s_asgT ?_) | (with_reducible refine e_tryA ?_) | (with_reducible refine e_callS ?_) | (with_reducible refine e_mdS ?_) | (with_reducible refine e_par ?_) | (with_reducible refine v_par ?_) | (with_reducible refine e_par3 ?_) | (with_reducible refine v_par3 ?_) | (with_reducible refine e_iK ?_) | (with_reducible refine e_dnotin ?_)
  | (with_reducible refine iteT ?_) | (with_reducible refine iteF ?_))
local macro_rules | `(tactic| walk_at "go") => `(tactic| repeat walk_at "st")
section
open PySem PySem.Spec L2
def top (i : Nat) : Stmt := PySem.Challenge.pw_crosswalls_k18_common_and_beyond_both.main.body.getD i (.Pass ⟨0, 0, 0, 0⟩)
/-! ### the pen -/
def penL (cl : Addr) (a r : Int) : List (Key × V) := [(Sum.inr "cells", .ref cl), (Sum.inr "place", .int a), (Sum.inr "rest", .int r)]
structure Pen where
  p : Addr
  cl : Addr
  cells : List Int
structure PenAt (g : Pen) (H : Hp) (n : Nat) : Prop where
  ex : ∃ (a r : Int), H g.p = some (.dK (penL g.cl a r)) ∧ H g.cl = some (.lst (g.cells.map V.int)) ∧ g.cells.length ≤ 63 ∧ 0 ≤ a ∧ a ≤ n ∧ 0 ≤ r
section
variable {g : Pen} {H H' : Hp} {n m : Nat} {q : Addr}
theorem PenAt.mono (h : PenAt g H n) (l : n ≤ m) : PenAt g H m := by
  obtain ⟨a, r, h1, h2, h3, h4, h5, h6⟩ := h.ex
  exact ⟨a, r, h1, h2, h3, h4, by omega, h6⟩
theorem PenAt.same (h : PenAt g H n) (s : Same H H') : PenAt g H' n := by
  obtain ⟨a, r, h1, h2, h3, h4, h5, h6⟩ := h.ex
  exact ⟨a, r, s _ _ h1, s _ _ h2, h3, h4, h5, h6⟩
theorem PenAt.keep (h : PenAt g H n) (s : Keep q H H') (n1 : g.p ≠ q) (n2 : g.cl ≠ q) : PenAt g H' n := by
  obtain ⟨a, r, h1, h2, h3, h4, h5, h6⟩ := h.ex
  exact ⟨a, r, s _ _ h1 n1, s _ _ h2 n2, h3, h4, h5, h6⟩
theorem PenAt.p_ne (h : PenAt g H n) (s : H q = none) : g.p ≠ q := by
  obtain ⟨a, r, h1, h2, h3, h4, h5, h6⟩ := h.ex
  exact ne_of_none h1 s
theorem PenAt.cl_ne (h : PenAt g H n) (s : H q = none) : g.cl ≠ q := by
  obtain ⟨a, r, h1, h2, h3, h4, h5, h6⟩ := h.ex
  exact ne_of_none h2 s
end
theorem kcp : ¬ ((Sum.inr ("cells" : Str) : Key) = Sum.inr ("place" : Str)) := by decide +kernel
theorem kcr : ¬ ((Sum.inr ("cells" : Str) : Key) = Sum.inr ("rest" : Str)) := by decide +kernel
theorem kpr : ¬ ((Sum.inr ("place" : Str) : Key) = Sum.inr ("rest" : Str)) := by decide +kernel
section
variable {H : Hp} {p cl : Addr} {a r z : Int}
theorem pen_cells (h : H p = some (.dK (penL cl a r))) : DGet H p (.str "cells") (some (.ref cl)) := by
  have e := DGet.k (k := Sum.inr "cells") h
  rw [penL, valV_pos rfl] at e
  exact e
theorem pen_place (h : H p = some (.dK (penL cl a r))) : DGet H p (.str "place") (some (.int a)) := by
  have e := DGet.k (k := Sum.inr "place") h
  rw [penL, valV_neg kcp, valV_pos rfl] at e
  exact e
theorem pen_rest (h : H p = some (.dK (penL cl a r))) : DGet H p (.str "rest") (some (.int r)) := by
  have e := DGet.k (k := Sum.inr "rest") h
  rw [penL, valV_neg kcr, valV_neg kpr, valV_pos rfl] at e
  exact e
theorem put_place : putK (penL cl a r) (Sum.inr "place") (.int z) = penL cl z r := by
  unfold putK penL
  rw [if_pos (by rw [valV_any]; first | (rw [valV_neg kcp, valV_pos rfl] <;> rfl) | (rw [valV_neg kcr, valV_neg kpr, valV_pos rfl] <;> rfl))]
  show [(if _ then _ else _), (if _ then _ else _), (if _ then _ else _)] = _
  rw [if_neg kcp, if_pos rfl, if_neg (fun e => kpr e.symm)]
theorem put_rest : putK (penL cl a r) (Sum.inr "rest") (.int z) = penL cl a z := by
  unfold putK penL
  rw [if_pos (by rw [valV_any]; first | (rw [valV_neg kcp, valV_pos rfl] <;> rfl) | (rw [valV_neg kcr, valV_neg kpr, valV_pos rfl] <;> rfl))]
  show [(if _ then _ else _), (if _ then _ else _), (if _ then _ else _)] = _
  rw [if_neg kcr, if_neg kpr, if_pos rfl]
theorem pen_setPlace (h : H p = some (.dK (penL cl a r))) : DPut H p (.str "place") (.int z) (upd H p (.dK (penL cl z r))) := by
  have e := DPut.k (k := Sum.inr "place") (v := .int z) h (by show 3 < sizeLine; decide)
  rw [put_place] at e
  exact e
theorem pen_setRest (h : H p = some (.dK (penL cl a r))) : DPut H p (.str "rest") (.int z) (upd H p (.dK (penL cl a z))) := by
  have e := DPut.k (k := Sum.inr "rest") (v := .int z) h (by show 3 < sizeLine; decide)
  rw [put_rest] at e
  exact e
end
/-! ### the module's built-in names -/
structure Txt (K : PySem.W.Frag) (mg : Str → Option Value) : Prop where
  len : mg "len" = none
  int : mg "int" = none
  list : mg "list" = none
def spDraw : Sp := fun vs H Q _ => ∃ (g : Pen) (m : Int) (n : Nat), vs = [.ref g.p, .int m] ∧ 0 < m ∧ m < 1000000 ∧ PenAt g H n ∧ n < 1000000 ∧
  ∀ (z : Int) (H' : Hp), 0 ≤ z → z < m → PenAt g H' (n + 1) → Keep g.p H H' → Q (.int z) H'
section
variable {P : Program} {w : World} {K : PySem.W.Frag} {mg : Str → Option Value} {base : Heap}
abbrev stdraw : Stmt := (top 56)
abbrev Ndraw : List Str := ["_law_pen_here", "_law_number", "_law_digit", "_law_at", "_law_cell", "_law_mixed"]
theorem scdraw : FnScope Ndraw ["_law_pen_here", "_law_number"] (defScope stdraw) := ⟨rfl, rfl, rfl, by decide +kernel, rfl, by decide +kernel, by decide +kernel⟩

theorem ok_draw (F : FnAt K mg "_law_draw" stdraw) (T : Txt K mg) : Def P w K mg base CX0 1 "_law_draw" ["_law_pen_here", "_law_number"] spDraw := by
  refine F.ok scdraw (fun _ _ _ _ _ _ us hl => match us, hl with | [_, _], _ => rfl) (fun vs H Q E h => ?_) (fun f cdv A outer s H vs Q E hr h => ?_)
  · obtain ⟨p, m, n, rfl, _⟩ := h
    rfl
  obtain ⟨⟨p, cl, cells⟩, m, n, rfl, hm0, hm1, hp, hn, k⟩ := h
  have hu := hu_of hr
  have nd := scdraw.nd
  refine ⟨_, (pss_cons (ps_if (pt_cmpR op_ge (pe_dget hu (pv 0) pe_str (fun _ _ => rfl)) (pv 1) (nomark _))
      (pss_cons (ps_set (i := 2) nd rfl (Or.inl rfl) (pe_op op_mod (pe_callTy c_int (by rfl) T.int (by decide +kernel) (pa_cons (pe_dget hu (pv 0) pe_str (fun _ _ => rfl)) pa_nil)) (pv 1)))
        (pss_cons (ps_dput hu (pv 0) pe_str (pe_op op_fdivW (pe_dget hu (pv 0) pe_str (fun _ _ => rfl)) (pv 1)) rfl)
        (pss_one (ps_ret (pv 2)))))
      pss_nil)
      (pss_cons (ps_set (i := 3) nd rfl (Or.inl rfl) (pe_dget hu (pv 0) pe_str (fun _ _ => rfl)))
      (pss_cons (ps_dput hu (pv 0) pe_str (pe_op op_add (pv 3) pe_int) rfl)
      (pss_cons (ps_set (i := 4) nd rfl (Or.inl rfl) (pe_op op_add (pe_op op_mul pe_int (pv 3)) pe_int))
      (pss_cutS (ps_if (pt_cmpR (op_neDK (K := K) rfl hr.units) (pe_dget hu (pv 0) pe_str (fun _ _ => rfl)) (pe_lst pa_nil) (nomark _))
      (pss_one (ps_set (i := 4) nd rfl (Or.inl rfl) (pe_ix (ix_LK (K := K) rfl) (pe_dget hu (pv 0) pe_str (fun _ _ => rfl)) (pe_op op_mod (pe_callTy c_int (by rfl) T.int (by decide +kernel) (pa_cons (pv 3) pa_nil)) (pe_callB (c_lenK (K := K) rfl) (by rfl) T.len PySem.boot_len (pa_cons (pe_dget hu (pv 0) pe_str (fun _ _ => rfl)) pa_nil))) (fun _ _ => rfl))))
      pss_nil)
      (pss_cutS (ps_if (PW.pt (pw_and (pt_cmpR op_lt (pv 3) (pe_callB (c_lenK (K := K) rfl) (by rfl) T.len PySem.boot_len (pa_cons (pe_dget hu (pv 0) pe_str (fun _ _ => rfl)) pa_nil)) (nomark _)) (pw_and1 (pt_cmpR op_ge (pv 4) (pe_op op_pow pe_int pe_int) (nomark _)))))
      (pss_cons (ps_dput hu (pv 0) pe_str (pe_op op_fdivW (pe_op op_sub (pv 4) (pe_op op_pow pe_int pe_int)) (pv 1)) rfl)
        (pss_one (ps_ret (pe_op op_mod (pe_callTy c_int (by rfl) T.int (by decide +kernel) (pa_cons (pe_op op_sub (pv 4) (pe_op op_pow pe_int pe_int)) pa_nil)) (pv 1)))))
      pss_nil)
      (pss_cons (ps_set (i := 5) nd rfl (Or.inl rfl) (pe_op op_mod (pe_callTy c_int (by rfl) T.int (by decide +kernel) (pa_cons (pe_op op_add (pe_op op_add (pe_op op_add (pe_op op_mul (pe_op op_mod (pe_callTy c_int (by rfl) T.int (by decide +kernel) (pa_cons (pv 4) pa_nil)) pe_int) pe_int) (pe_op op_mul (pe_op op_mul pe_int (pv 3)) (pv 3))) (pe_op op_mul pe_int (pv 3))) pe_int) pa_nil)) pe_int))
      (pss_cons (ps_set (i := 5) nd rfl (Or.inl rfl) (pe_op op_mod (pe_callTy c_int (by rfl) T.int (by decide +kernel) (pa_cons (pe_op op_add (pe_op op_mul (pv 5) (pe_op op_add (pv 5) pe_int)) (pe_op op_mul pe_int (pv 3))) pa_nil)) pe_int))
      (pss_one (ps_ret (pe_op op_mod (pe_callTy c_int (by rfl) T.int (by decide +kernel) (pa_cons (pe_op op_fdivW (pe_op op_mod (pe_callTy c_int (by rfl) T.int (by decide +kernel) (pa_cons (pe_op op_add (pe_op op_mul (pv 5) (pv 5)) (pe_op op_mul pe_int (pv 5))) pa_nil)) pe_int) pe_int) pa_nil)) (pv 1)))))))))))), ?_⟩
  refine s_start [some _, some _, none, none, none, none] rfl ?_
  obtain ⟨a, r, h1, h2, h3, h4, h5, h6⟩ := hp.ex
  dsimp only at h1 h2 h3 k ⊢
  have g1 := pen_rest h1
  have g2 := pen_place h1
  have g3 := pen_cells h1
  have fin : ∀ (H2 : Hp) (a2 r2 z : Int), H2 p = some (.dK (penL cl a2 r2)) → Keep p H H2 → 0 ≤ a2 → a2 ≤ a + 1 → 0 ≤ r2 → 0 ≤ z → z < m → Q (.int z) H2 := by
    intro H2 a2 r2 z e1 e2 e3 e4 e5 e6 e7
    have ne : cl ≠ p := ne_of h2 h1 (by intro z; cases z)
    exact k z H2 e6 e7 ⟨a2, r2, e1, e2 _ _ h2 ne, h3, e3, by omega, e5⟩ e2
  walk_at "go"
  refine if_dec (fun c => ?_) (fun c => ?_)
  · walk_at "go"
    refine v_put (pen_setRest h1) fun H1 s1 e1 => ?_
    walk_at "go"
    refine fin H1 _ _ _ e1 s1 h4 (by omega) (Int.ediv_nonneg h6 (by omega)) (Int.emod_nonneg _ (by omega)) (Int.emod_lt_of_pos _ hm0)
  · walk_at "go"
    refine v_put (pen_setPlace h1) fun H1 s1 e1 => ?_
    have ne : cl ≠ p := ne_of h2 h1 (by intro z; cases z)
    have h2' := s1 _ _ h2 ne
    have g1 := pen_rest e1
    have g3 := pen_cells e1
    walk_at "go"
    refine s_cut (fun σ' H' => ∃ c : Int, σ' = [some (.ref p), some (.int m), none, some (.int a), some (.int c), none] ∧ Same H1 H') ?_ ?_
    · walk_at "go"
      intro q H2 hq s2 e2
      refine v_neNilI (s2 _ _ h2') e2 ?_
      have g3 := pen_cells (s2 _ _ e1)
      walk_at "go"
      refine if_bool (fun c => ?_) (fun c => ?_)
      · have hne : 0 < cells.length := by
          cases cells with
          | nil => simp at c
          | cons _ _ => simp
        walk_at "go"
        · rw [List.length_map]; omega
        walk_at "go"
        rw [List.length_map]
        have hz0 : 0 ≤ a % (cells.length : Int) := Int.emod_nonneg _ (by omega)
        have hz1 : a % (cells.length : Int) < cells.length := Int.emod_lt_of_pos _ (by omega)
        have hlt : (a % (cells.length : Int)).toNat < cells.length := by omega
        refine v_ixL (s2 _ _ h2') (at_of (j := (a % (cells.length : Int)).toNat) (by omega) (by rw [List.getElem?_map, List.getElem?_eq_getElem hlt]; rfl)) ?_
        exact ⟨_, rfl, s2⟩
      · walk_at "go"
        exact ⟨_, rfl, s2⟩
    · rintro σ' H2 ⟨c, rfl, s2⟩
      have e2 := s2 _ _ e1
      have h22 := s2 _ _ h2'
      have g3 := pen_cells e2
      have kk : Keep p H H2 := s1.trans (Keep.of s2)
      have ze : (10 : Int) ^ (18 : Int).toNat = 1000000000000000000 := by decide
      refine s_cut (fun σ' H' => σ' = [some (.ref p), some (.int m), none, some (.int a), some (.int c), none] ∧ H' = H2) ?_ ?_
      · walk_at "go"
        refine if_dec (fun c1 => ?_) (fun c1 => ?_)
        · walk_at "go"
          rw [ze]
          refine if_dec (fun c2 => ?_) (fun c2 => ?_)
          · walk_at "go"
            rw [ze]
            refine v_put (pen_setRest e2) fun H3 s3 e3 => ?_
            walk_at "go"
            rw [ze]
            exact fin H3 _ _ _ e3 (kk.trans s3) (by omega) (by omega) (Int.ediv_nonneg (by omega) (by omega)) (Int.emod_nonneg _ (by omega)) (Int.emod_lt_of_pos _ hm0)
          · walk_at "go"
            exact ⟨rfl, rfl⟩
        · walk_at "go"
          exact ⟨rfl, rfl⟩
      · rintro σ' H' ⟨rfl, rfl⟩
        walk_at "go"
        exact fin H' _ _ _ e2 kk (by omega) (by omega) h6 (Int.emod_nonneg _ (by omega)) (Int.emod_lt_of_pos _ hm0)
end
end
section
open PySem PySem.Spec L2
structure TxtP (K : PySem.W.Frag) (mg : Str → Option Value) (C : Addr) : Prop where
  len : mg "len" = none
  int : mg "int" = none
  list : mg "list" = none
  isinstance : mg "isinstance" = none
  str : mg "str" = none
  all : mg "all" = none
  set : mg "set" = none
  tuple : mg "tuple" = none
  g_LETTERS : ∃ t, mg "LETTERS" = some (.str (tx LET) t)
  g_MOST_KINDS : ∃ t, mg "MOST_KINDS" = some (.int 8 t)
  Plan : ClsF K mg "Plan" C
  nK : NoAttr K C "kinds"
  nP : NoAttr K C "pairs"
  nO : NoAttr K C "own_crossing"
def spAreLetters : Sp := fun vs H Q _ => ∃ l : List Nat, vs = [.str (tx l)] ∧ l.length < 1000 ∧ ∀ H', Same H H' → Q (.bl (decide ((∀ c ∈ l, c ∈ LET) ∧ l.Nodup))) H'
def spAscending : Sp := fun vs H Q _ => ∃ l : List Nat, vs = [.str (tx l)] ∧ ∀ H', Same H H' → Q (.str (tx (ascOf l))) H'
def spIsList (K : PySem.W.Frag) : Sp := fun vs H Q _ => ∃ (p : Addr) (xs : List V), vs = [.ref p] ∧ SeqO K H p xs ∧ ∀ H', Same H H' → Q (.bl true) H'
def spNeedFew : Sp := fun vs H Q _ => ∃ l : List Nat, vs = [.str (tx l)] ∧ l.length ≤ 8 ∧ Q .non H
section
variable {P : Program} {w : World} {K : PySem.W.Frag} {mg : Str → Option Value} {base : Heap} {C : Addr}
abbrev stare_letters : Stmt := (top 47)
abbrev Nare_letters : List Str := ["value", "letter"]
theorem scare_letters : FnScope Nare_letters ["value"] (defScope stare_letters) := ⟨rfl, rfl, rfl, by decide +kernel, rfl, by decide +kernel, by decide +kernel⟩

theorem ok_are_letters (F : FnAt K mg "are_letters" stare_letters) (T : TxtP K mg C) : Def P w K mg base CX0 1 "are_letters" ["value"] spAreLetters := by
  refine F.ok scare_letters (fun _ _ _ _ _ _ us hl => match us, hl with | [_], _ => rfl) (fun vs H Q E h => ?_) (fun f cdv A outer s H vs Q E hr h => ?_)
  · obtain ⟨l, rfl, _⟩ := h
    rfl
  obtain ⟨l, rfl, hl, k⟩ := h
  have hu := hu_of hr
  have nd := scare_letters.nd
  refine ⟨_, (pss_one (ps_ret (pe_and (pe_callB (c_isiK (K := K) rfl) (by rfl) T.isinstance (by decide +kernel) (pa_cons (pv 0) (pa_cons (pe_bltn (v := .ty "str") (u := .type "str") (by rfl) T.str (by decide +kernel) rfl) pa_nil))) (pe_and (pe_callB (c_allK (K := K) rfl rfl) (by rfl) T.all (by decide +kernel) (pa_cons (pe_lc (own := [("letter", 1)]) (g := gName 1) (by rfl) nd (pi_str (pv 0)) (blkOk_by (own := [("letter", 1)]) (N := Nare_letters) (sc := defScope stare_letters) (by decide +kernel)) (fun _ _ _ _ _ => (pg_name (i := 1) nd rfl (Or.inl rfl))) (fun _ _ _ _ _ => pts_nil) (fun _ _ _ _ _ => (pe_cmpR op_inS (pv 1) (pe_globS T.g_LETTERS) (by rfl)))) pa_nil)) (pe_one (pe_cmpR op_eq (pe_callB c_lenSet (by rfl) T.len PySem.boot_len (pa_cons (pe_callTy (c_setS rfl) (by rfl) T.set (by decide +kernel) (pa_cons (pv 0) pa_nil)) pa_nil)) (pe_callB c_lenS (by rfl) T.len PySem.boot_len (pa_cons (pv 0) pa_nil)) (nomark _))))))), ?_⟩
  refine s_start [some _, none] rfl ?_
  walk_at "go"
  refine v_lcS (b := fun _ => true) (f := fun c => V.bl (decide (c ∈ LET))) (by omega) (fun c _ H1 s1 R r => ?_) (fun c _ _ H1 s1 R r => ?_) (fun D H1 hD s1 e1 => ?_)
  · walk_at "go"
    exact r H1 (Same.refl _)
  · walk_at "go"
    exact r H1 (Same.refl _)
  walk_at "go"
  have e2 : H1 D = some (.lst ((l.map fun c => decide (c ∈ LET)).map V.bl)) := by
    rw [e1, List.map_map, filter_yes]
    rfl
  refine v_all e2 ?_
  walk_at "go"
  have ha : (l.map fun c => decide (c ∈ LET)).all id = decide (∀ c ∈ l, c ∈ LET) := by
    rw [Bool.eq_iff_iff, List.all_eq_true, decide_eq_true_iff]
    simp
  rw [ha]
  refine if_dec (fun c => ?_) (fun c => ?_)
  · walk_at "go"
    refine v_setS (by omega) fun p H2 hp s2 e2 => ?_
    walk_at "go"
    have e3 : decide (V.int ((metOf (l.map fun c => tx [c])).length : Int) = V.int (l.length : Int)) = decide ((∀ c ∈ l, c ∈ LET) ∧ l.Nodup) := by
      rw [dec_int, Bool.eq_iff_iff, decide_eq_true_iff, beq_iff_eq]
      have := metOf_ones l
      constructor
      · intro e
        exact ⟨c, this.mp (by omega)⟩
      · intro e
        have := this.mpr e.2
        omega
    rw [e3]
    exact k H2 (s1.trans s2)
  · have e3 : decide ((∀ c ∈ l, c ∈ LET) ∧ l.Nodup) = false := decide_eq_false fun z => c z.1
    rw [e3] at k
    exact k H1 s1
abbrev stascending : Stmt := (top 48)
abbrev Nascending : List Str := ["letters", "letter"]
theorem scascending : FnScope Nascending ["letters"] (defScope stascending) := ⟨rfl, rfl, rfl, by decide +kernel, rfl, by decide +kernel, by decide +kernel⟩

theorem ok_ascending (F : FnAt K mg "ascending" stascending) (T : TxtP K mg C) : Def P w K mg base CX0 1 "ascending" ["letters"] spAscending := by
  refine F.ok scascending (fun _ _ _ _ _ _ us hl => match us, hl with | [_], _ => rfl) (fun vs H Q E h => ?_) (fun f cdv A outer s H vs Q E hr h => ?_)
  · obtain ⟨l, rfl, _⟩ := h
    rfl
  obtain ⟨l, rfl, k⟩ := h
  have hu := hu_of hr
  have nd := scascending.nd
  refine ⟨_, (pss_one (ps_ret (pe_joinK (K := K) rfl (pe_tx [] (by decide +kernel)) (pe_lc (own := [("letter", 1)]) (g := gName 1) (by rfl) nd (pi_str (pe_globS T.g_LETTERS)) (blkOk_by (own := [("letter", 1)]) (N := Nascending) (sc := defScope stascending) (by decide +kernel)) (fun _ _ _ _ _ => (pg_name (i := 1) nd rfl (Or.inl rfl))) (fun _ _ _ _ _ => (pts_one (pt_cmpR op_inS (pv 1) (pv 0) (by rfl)))) (fun _ _ _ _ _ => (pv 1)))))), ?_⟩
  refine s_start [some _, none] rfl ?_
  walk_at "go"
  refine v_lcS (l := LET) (b := fun c => decide (c ∈ l)) (f := fun c => V.str (tx [c])) (by decide) (fun c _ H1 s1 R r => ?_) (fun c _ _ H1 s1 R r => ?_) (fun D H1 hD s1 e1 => ?_)
  · walk_at "go"
    exact r H1 (Same.refl _)
  · walk_at "go"
    exact r H1 (Same.refl _)
  walk_at "go"
  rw [strs_ones] at e1
  refine v_join e1 ?_ ?_
  · rw [flat_ones]
    have := ascOf_len l
    unfold ascOf at this
    omega
  · rw [flat_ones]
    exact k H1 s1
abbrev stis_list : Stmt := (top 29)
abbrev Nis_list : List Str := ["value"]
theorem scis_list : FnScope Nis_list ["value"] (defScope stis_list) := ⟨rfl, rfl, rfl, by decide +kernel, rfl, by decide +kernel, by decide +kernel⟩

theorem ok_is_list (F : FnAt K mg "is_list" stis_list) (T : TxtP K mg C) : Def P w K mg base CX0 1 "is_list" ["value"] (spIsList K) := by
  refine F.ok scis_list (fun _ _ _ _ _ _ us hl => match us, hl with | [_], _ => rfl) (fun vs H Q E h => ?_) (fun f cdv A outer s H vs Q E hr h => ?_)
  · obtain ⟨p, xs, rfl, _⟩ := h
    rfl
  obtain ⟨p, xs, rfl, hp, k⟩ := h
  have hu := hu_of hr
  have nd := scis_list.nd
  refine ⟨_, (pss_one (ps_ret (pe_callB (c_isiTK (K := K) rfl) (by rfl) T.isinstance (by decide +kernel) (pa_cons (pv 0) (pa_cons (pe_tup (pa_cons (pe_bltn (v := .ty "list") (u := .type "list") (by rfl) T.list (by decide +kernel) rfl) (pa_cons (pe_bltn (v := .ty "tuple") (u := .type "tuple") (by rfl) T.tuple (by decide +kernel) rfl) pa_nil))) pa_nil))))), ?_⟩
  refine s_start [some _] rfl ?_
  walk_at "go"
  intro t H1 ht s1 e1
  walk_at "go"
  exact v_isiQ (hp.same s1) e1 (k H1 s1)
abbrev stneed_few : Stmt := (top 51)
abbrev Nneed_few : List Str := ["kinds"]
theorem scneed_few : FnScope Nneed_few ["kinds"] (defScope stneed_few) := ⟨rfl, rfl, rfl, by decide +kernel, rfl, by decide +kernel, by decide +kernel⟩

theorem ok_need_few (F : FnAt K mg "need_few" stneed_few) (T : TxtP K mg C) : Def P w K mg base CX0 1 "need_few" ["kinds"] spNeedFew := by
  refine F.ok scneed_few (fun _ _ _ _ _ _ us hl => match us, hl with | [_], _ => rfl) (fun vs H Q E h => ?_) (fun f cdv A outer s H vs Q E hr h => ?_)
  · obtain ⟨l, rfl, _⟩ := h
    rfl
  obtain ⟨l, rfl, hl, k⟩ := h
  have hu := hu_of hr
  have nd := scneed_few.nd
  refine ⟨_, (pss_one (ps_if (pt_cmpR op_gt (pe_callB c_lenS (by rfl) T.len PySem.boot_len (pa_cons (pv 0) pa_nil)) (pe_globI T.g_MOST_KINDS) (nomark _))
      (pss_one ps_never)
      pss_nil)), ?_⟩
  refine s_start [some _] rfl ?_
  walk_at "go"
  refine if_dec (fun c => ?_) (fun c => ?_)
  · omega
  · walk_at "go"
    exact k
end
end
section
open PySem PySem.Spec L2
def spChecked (K : PySem.W.Frag) : Sp := fun vs H Q _ => ∃ (ks : List Nat) (p : Addr) (ps : List (List Nat)), vs = [.str (tx ks), .ref p] ∧ SeqO K H p (strsV ps) ∧ ps.length < 1000 ∧ PairsIn ks ps ∧ (∀ c ∈ ks, c ∈ LET) ∧
  ∀ t H', H t = none → Same H H' → H' t = some (.tup (strsV (pairsOf (ps.map ascOf)))) → Q (.ref t) H'
def spCross : Sp := fun vs H Q _ => ∃ (ks : List Nat) (t : Addr) (ps : List (List Nat)), vs = [.str (tx ks), .ref t] ∧ H t = some (.tup (strsV ps)) ∧ ks.length < 1000 ∧ ks.Nodup ∧
  ∀ d H', H d = none → Same H H' → H' d = some (.dK (crossKV ks ps ks)) → Q (.ref d) H'
section
variable {P : Program} {w : World} {K : PySem.W.Frag} {mg : Str → Option Value} {base : Heap} {C : Addr}
abbrev stchecked_pairs : Stmt := (top 49)
abbrev Nchecked_pairs : List Str := ["kinds", "crossing", "found", "pair", "a", "b"]
theorem scchecked_pairs : FnScope Nchecked_pairs ["kinds", "crossing"] (defScope stchecked_pairs) := ⟨rfl, rfl, rfl, by decide +kernel, rfl, by decide +kernel, by decide +kernel⟩

theorem ok_checked_pairs (F : FnAt K mg "checked_pairs" stchecked_pairs) (T : TxtP K mg C) (D_is_list : Def P w K mg base CX0 1 "is_list" ["value"] (spIsList K)) (D_are_letters : Def P w K mg base CX0 1 "are_letters" ["value"] spAreLetters) (D_ascending : Def P w K mg base CX0 1 "ascending" ["letters"] spAscending) :
    Def P w K mg base CX0 2 "checked_pairs" ["kinds", "crossing"] (spChecked K) := by
  refine F.ok scchecked_pairs (fun _ _ _ _ _ _ us hl => match us, hl with | [_, _], _ => rfl) (fun vs H Q E h => ?_) (fun f cdv A outer s H vs Q E hr h => ?_)
  · obtain ⟨ks, p, ps, rfl, _⟩ := h
    rfl
  obtain ⟨ks, p, ps, rfl, hp, hl, hps, hks, k⟩ := h
  have hu := hu_of hr
  have nd := scchecked_pairs.nd
  refine ⟨_, (pss_cons (ps_if (pt_not (pt_val (pe_cd D_is_list hr pass0 (pa_cons (pv 1) pa_nil))))
      (pss_one ps_never)
      pss_nil)
      (pss_cons (ps_set (i := 2) nd rfl (Or.inr rfl) (pe_lst pa_nil))
      (pss_cons (ps_for PassesOwn.never rfl (pi_or (pi_listK (K := K) rfl (pv 1)) (pi_tupK (K := K) rfl (pv 1))) (pg_name (i := 3) nd rfl (Or.inl rfl))
      (pss_cutS (ps_if (PW.pt (pw_or (pt_not (pt_val (pe_callB (c_isiK (K := K) rfl) (by rfl) T.isinstance (by decide +kernel) (pa_cons (pv 3) (pa_cons (pe_bltn (v := .ty "str") (u := .type "str") (by rfl) T.str (by decide +kernel) rfl) pa_nil))))) (pw_or (pt_cmpR op_ne (pe_callB c_lenS (by rfl) T.len PySem.boot_len (pa_cons (pv 3) pa_nil)) pe_int (nomark _)) (pw_or1 (pt_not (pt_val (pe_cd D_are_letters hr pass0 (pa_cons (pv 3) pa_nil))))))))
        (pss_one ps_never)
        pss_nil)
        (pss_cutS (ps_if (PW.pt (pw_or (pt_cmpR op_notInS (pe_ix ix_str (pv 3) pe_int (fun _ _ => rfl)) (pv 0) (by rfl)) (pw_or1 (pt_cmpR op_notInS (pe_ix ix_str (pv 3) pe_int (fun _ _ => rfl)) (pv 0) (by rfl)))))
        (pss_one ps_never)
        pss_nil)
        (pss_one (ps_expr (pe_appK (K := K) rfl (pv 2) (pe_cd D_ascending hr pass0 (pa_cons (pv 3) pa_nil))))))))
      (pss_one (ps_ret (pe_callTy (c_tupleK (K := K) rfl) (by rfl) T.tuple (by decide +kernel) (pa_cons (pe_lc2 (own := [("a", 4), ("b", 5)]) (vs1 := [5]) (by rfl) nd (pi_str (pe_globS T.g_LETTERS)) (blkOk_by (own := [("a", 4), ("b", 5)]) (N := Nchecked_pairs) (sc := defScope stchecked_pairs) (by decide +kernel)) (by decide) (fun _ _ _ _ _ => (pg_name (i := 4) nd rfl (Or.inl rfl))) (fun _ _ _ _ _ => pts_nil) (fun _ _ _ _ _ => (pi_str (pe_globS T.g_LETTERS))) (fun _ _ _ _ _ => (pg_name (i := 5) nd rfl (Or.inl rfl))) (fun _ _ _ _ _ => (pts_one (pt_cmpR (op_inLK (K := K) rfl) (pe_op op_addS (pv 4) (pv 5)) (pv 2) (by rfl)))) (fun _ _ _ _ _ => (pe_op op_addS (pv 4) (pv 5)))) pa_nil))))))), ?_⟩
  refine s_start [some _, some _, none, none, none, none] rfl ?_
  walk_at "go"
  refine ⟨p, _, rfl, hp, fun H1 s1 => ?_⟩
  walk_at "go"
  intro q H2 hq s2 e2
  walk_at "go"
  refine e_forSeq (xs := strsV ps) hp (s1.trans s2) (fun Q q => by walk_at "go"; exact q) (fun k σ H' => ∃ x, σ = [some (.str (tx ks)), some (.ref p), some (.ref q), x, none, none] ∧ Same H H' ∧ H' q = some (.lst (strsV ((ps.take k).map ascOf)))) ⟨_, rfl, s1.trans s2, e2⟩ ?_ ?_ ?_
  · rintro i σ H' ⟨x, rfl, s3, e3⟩
    exact s3
  · rintro i v σ H3 H4 hi ⟨x, rfl, s3, e3⟩ ⟨rfl, hv⟩
    have hi' : i < ps.length := by simpa using hi
    obtain ⟨a, b, hab, hne, ha, hb⟩ := hps _ (List.getElem_mem hi')
    have hv' : v = .str (tx [a, b]) := by
      have : (strsV ps)[i]? = some (V.str (tx ps[i])) := by
        rw [List.getElem?_map, List.getElem?_eq_getElem hi']
        rfl
      rw [hv, hab] at this
      exact Option.some.inj this
    subst hv'
    have ha2 := hks a ha
    have hb2 := hks b hb
    refine s_cut (fun σ' H' => σ' = [some (.str (tx ks)), some (.ref p), some (.ref q), some (.str (tx [a, b])), none, none] ∧ Same H4 H') ?_ ?_
    · walk_at "go"
      refine if_ndec (fun c => absurd rfl c) (fun _ => ?_)
      walk_at "go"
      refine ⟨[a, b], rfl, by simp, fun H5 s5 => ?_⟩
      have e5 : decide ((∀ c ∈ [a, b], c ∈ LET) ∧ [a, b].Nodup) = true := by
        rw [decide_eq_true_iff]
        refine ⟨?_, by simp [hne]⟩
        intro c hc
        simp only [List.mem_cons, List.not_mem_nil, or_false] at hc
        rcases hc with rfl | rfl <;> assumption
      rw [e5]
      walk_at "go"
      exact ⟨rfl, s5⟩
    · rintro σ' H5 ⟨rfl, s5⟩
      refine s_cut (fun σ' H' => σ' = [some (.str (tx ks)), some (.ref p), some (.ref q), some (.str (tx [a, b])), none, none] ∧ H' = H5) ?_ ?_
      · walk_at "go"
        refine v_ixS (c := a) (by simp) rfl ?_
        walk_at "go"
        refine if_ndec (fun c => absurd ha c) (fun _ => ?_)
        walk_at "go"
        refine v_ixS (c := b) (by simp) rfl ?_
        walk_at "go"
        refine if_ndec (fun c => absurd hb c) (fun _ => ?_)
        walk_at "go"
        exact ⟨rfl, rfl⟩
      · rintro σ' H6 ⟨rfl, rfl⟩
        have e6 := s5 _ _ e3
        walk_at "go"
        refine ⟨[a, b], rfl, fun H7 s7 => ?_⟩
        walk_at "go"
        refine v_app (s7 _ _ e6) ?_ fun H8 s8 e8 => ?_
        · simp only [strsV, List.length_map, List.length_take]
          omega
        refine ⟨_, rfl, fun b' o hb' => s8 _ _ (s7 _ _ (s5 _ _ (s3 _ _ hb'))) (ne_of_none hb' (L2.Same.free s1 hq)), ?_⟩
        rw [e8, List.take_add_one, List.getElem?_eq_getElem hi', hab, List.map_append]
        simp only [strsV, List.map_append]
        rfl
  · rintro σ H3 ⟨x, rfl, s3, e3⟩
    walk_at "go"
    rw [List.take_of_length_le (by simp)] at e3
    refine v_lc2S (lb := LET) (b := fun a b => decide ([a, b] ∈ ps.map ascOf)) (f := fun a b => V.str (tx [a, b])) (by decide) (by decide) (fun c _ H1 s1 R r => r) (fun c d _ _ H1 s1 R r => ?_) (fun c d _ _ _ H1 s1 R r => ?_) (fun D H5 hD s5 e5 => ?_)
    · have e1 := s1 _ _ e3
      walk_at "go"
      exact r H1 (Same.refl _)
    · walk_at "go"
      exact r H1 (Same.refl _)
    · walk_at "go"
      refine v_tuple e5 fun t H6 ht s6 e6 => ?_
      refine k t H6 (L2.Same.free s3 (L2.Same.free s5 ht)) ((s3.trans s5).trans s6) ?_
      rw [e6]
      unfold strsV pairsOf
      rw [List.map_flatMap]
      simp only [List.map_map]
      rfl
abbrev stcrossing_table : Stmt := (top 53)
abbrev Ncrossing_table : List Str := ["kinds", "pairs", "found", "kind", "other"]
theorem sccrossing_table : FnScope Ncrossing_table ["kinds", "pairs"] (defScope stcrossing_table) := ⟨rfl, rfl, rfl, by decide +kernel, rfl, by decide +kernel, by decide +kernel⟩

theorem ok_crossing_table (F : FnAt K mg "crossing_table" stcrossing_table) (T : TxtP K mg C) : Def P w K mg base CX0 1 "crossing_table" ["kinds", "pairs"] spCross := by
  refine F.ok sccrossing_table (fun _ _ _ _ _ _ us hl => match us, hl with | [_, _], _ => rfl) (fun vs H Q E h => ?_) (fun f cdv A outer s H vs Q E hr h => ?_)
  · obtain ⟨ks, t, ps, rfl, _⟩ := h
    rfl
  obtain ⟨ks, t, ps, rfl, ht, hl, hnd, k⟩ := h
  have hu := hu_of hr
  have nd := sccrossing_table.nd
  refine ⟨_, (pss_cons (ps_set (i := 2) nd rfl (Or.inl rfl) pe_dnewK)
      (pss_cons (ps_for PassesOwn.never rfl (pi_str (pv 0)) (pg_name (i := 3) nd rfl (Or.inr rfl))
      (pss_one (ps_dput hu (pv 2) (pv 3) (pe_joinK (K := K) rfl (pe_tx [] (by decide +kernel)) (pe_lc (own := [("other", 4)]) (g := gName 4) (by rfl) nd (pi_str (pv 0)) (blkOk_by (own := [("other", 4)]) (N := Ncrossing_table) (sc := defScope stcrossing_table) (by decide +kernel)) (fun _ _ _ _ _ => (pg_name (i := 4) nd rfl (Or.inl rfl))) (fun _ _ _ _ _ => (pts_one (PW.pt (pw_or (pt_cmpR (op_inLK (K := K) rfl) (pe_op op_addS (pv 3) (pv 4)) (pv 1) (by rfl)) (pw_or1 (pt_cmpR (op_inLK (K := K) rfl) (pe_op op_addS (pv 4) (pv 3)) (pv 1) (by rfl))))))) (fun _ _ _ _ _ => (pv 4)))) rfl)))
      (pss_one (ps_ret (pv 2))))), ?_⟩
  refine s_start [some _, some _, none, none, none] rfl ?_
  walk_at "go"
  intro d H1 hd s1 e1
  walk_at "go"
  refine for_it (walk_tx ks) (fun k σ H' => ∃ x, σ = [some (.str (tx ks)), some (.ref t), some (.ref d), x, none] ∧ Same H H' ∧ H' d = some (.dK (crossKV ks ps (ks.take k)))) ⟨_, rfl, s1, e1⟩ (fun _ _ _ _ _ => trivial) ?_ ?_
  · rintro i v σ H2 H3 hi ⟨x, rfl, s2, e2⟩ ⟨rfl, rfl⟩
    have h0 := s2 _ _ ht
    show sDPut _ _ _ _ _ _
    walk_at "go"
    refine v_lcS (b := fun o => decide ([ks.getD i 0, o] ∈ ps) || decide ([o, ks.getD i 0] ∈ ps)) (f := fun c => V.str (tx [c])) (by omega) (fun c _ H1 s1 R r => ?_) (fun c _ _ H1 s1 R r => ?_) (fun D H4 hD s4 e4 => ?_)
    · have h1 := s1 _ _ h0
      walk_at "go"
      refine v_inT (SqT.of h1) ?_
      walk_at "go"
      refine if_dec (fun c1 => ?_) (fun c1 => ?_)
      · rw [show [ks.getD i 0] ++ [c] = [ks.getD i 0, c] from rfl] at c1
        rw [decide_eq_true c1, Bool.true_or] at r
        exact r H1 (Same.refl _)
      · rw [show [ks.getD i 0] ++ [c] = [ks.getD i 0, c] from rfl] at c1
        walk_at "go"
        refine v_inT (SqT.of h1) ?_
        walk_at "go"
        rw [decide_eq_false c1, Bool.false_or] at r
        exact r H1 (Same.refl _)
    · walk_at "go"
      exact r H1 (Same.refl _)
    walk_at "go"
    rw [strs_ones] at e4
    refine v_join e4 ?_ ?_
    · rw [flat_ones]
      have := crossOf_len ks ps (ks.getD i 0)
      unfold crossOf at this
      omega
    rw [flat_ones]
    walk_at "go"
    have e5 := s4 _ _ e2
    have hz : valV (crossKV ks ps (ks.take i)) (Sum.inr (tx [ks.getD i 0])) = none := letV_none (take_notin hnd hi)
    refine v_put (DPut.cross e5 hz ?_) fun H6 s6 e6 => ?_
    · unfold crossKV
      rw [List.length_map, List.length_take]
      omega
    refine ⟨_, rfl, fun b o hb => s6 _ _ (s4 _ _ (s2 _ _ hb)) (ne_of_none hb hd), ?_⟩
    rw [e6, take_getD hi]
    unfold crossKV
    rw [List.map_append]
    rfl
  · rintro σ H2 ⟨x, rfl, s2, e2⟩
    rw [List.take_of_length_le (Nat.le_refl _)] at e2
    walk_at "go"
    exact k d H2 hd s2 e2
end
end
section
open PySem PySem.Spec L2
def planF (ks : List Nat) (t d : Addr) : List (Str × V) := putF "own_crossing" (.ref d) (putF "pairs" (.ref t) (putF "kinds" (.str (tx ks)) []))
theorem nkp : ¬ (("kinds" : Str) = "pairs") := by decide +kernel
theorem nko : ¬ (("kinds" : Str) = "own_crossing") := by decide +kernel
theorem npo : ¬ (("pairs" : Str) = "own_crossing") := by decide +kernel
section
variable {ks : List Nat} {t d : Addr}
theorem planF_k : (planF ks t d).lookup ("kinds" : Str) = some (.str (tx ks)) := by
  unfold planF
  rw [lookup_putF, if_neg nko, lookup_putF, if_neg nkp, lookup_putF, if_pos rfl]
theorem planF_p : (planF ks t d).lookup ("pairs" : Str) = some (.ref t) := by
  unfold planF
  rw [lookup_putF, if_neg npo, lookup_putF, if_pos rfl]
theorem planF_o : (planF ks t d).lookup ("own_crossing" : Str) = some (.ref d) := by
  unfold planF
  rw [lookup_putF, if_pos rfl]
end
/-- a plan of the kinds ks and the pairs ps stands at x -/
structure PlanAt (C : Addr) (H : Hp) (x : Addr) (ks : List Nat) (ps : List (List Nat)) : Prop where
  ex : ∃ dx t d, H x = some (.ins C dx (planF ks t d)) ∧ H t = some (.tup (strsV ps)) ∧ H d = some (.dK (crossKV ks ps ks))
theorem PlanAt.same {C : Addr} {H H' : Hp} {x : Addr} {ks : List Nat} {ps : List (List Nat)} (h : PlanAt C H x ks ps) (s : Same H H') : PlanAt C H' x ks ps := by
  obtain ⟨dx, t, d, a, b, c⟩ := h.ex
  exact ⟨dx, t, d, s _ _ a, s _ _ b, s _ _ c⟩
/-- the plan at x does not rest on the object at b -/
def PlanOff (C : Addr) (H : Hp) (x b : Addr) : Prop := ∃ dx ks t d, H x = some (.ins C dx (planF ks t d)) ∧ b ≠ t ∧ b ≠ d
theorem PlanOff.same {C : Addr} {H H' : Hp} {x b : Addr} (h : PlanOff C H x b) (s : Same H H') : PlanOff C H' x b := by
  obtain ⟨dx, ks, t, d, e, n⟩ := h
  exact ⟨dx, ks, t, d, s _ _ e, n⟩
theorem PlanAt.off {C : Addr} {H H' : Hp} {x b : Addr} {ks : List Nat} {ps : List (List Nat)} (h : PlanAt C H x ks ps) (n : PlanOff C H x b) (nx : x ≠ b) (k : Keep b H H') : PlanAt C H' x ks ps := by
  obtain ⟨dx, t, d, a1, a2, a3⟩ := h.ex
  obtain ⟨dx', ks', t', d', e, n1, n2⟩ := n
  rw [a1] at e
  injection e with e
  injection e with _ _ e
  have e1 := planF_p (ks := ks) (t := t) (d := d)
  rw [e, planF_p] at e1
  injection e1 with e1
  injection e1 with e1
  have e2 := planF_o (ks := ks) (t := t) (d := d)
  rw [e, planF_o] at e2
  injection e2 with e2
  injection e2 with e2
  exact ⟨dx, t, d, k _ _ a1 nx, k _ _ a2 (fun z => n1 (z.symm.trans e1.symm)), k _ _ a3 (fun z => n2 (z.symm.trans e2.symm))⟩
/-- the kinds and pairs of Plan(l, ps) -/
abbrev kindsOf (l : List Nat) : List Nat := ascOf l
abbrev prsOf (ps : List (List Nat)) : List (List Nat) := pairsOf (ps.map ascOf)
def PlanArgs (K : PySem.W.Frag) (H : Hp) (l : List Nat) (p : Addr) (ps : List (List Nat)) : Prop := SeqO K H p (strsV ps) ∧ ps.length < 1000 ∧ PairsIn l ps ∧ (∀ c ∈ l, c ∈ LET) ∧ l.Nodup ∧ l.length ≤ 8
def spPlan0 (K : PySem.W.Frag) (C : Addr) : Sp := fun vs H Q _ => ∃ (x dx : Addr) (l : List Nat) (p : Addr) (ps : List (List Nat)), vs = [.ref x, .str (tx l), .ref p] ∧ H x = some (.ins C dx []) ∧ PlanArgs K H l p ps ∧
  ∀ H', Keep x H H' → PlanAt C H' x (kindsOf l) (prsOf ps) → (∀ b o, H b = some o → b ≠ x → PlanOff C H' x b) → Q .non H'
def spPlan (K : PySem.W.Frag) (C : Addr) : Sp := fun vs H Q _ => ∃ (l : List Nat) (p : Addr) (ps : List (List Nat)), vs = [.str (tx l), .ref p] ∧ PlanArgs K H l p ps ∧ ∀ x H', H x = none → Same H H' → PlanAt C H' x (kindsOf l) (prsOf ps) → (∀ b o, H b = some o → PlanOff C H' x b) → Q (.ref x) H'
theorem conv_plan (K : PySem.W.Frag) (C : Addr) : Conv C (spPlan0 K C) (spPlan K C) := by
  rintro vs H Q E ⟨l, p, ps, rfl, ⟨hp, hr⟩, k⟩ x dx hx hdx hne
  refine ⟨x, dx, l, p, ps, rfl, upd_same, ⟨hp.go fun o ho => by rw [upd_ne (ne_of_none ho hx), upd_ne (ne_of_none ho hdx)]; exact ho, hr⟩, fun H' s' a off => ⟨rfl, k x H' hx (fun b o hb => ?_) a fun b o hb => off b o (by rw [upd_ne (ne_of_none hb hx), upd_ne (ne_of_none hb hdx)]; exact hb) (ne_of_none hb hx)⟩⟩
  refine s' b o ?_ (ne_of_none hb hx)
  rw [upd_ne (ne_of_none hb hx), upd_ne (ne_of_none hb hdx)]
  exact hb
theorem asc_len {l : List Nat} (h1 : ∀ c ∈ l, c ∈ LET) (h2 : l.Nodup) : (ascOf l).length = l.length := by
  have p : (ascOf l).Perm l := by
    refine (List.perm_ext_iff_of_nodup (ascOf_nodup l) h2).mpr fun c => ?_
    rw [ascOf_mem]
    exact ⟨fun z => z.2, fun z => ⟨h1 c z, z⟩⟩
  exact p.length_eq
section
variable {P : Program} {w : World} {K : PySem.W.Frag} {mg : Str → Option Value} {base : Heap} {C : Addr}
abbrev stPlan_init : Stmt := (inClass (top 52) 0)
abbrev NPlan_init : List Str := ["self", "kinds", "crossing"]
theorem scPlan_init : FnScope NPlan_init ["self", "kinds", "crossing"] (defScope stPlan_init) := ⟨rfl, rfl, rfl, by decide +kernel, rfl, by decide +kernel, by decide +kernel⟩

theorem ok_Plan {dvs : List V} (F : MAtD K C "__init__" "Plan.__init__" stPlan_init dvs) (hd : dvs.length = 1) (T : TxtP K mg C) (D_are_letters : Def P w K mg base CX0 1 "are_letters" ["value"] spAreLetters) (D_ascending : Def P w K mg base CX0 1 "ascending" ["letters"] spAscending)
    (D_checked_pairs : Def P w K mg base CX0 2 "checked_pairs" ["kinds", "crossing"] (spChecked K)) (D_need_few : Def P w K mg base CX0 1 "need_few" ["kinds"] spNeedFew) (D_crossing_table : Def P w K mg base CX0 1 "crossing_table" ["kinds", "pairs"] spCross) :
    CMk P w K mg base CX0 3 "Plan" C (spPlan K C) ["self", "kinds", "crossing"] "Plan.__init__" stPlan_init dvs := by
  refine F.make (sp0 := spPlan0 K C) T.Plan scPlan_init (by intro z; rw [z] at hd; cases hd) (fun T kV doc pm an cdv ct us its l1 l2 => ?_) (fun vs H Q E h => ?_) (conv_plan K C) (fun f cdv A outer s H vs Q E hr h => ?_)
  · rw [hd] at l2 ⊢
    match us, l1, its, l2 with
    | [_, _, _], _, [_], _ => exact ⟨_, rfl, rfl⟩
  · obtain ⟨x, dx, l, p, ps, rfl, _⟩ := h
    rfl
  obtain ⟨x, dx, l, p, ps, rfl, hx, ⟨hp, h1, h2, h3, h4, h5⟩, k⟩ := h
  have hu := hu_of hr
  have nd := scPlan_init.nd
  replace D_are_letters := D_are_letters.mono (show 1 ≤ 2 by decide)
  replace D_ascending := D_ascending.mono (show 1 ≤ 2 by decide)
  replace D_need_few := D_need_few.mono (show 1 ≤ 2 by decide)
  replace D_crossing_table := D_crossing_table.mono (show 1 ≤ 2 by decide)
  refine ⟨_, (pss_cons (ps_if (pt_not (pt_val (pe_cd D_are_letters hr pass0 (pa_cons (pv 1) pa_nil))))
      (pss_one ps_never)
      pss_nil)
      (pss_cons (ps_flK (K := K) rfl (pv 0) (pe_cd D_ascending hr pass0 (pa_cons (pv 1) pa_nil)) rfl)
      (pss_cons (ps_flK (K := K) rfl (pv 0) (pe_cd D_checked_pairs hr pass0 (pa_cons (pe_flK (K := K) rfl (pv 0) rfl) (pa_cons (pv 2) pa_nil))) rfl)
      (pss_cons (ps_expr (pe_cd D_need_few hr pass0 (pa_cons (pe_flK (K := K) rfl (pv 0) rfl) pa_nil)))
      (pss_one (ps_flK (K := K) rfl (pv 0) (pe_cd D_crossing_table hr pass0 (pa_cons (pe_flK (K := K) rfl (pv 0) rfl) (pa_cons (pe_flK (K := K) rfl (pv 0) rfl) pa_nil))) rfl)))))), ?_⟩
  refine s_start [some _, some _, some _] rfl ?_
  walk_at "go"
  refine ⟨l, rfl, by omega, fun H1 s1 => ?_⟩
  rw [decide_eq_true (show (∀ c ∈ l, c ∈ LET) ∧ l.Nodup from ⟨h3, h4⟩)]
  walk_at "go"
  refine ⟨l, rfl, fun H2 s2 => ?_⟩
  walk_at "go"
  have s12 := s1.trans s2
  refine v_sfld (s12 _ _ hx) T.Plan.cl T.nK (by decide) fun H3 s3 e3 => ?_
  have hp3 := (hp.same s12).keepI s3 (s12 _ _ hx)
  walk_at "go"
  refine v_fld e3 T.Plan.cl T.nK (by rw [lookup_putF, if_pos rfl]) ?_
  walk_at "go"
  refine ⟨ascOf l, p, ps, rfl, hp3, h1, ?_, fun c hc => (ascOf_mem.mp hc).1, fun t H4 ht s4 e4 => ?_⟩
  · intro q hq
    obtain ⟨a, b, e, n, ha, hb⟩ := h2 q hq
    exact ⟨a, b, e, n, ascOf_mem.mpr ⟨h3 a ha, ha⟩, ascOf_mem.mpr ⟨h3 b hb, hb⟩⟩
  walk_at "go"
  refine v_sfld (s4 _ _ e3) T.Plan.cl T.nP (by show 1 < 1000; decide) fun H5 s5 e5 => ?_
  have nt : t ≠ x := fun z => by rw [z, e3] at ht; cases ht
  have e5t := s5 _ _ e4 nt
  walk_at "go"
  refine v_fld e5 T.Plan.cl T.nK (by rw [lookup_putF, if_neg nkp, lookup_putF, if_pos rfl]) ?_
  walk_at "go"
  refine ⟨ascOf l, rfl, by rw [asc_len h3 h4]; exact h5, ?_⟩
  walk_at "go"
  refine v_fld e5 T.Plan.cl T.nK (by rw [lookup_putF, if_neg nkp, lookup_putF, if_pos rfl]) ?_
  walk_at "go"
  refine v_fld e5 T.Plan.cl T.nP (by rw [lookup_putF, if_pos rfl]) ?_
  walk_at "go"
  refine ⟨ascOf l, t, _, rfl, e5t, by have := ascOf_len l; omega, ascOf_nodup l, fun d H6 hd s6 e6 => ?_⟩
  walk_at "go"
  refine v_sfld (s6 _ _ e5) T.Plan.cl T.nO (by show 2 < 1000; decide) fun H7 s7 e7 => ?_
  have ndx : d ≠ x := fun z => by rw [z, e5] at hd; cases hd
  refine k H7 (fun b o hb nb => s7 _ _ (s6 _ _ (s5 _ _ (s4 _ _ (s3 _ _ (s12 _ _ hb) nb)) nb)) nb) ⟨dx, t, d, e7, s7 _ _ (s6 _ _ e5t) nt, s7 _ _ e6 ndx⟩ fun b o hb nb => ⟨dx, _, t, d, e7, ?_, ?_⟩
  · exact ne_of_none (s3 _ _ (s12 _ _ hb) nb) ht
  · exact ne_of_none (s5 _ _ (s4 _ _ (s3 _ _ (s12 _ _ hb) nb)) nb) hd
end
end
section
open PySem PySem.Spec L2
/-- letters alone -/
def PsOk (ps : List (List Nat)) : Prop := ∀ l ∈ ps, ∀ c ∈ l, c < 1000
def spPlanEq (C : Addr) : Sp := fun vs H Q _ => ∃ (x y : Addr) (ks ks' : List Nat) (ps ps' : List (List Nat)), vs = [.ref x, .ref y] ∧ PlanAt C H x ks ps ∧ PlanAt C H y ks' ps' ∧ PsOk ps ∧ PsOk ps' ∧ Q (.bl (decide (ks = ks' ∧ ps = ps'))) H
def spStepped (C : Addr) : Sp := fun vs H Q _ => ∃ (x : Addr) (ks : List Nat) (ps : List (List Nat)) (name : List Nat) (k : Nat), vs = [.ref x, .str (tx name), .str (tx [k])] ∧ PlanAt C H x ks ps ∧ k ∈ ks ∧ name.length ≤ 100000 ∧ Q (.str (tx (stepOf (crossOf ks ps k) name k))) H
def spJoined (C : Addr) : Sp := fun vs H Q _ => ∃ (x : Addr) (ks : List Nat) (ps : List (List Nat)) (name way : List Nat), vs = [.ref x, .str (tx name), .str (tx way)] ∧ PlanAt C H x ks ps ∧ (∀ c ∈ way, c ∈ ks) ∧ name.length + way.length ≤ 100000 ∧ Q (.str (tx (joinOf ks ps name way))) H
def spBack (C : Addr) : Sp := fun vs H Q _ => ∃ (x : Addr) (ks : List Nat) (ps : List (List Nat)) (name : List Nat), vs = [.ref x, .str (tx name)] ∧ PlanAt C H x ks ps ∧ (∀ c ∈ name, c ∈ ks) ∧ name.length ≤ 50000 ∧ Q (.str (tx (backOf ks ps name))) H
def spWayFrom (C : Addr) : Sp := fun vs H Q _ => ∃ (x : Addr) (ks : List Nat) (ps : List (List Nat)) (name goal : List Nat), vs = [.ref x, .str (tx name), .str (tx goal)] ∧ PlanAt C H x ks ps ∧ (∀ c ∈ name, c ∈ ks) ∧ (∀ c ∈ goal, c ∈ ks) ∧ name.length ≤ 50000 ∧ goal.length ≤ 50000 ∧ Q (.str (tx (wayOf ks ps name goal))) H
section
variable {P : Program} {w : World} {K : PySem.W.Frag} {mg : Str → Option Value} {base : Heap} {C : Addr}
abbrev stPlan_eq : Stmt := (inClass (top 52) 2)
abbrev NPlan_eq : List Str := ["self", "other"]
theorem scPlan_eq : FnScope NPlan_eq ["self", "other"] (defScope stPlan_eq) := ⟨rfl, rfl, rfl, by decide +kernel, rfl, by decide +kernel, by decide +kernel⟩

theorem ok_Plan_eq (F : MAt K C "__eq__" "Plan.__eq__" stPlan_eq) (T : TxtP K mg C) : MDef P w K mg base CX0 1 C "__eq__" ["self", "other"] (spPlanEq C) := by
  refine F.ok scPlan_eq (fun _ _ _ _ _ _ us hl => match us, hl with | [_, _], _ => rfl) (fun vs H Q E h => ?_) (fun f cdv A outer s H vs Q E hr h => ?_)
  · obtain ⟨x, y, ks, ks', ps, ps', rfl, _⟩ := h
    rfl
  obtain ⟨x, y, ks, ks', ps, ps', rfl, h1, h2, o1, o2, k⟩ := h
  have hu := hu_of hr
  have nd := scPlan_eq.nd
  refine ⟨_, (pss_one (ps_ret (pe_and (pe_callB (c_isiK (K := K) rfl) (by rfl) T.isinstance (by decide +kernel) (pa_cons (pv 1) (pa_cons (pe_globC T.Plan.at) pa_nil))) (pe_and (pe_cmpR op_eq (pe_flK (K := K) rfl (pv 0) rfl) (pe_flK (K := K) rfl (pv 1) rfl) (nomark _)) (pe_one (pe_cmpR (op_eqDK (K := K) rfl hr.units) (pe_flK (K := K) rfl (pv 0) rfl) (pe_flK (K := K) rfl (pv 1) rfl) (nomark _))))))), ?_⟩
  refine s_start [some _, some _] rfl ?_
  obtain ⟨dx, t, d, a1, a2, a3⟩ := h1.ex
  obtain ⟨dy, t', d', b1, b2, b3⟩ := h2.ex
  walk_at "go"
  refine v_isiC T.Plan b1 ?_
  walk_at "go"
  refine v_fld a1 T.Plan.cl T.nK planF_k ?_
  walk_at "go"
  refine v_fld b1 T.Plan.cl T.nK planF_k ?_
  walk_at "go"
  rw [dec_tx]
  refine if_dec (fun c => ?_) (fun c => ?_)
  · walk_at "go"
    refine v_fld a1 T.Plan.cl T.nP planF_p ?_
    walk_at "go"
    refine v_fld b1 T.Plan.cl T.nP planF_p ?_
    walk_at "go"
    refine v_eqT a2 b2 o1 o2 ?_
    have e : decide (ks = ks' ∧ ps = ps') = decide (ps = ps') := decide_eq_decide.mpr ⟨fun z => z.2, fun z => ⟨c, z⟩⟩
    rw [e] at k
    exact k
  · rw [decide_eq_false fun z => c z.1] at k
    exact k
abbrev ststepped : Stmt := (top 12)
abbrev Nstepped : List Str := ["plan", "name", "kind", "partners", "place"]
theorem scstepped : FnScope Nstepped ["plan", "name", "kind"] (defScope ststepped) := ⟨rfl, rfl, rfl, by decide +kernel, rfl, by decide +kernel, by decide +kernel⟩

theorem ok_stepped (F : FnAt K mg "stepped" ststepped) (T : TxtP K mg C) : Def P w K mg base CX0 1 "stepped" ["plan", "name", "kind"] (spStepped C) := by
  refine F.ok scstepped (fun _ _ _ _ _ _ us hl => match us, hl with | [_, _, _], _ => rfl) (fun vs H Q E h => ?_) (fun f cdv A outer s H vs Q E hr h => ?_)
  · obtain ⟨x, ks, ps, name, k, rfl, _⟩ := h
    rfl
  obtain ⟨x, ks, ps, name, k, rfl, h1, hk, hl, q⟩ := h
  have hu := hu_of hr
  have nd := scstepped.nd
  refine ⟨_, (pss_cons (ps_set (i := 3) nd rfl (Or.inl rfl) (pe_dget hu (pe_flK (K := K) rfl (pv 0) rfl) (pv 2) (fun _ _ => rfl)))
      (pss_cons (ps_set (i := 4) nd rfl (Or.inl rfl) (pe_callB c_lenS (by rfl) T.len PySem.boot_len (pa_cons (pv 1) pa_nil)))
      (pss_cutS (ps_while PassesOwn.never (PW.pt (pw_and (pt_cmpR op_gt (pv 4) pe_int (nomark _)) (pw_and1 (pt_cmpR op_inS (pe_ix ix_str (pv 1) (pe_op op_sub (pv 4) pe_int) (fun _ _ => rfl)) (pv 3) (by rfl)))))
      (pss_one (ps_set (i := 4) nd rfl (Or.inl rfl) (pe_op op_sub (pv 4) pe_int))))
      (pss_cutS (ps_if (PW.pt (pw_and (pt_cmpR op_gt (pv 4) pe_int (nomark _)) (pw_and1 (pt_cmpR op_eq (pe_ix ix_str (pv 1) (pe_op op_sub (pv 4) pe_int) (fun _ _ => rfl)) (pv 2) (nomark _)))))
      (pss_one (ps_ret (pe_op op_addS (pe_slice sl_S (pv 1) po_none (po_some (pe_op op_sub (pv 4) pe_int))) (pe_slice sl_S (pv 1) (po_some (pv 4)) po_none))))
      pss_nil)
      (pss_cutS (ps_while PassesOwn.never (PW.pt (pw_and (pt_cmpR op_lt (pv 4) (pe_callB c_lenS (by rfl) T.len PySem.boot_len (pa_cons (pv 1) pa_nil)) (nomark _)) (pw_and1 (pt_cmpR op_ltS (pe_ix ix_str (pv 1) (pv 4) (fun _ _ => rfl)) (pv 2) (nomark _)))))
      (pss_one (ps_set (i := 4) nd rfl (Or.inl rfl) (pe_op op_add (pv 4) pe_int))))
      (pss_one (ps_ret (pe_op op_addS (pe_op op_addS (pe_slice sl_S (pv 1) po_none (po_some (pv 4))) (pv 2)) (pe_slice sl_S (pv 1) (po_some (pv 4)) po_none))))))))), ?_⟩
  refine s_start [some _, some _, some _, none, none] rfl ?_
  obtain ⟨dx, t, d, a1, a2, a3⟩ := h1.ex
  walk_at "go"
  refine v_fld a1 T.Plan.cl T.nO planF_o ?_
  walk_at "go"
  refine v_dget (dget_let (g := fun k => V.str (tx (crossOf ks ps k))) a3 hk) ?_
  walk_at "go"
  refine s_cut (fun σ H' => ∃ ra b : List Nat, name = ra.reverse ++ b ∧ splitB (crossOf ks ps k) name.reverse [] = (ra, b) ∧ σ = [some (.ref x), some (.str (tx name)), some (.str (tx [k])), some (.str (tx (crossOf ks ps k))), some (.int (ra.length : Nat))] ∧ H' = H) ?_ ?_
  · refine s_while (fun m σ H' => ∃ ra b : List Nat, m = ra.length ∧ name = ra.reverse ++ b ∧ splitB (crossOf ks ps k) name.reverse [] = splitB (crossOf ks ps k) ra b ∧ σ = [some (.ref x), some (.str (tx name)), some (.str (tx [k])), some (.str (tx (crossOf ks ps k))), some (.int (ra.length : Nat))] ∧ H' = H) name.length ⟨name.reverse, [], by simp, by simp, rfl, by simp, rfl⟩ ?_
    rintro m σ H' ⟨ra, b, rfl, e1, e2, rfl, rfl⟩
    walk_at "go"
    cases ra with
    | nil =>
      refine if_dec (fun c => absurd c (by simp)) (fun _ => ?_)
      walk_at "go"
      exact ⟨[], b, e1, e2, rfl, rfl⟩
    | cons y r =>
      refine if_dec (fun _ => ?_) (fun c => absurd (by simp) c)
      walk_at "go"
      refine v_ixS (c := y) (by omega) (by rw [e1]; exact at_last) ?_
      walk_at "go"
      refine if_dec (fun c => ?_) (fun c => ?_)
      · refine v_turn ?_
        walk_at "go"
        refine ⟨r.length, by simp, r, y :: b, rfl, ?_, ?_, ?_, rfl⟩
        · rw [e1, List.reverse_cons, List.append_assoc]
          rfl
        · rw [e2]
          show (if y ∈ crossOf ks ps k then _ else _) = _
          rw [if_pos c]
        · have e : (((y :: r).length : Nat) : Int) - 1 = (r.length : Nat) := by
            rw [List.length_cons]
            omega
          rw [e]
          rfl
      · walk_at "go"
        refine ⟨y :: r, b, e1, ?_, rfl, rfl⟩
        rw [e2]
        show (if y ∈ crossOf ks ps k then _ else _) = _
        rw [if_neg c]
  rintro σ H' ⟨ra, b, e1, e2, rfl, rfl⟩
  have hl2 : ra.length + b.length = name.length := by
    rw [e1, List.length_append, List.length_reverse]
  have q : Q (.str (tx (stepAt k ra b))) H' := by
    have e : stepOf (crossOf ks ps k) name k = stepAt k ra b := by
      unfold stepOf
      rw [e2]
    rw [e] at q
    exact q
  refine s_cut (fun σ H2 => ra.head? ≠ some k ∧ σ = [some (.ref x), some (.str (tx name)), some (.str (tx [k])), some (.str (tx (crossOf ks ps k))), some (.int (ra.length : Nat))] ∧ H2 = H') ?_ ?_
  · walk_at "go"
    cases ra with
    | nil =>
      refine if_dec (fun c => absurd c (by simp)) (fun _ => ?_)
      walk_at "go"
      exact ⟨by simp, rfl, rfl⟩
    | cons y r =>
      refine if_dec (fun _ => ?_) (fun c => absurd (by simp) c)
      walk_at "go"
      refine v_ixS (c := y) (by omega) (by rw [e1]; exact at_last) ?_
      walk_at "go"
      rw [dec_tx]
      refine if_dec (fun c => ?_) (fun c => ?_)
      · walk_at "go"
        have ey : y = k := by
          injection c
        subst ey
        have e3 : (((y :: r).length : Nat) : Int) - 1 = (r.length : Nat) := by
          rw [List.length_cons]
          omega
        rw [e3]
        refine v_slTo (by omega) (by omega) ?_
        walk_at "go"
        refine v_slFrom (by omega) (by omega) ?_
        have e4 : name.take ((r.length : Nat) : Int).toNat = r.reverse := by
          rw [e1, List.reverse_cons, List.append_assoc]
          exact List.take_left' (by simp)
        have e5 : name.drop (((y :: r).length : Nat) : Int).toNat = b := by
          rw [e1]
          exact List.drop_left' (by simp)
        rw [e4, e5]
        refine v_addS (by rw [List.length_reverse]; rw [List.length_cons] at hl2; omega) ?_
        have e6 : stepAt y (y :: r) b = r.reverse ++ b := by
          unfold stepAt
          rw [if_pos (show (y :: r).head? = some y from rfl)]
          rfl
        rw [e6] at q
        exact q
      · walk_at "go"
        refine ⟨?_, rfl, rfl⟩
        intro z
        injection z with z
        exact c (by rw [z])
  rintro σ H2 ⟨hh, rfl, rfl⟩
  refine s_cut (fun σ H3 => ∃ c d : List Nat, b = c ++ d ∧ putIn k b = c ++ k :: d ∧ σ = [some (.ref x), some (.str (tx name)), some (.str (tx [k])), some (.str (tx (crossOf ks ps k))), some (.int ((ra.length + c.length : Nat) : Int))] ∧ H3 = H2) ?_ ?_
  · refine s_while (fun m σ H3 => ∃ c d : List Nat, m = d.length ∧ b = c ++ d ∧ putIn k b = c ++ putIn k d ∧ σ = [some (.ref x), some (.str (tx name)), some (.str (tx [k])), some (.str (tx (crossOf ks ps k))), some (.int ((ra.length + c.length : Nat) : Int))] ∧ H3 = H2) b.length ⟨[], b, rfl, rfl, rfl, rfl, rfl⟩ ?_
    rintro m σ H3 ⟨c, d, rfl, e3, e4, rfl, rfl⟩
    have hl3 : ra.length + (c.length + d.length) = name.length := by
      rw [← hl2, e3, List.length_append]
    walk_at "go"
    cases d with
    | nil =>
      refine if_dec (fun z => ?_) (fun _ => ?_)
      · rw [List.length_nil] at hl3
        omega
      walk_at "go"
      exact ⟨c, [], e3, e4, rfl, rfl⟩
    | cons y r =>
      rw [List.length_cons] at hl3
      refine if_dec (fun _ => ?_) (fun z => by omega)
      walk_at "go"
      refine v_ixS (c := y) (by omega) ?_ ?_
      · rw [e1, e3, ← List.append_assoc]
        have := at_mid (x := y) (a := ra.reverse ++ c) (b := r)
        rw [List.length_append, List.length_reverse] at this
        exact this
      walk_at "go"
      rw [lt_one]
      refine if_dec (fun z => ?_) (fun z => ?_)
      · refine v_turn ?_
        walk_at "go"
        refine ⟨r.length, by simp, c ++ [y], r, rfl, ?_, ?_, ?_, rfl⟩
        · rw [e3, List.append_assoc]
          rfl
        · rw [e4, List.append_assoc]
          congr 1
          unfold putIn
          rw [List.takeWhile_cons_of_pos (by simpa using z), List.dropWhile_cons_of_pos (by simpa using z)]
          rfl
        · have e : ((ra.length + c.length : Nat) : Int) + 1 = ((ra.length + (c ++ [y]).length : Nat) : Int) := by
            rw [List.length_append, List.length_singleton]
            omega
          rw [e]
          rfl
      · walk_at "go"
        refine ⟨c, y :: r, e3, ?_, rfl, rfl⟩
        rw [e4]
        congr 1
        unfold putIn
        rw [List.takeWhile_cons_of_neg (by simpa using z), List.dropWhile_cons_of_neg (by simpa using z)]
        rfl
  rintro σ H3 ⟨c, d, e3, e4, rfl, rfl⟩
  have hl3 : ra.length + (c.length + d.length) = name.length := by
    rw [← hl2, e3, List.length_append]
  walk_at "go"
  refine v_slTo (by omega) (by omega) ?_
  have e5 : name.take ((ra.length + c.length : Nat) : Int).toNat = ra.reverse ++ c := by
    rw [e1, e3, ← List.append_assoc]
    exact List.take_left' (by rw [List.length_append, List.length_reverse]; omega)
  have e6 : name.drop ((ra.length + c.length : Nat) : Int).toNat = d := by
    rw [e1, e3, ← List.append_assoc]
    exact List.drop_left' (by rw [List.length_append, List.length_reverse]; omega)
  rw [e5]
  have l1 : (ra.reverse ++ c).length + [k].length ≤ 1000000 := by
    rw [List.length_append, List.length_reverse, List.length_singleton]
    omega
  have l2 : (ra.reverse ++ c ++ [k]).length + d.length ≤ 1000000 := by
    rw [List.length_append, List.length_append, List.length_reverse, List.length_singleton]
    omega
  walk_at "go"
  refine v_slFrom (by omega) (by omega) ?_
  rw [e6]
  refine v_addS l2 ?_
  have e7 : stepAt k ra b = ra.reverse ++ c ++ [k] ++ d := by
    unfold stepAt
    rw [if_neg hh, e4]
    simp
  rw [e7] at q
  exact q
abbrev stjoined : Stmt := (top 13)
abbrev Njoined : List Str := ["plan", "name", "way", "kind"]
theorem scjoined : FnScope Njoined ["plan", "name", "way"] (defScope stjoined) := ⟨rfl, rfl, rfl, by decide +kernel, rfl, by decide +kernel, by decide +kernel⟩

theorem ok_joined (F : FnAt K mg "joined" stjoined) (D_stepped : Def P w K mg base CX0 1 "stepped" ["plan", "name", "kind"] (spStepped C)) : Def P w K mg base CX0 2 "joined" ["plan", "name", "way"] (spJoined C) := by
  refine F.ok scjoined (fun _ _ _ _ _ _ us hl => match us, hl with | [_, _, _], _ => rfl) (fun vs H Q E h => ?_) (fun f cdv A outer s H vs Q E hr h => ?_)
  · obtain ⟨x, ks, ps, name, k, rfl, _⟩ := h
    rfl
  obtain ⟨x, ks, ps, name, way, rfl, h1, hk, hl, q⟩ := h
  have hu := hu_of hr
  have nd := scjoined.nd
  refine ⟨_, (pss_cons (ps_for PassesOwn.never rfl (pi_str (pv 2)) (pg_name (i := 3) nd rfl (Or.inl rfl))
      (pss_one (ps_set (i := 1) nd rfl (Or.inl rfl) (pe_cd D_stepped hr pass0 (pa_cons (pv 0) (pa_cons (pv 1) (pa_cons (pv 3) pa_nil)))))))
      (pss_one (ps_ret (pv 1)))), ?_⟩
  refine s_start [some _, some _, some _, none] rfl ?_
  walk_at "go"
  refine for_it (walk_tx way) (fun i σ H' => ∃ z, σ = [some (.ref x), some (.str (tx (joinOf ks ps name (way.take i)))), some (.str (tx way)), z] ∧ H' = H) ⟨_, rfl, rfl⟩ (fun _ _ _ _ _ => trivial) ?_ ?_
  · rintro i v σ H2 H3 hi ⟨z, rfl, rfl⟩ ⟨rfl, rfl⟩
    walk_at "go"
    refine ⟨x, ks, ps, _, way.getD i 0, rfl, h1, hk _ (getD_mem hi), ?_, ?_⟩
    · have := joinOf_len ks ps (way.take i) name
      rw [List.length_take] at this
      omega
    walk_at "go"
    rw [← joinOf_snoc, ← take_getD hi]
    exact ⟨_, rfl, rfl⟩
  · rintro σ H2 ⟨z, rfl, rfl⟩
    walk_at "go"
    rw [List.take_of_length_le (Nat.le_refl _)]
    exact q
end
end
section
open PySem PySem.Spec L2
def roomF (x : Addr) (name : List Nat) : List (Str × V) := putF "name" (.str (tx name)) (putF "plan" (.ref x) [])
theorem npn : ¬ (("plan" : Str) = "name") := by decide +kernel
theorem roomF_p {x : Addr} {name : List Nat} : (roomF x name).lookup ("plan" : Str) = some (.ref x) := by
  unfold roomF
  rw [lookup_putF, if_neg npn, lookup_putF, if_pos rfl]
theorem roomF_n {x : Addr} {name : List Nat} : (roomF x name).lookup ("name" : Str) = some (.str (tx name)) := by
  unfold roomF
  rw [lookup_putF, if_pos rfl]
/-- a room of the plan at x stands at r -/
structure RoomAt (R : Addr) (H : Hp) (r x : Addr) (name : List Nat) : Prop where
  ex : ∃ dx, H r = some (.ins R dx (roomF x name))
theorem RoomAt.same {R : Addr} {H H' : Hp} {r x : Addr} {name : List Nat} (h : RoomAt R H r x name) (s : Same H H') : RoomAt R H' r x name := by
  obtain ⟨dx, e⟩ := h.ex
  exact ⟨dx, s _ _ e⟩
structure TxtR (K : PySem.W.Frag) (mg : Str → Option Value) (C R O : Addr) : Prop extends TxtP K mg C where
  enumerate : mg "enumerate" = none
  g_MOST_LETTERS : ∃ t, mg "MOST_LETTERS" = some (.int 2000 t)
  Room : ClsF K mg "Room" R
  nPl : NoAttr K R "plan"
  nNm : NoAttr K R "name"
  OtherPlan : ExcF K mg "OtherPlan" O
def spNeedWay (C : Addr) : Sp := fun vs H Q _ => ∃ (x : Addr) (ks : List Nat) (ps : List (List Nat)) (way : List Nat), vs = [.ref x, .str (tx way)] ∧ PlanAt C H x ks ps ∧ (∀ c ∈ way, c ∈ ks) ∧ way.length ≤ 2000 ∧ ∀ H', Same H H' → Q (.str (tx way)) H'
/-- two plans, and what is due if they are equal and if not -/
def Plans2 (C : Addr) (H : Hp) (x y : Addr) (e : Bool) : Prop := ∃ (ks ks' : List Nat) (ps ps' : List (List Nat)), PlanAt C H x ks ps ∧ PlanAt C H y ks' ps' ∧ PsOk ps ∧ PsOk ps' ∧ e = decide (ks = ks' ∧ ps = ps')
def spNeedSame (C O : Addr) : Sp := fun vs H Q E => ∃ (x y : Addr) (e : Bool), vs = [.ref x, .ref y] ∧ Plans2 C H x y e ∧ (e = true → Q .non H) ∧ (e = false → E (.ref O) none H)
def spRoom0 (C R : Addr) : Sp := fun vs H Q _ => ∃ (r dx x : Addr) (ks : List Nat) (ps : List (List Nat)) (way : List Nat), vs = [.ref r, .ref x, .str (tx way)] ∧ H r = some (.ins R dx []) ∧ PlanAt C H x ks ps ∧ (∀ c ∈ way, c ∈ ks) ∧ way.length ≤ 2000 ∧
  ∀ H', Keep r H H' → RoomAt R H' r x (joinOf ks ps [] way) → Q .non H'
def spRoom (C R : Addr) : Sp := fun vs H Q _ => ∃ (x : Addr) (ks : List Nat) (ps : List (List Nat)) (way : List Nat), vs = [.ref x, .str (tx way)] ∧ PlanAt C H x ks ps ∧ (∀ c ∈ way, c ∈ ks) ∧ way.length ≤ 2000 ∧ ∀ r H', H r = none → Same H H' → RoomAt R H' r x (joinOf ks ps [] way) → Q (.ref r) H'
theorem PlanAt.none {C : Addr} {H : Hp} {x : Addr} {ks : List Nat} {ps : List (List Nat)} (h : PlanAt C H x ks ps) {a b : Addr} {o u : HO} (ha : H a = none) (hb : H b = none) : PlanAt C (upd (upd H a o) b u) x ks ps := by
  refine h.same fun c z hc => ?_
  rw [upd_ne (ne_of_none hc hb), upd_ne (ne_of_none hc ha)]
  exact hc
theorem conv_room (C R : Addr) : Conv R (spRoom0 C R) (spRoom C R) := by
  rintro vs H Q E ⟨x, ks, ps, way, rfl, hp, h1, h2, k⟩ r dx hx hdx hne
  refine ⟨r, dx, x, ks, ps, way, rfl, upd_same, hp.none hdx hx, h1, h2, fun H' s' a => ⟨rfl, k r H' hx (fun b o hb => ?_) a⟩⟩
  refine s' b o ?_ (ne_of_none hb hx)
  rw [upd_ne (ne_of_none hb hx), upd_ne (ne_of_none hb hdx)]
  exact hb
section
variable {P : Program} {w : World} {K : PySem.W.Frag} {mg : Str → Option Value} {base : Heap} {C R O : Addr}
abbrev stneed_way : Stmt := (top 32)
abbrev Nneed_way : List Str := ["plan", "way", "index", "letter"]
theorem scneed_way : FnScope Nneed_way ["plan", "way"] (defScope stneed_way) := ⟨rfl, rfl, rfl, by decide +kernel, rfl, by decide +kernel, by decide +kernel⟩

theorem ok_need_way (F : FnAt K mg "need_way" stneed_way) (T : TxtR K mg C R O) : Def P w K mg base CX0 1 "need_way" ["plan", "way"] (spNeedWay C) := by
  refine F.ok scneed_way (fun _ _ _ _ _ _ us hl => match us, hl with | [_, _], _ => rfl) (fun vs H Q E h => ?_) (fun f cdv A outer s H vs Q E hr h => ?_)
  · obtain ⟨x, ks, ps, way, rfl, _⟩ := h
    rfl
  obtain ⟨x, ks, ps, way, rfl, h1, hk, hl, q⟩ := h
  have hu := hu_of hr
  have nd := scneed_way.nd
  refine ⟨_, (pss_cons (ps_if (pt_not (pt_val (pe_callB (c_isiK (K := K) rfl) (by rfl) T.isinstance (by decide +kernel) (pa_cons (pv 1) (pa_cons (pe_bltn (v := .ty "str") (u := .type "str") (by rfl) T.str (by decide +kernel) rfl) pa_nil)))))
      (pss_one ps_never)
      pss_nil)
      (pss_cons (ps_for PassesOwn.never rfl (pi_enumS (by rfl) T.enumerate (pa_cons (pv 1) pa_nil)) (pg_tup rfl (pgs_cons (pg_name (i := 2) nd rfl (Or.inl rfl)) (pgs_cons (pg_name (i := 3) nd rfl (Or.inl rfl)) pgs_nil)))
      (pss_one (ps_if (pt_cmpR op_notInS (pv 3) (pe_flK (K := K) rfl (pv 0) rfl) (by rfl))
        (pss_one ps_never)
        pss_nil)))
      (pss_cons (ps_if (pt_cmpR op_gt (pe_callB c_lenS (by rfl) T.len PySem.boot_len (pa_cons (pv 1) pa_nil)) (pe_globI T.g_MOST_LETTERS) (nomark _))
      (pss_one ps_never)
      pss_nil)
      (pss_one (ps_ret (pv 1)))))), ?_⟩
  refine s_start [some _, some _, none, none] rfl ?_
  walk_at "go"
  refine for_it (walk_enumS way) (fun i σ H' => ∃ y z, σ = [some (.ref x), some (.str (tx way)), y, z] ∧ Same H H') ⟨_, _, rfl, Same.refl _⟩ (fun _ _ _ _ _ => trivial) ?_ ?_
  · rintro i v σ H2 H3 hi ⟨y, z, rfl, s2⟩ ⟨t, c, rfl, ht, rfl, hc⟩
    have s3 : Same H (upd H2 t (.tup [.int (i : Nat), .str (tx [c])])) := s2.trans (Same.new ht)
    obtain ⟨dx, t', d, a1, a2, a3⟩ := h1.ex
    refine v_gTup2 rfl upd_same ?_
    walk_at "go"
    refine v_fld (s3 _ _ a1) T.Plan.cl T.nK planF_k ?_
    walk_at "go"
    refine if_ndec (fun z => absurd (hk c (List.mem_of_getElem? hc)) z) (fun _ => ?_)
    walk_at "go"
    exact ⟨_, _, rfl, s3⟩
  · rintro σ H2 ⟨y, z, rfl, s2⟩
    walk_at "go"
    refine if_dec (fun c => ?_) (fun c => ?_)
    · omega
    walk_at "go"
    exact q H2 s2
abbrev stneed_same : Stmt := (top 33)
abbrev Nneed_same : List Str := ["plan", "other"]
theorem scneed_same : FnScope Nneed_same ["plan", "other"] (defScope stneed_same) := ⟨rfl, rfl, rfl, by decide +kernel, rfl, by decide +kernel, by decide +kernel⟩

theorem ok_need_same (F : FnAt K mg "need_same" stneed_same) (T : TxtR K mg C R O) (N_Plan_eq : MDef P w K mg base CX0 1 C "__eq__" ["self", "other"] (spPlanEq C)) : Def P w K mg base (L2.CX P w) 3 "need_same" ["plan", "other"] (spNeedSame C O) := by
  refine F.okX scneed_same (fun _ _ _ _ _ _ us hl => match us, hl with | [_, _], _ => rfl) (fun vs H Q E h => ?_) (fun f cdv A outer s H vs Q E hr h => ?_)
  · obtain ⟨x, y, e, rfl, _⟩ := h
    rfl
  obtain ⟨x, y, e, rfl, ⟨ks, ks', ps, ps', p1, p2, o1, o2, he⟩, q1, q2⟩ := h
  have hu := hu_of hr
  have nd := scneed_same.nd
  refine ⟨_, (pss_one (ps_if (pt_cmpR (op_neM N_Plan_eq T.Plan.ne T.Plan.ob hr pass0) (pv 0) (pv 1) (nomark _))
      (pss_one (ps_raise rfl (takes_of rfl rfl rfl rfl) (pmk_own0 T.OtherPlan)))
      pss_nil)), ?_⟩
  refine s_start [some _, some _] rfl ?_
  walk_at "go"
  obtain ⟨dx, t, d, a1, a2, a3⟩ := p1.ex
  obtain ⟨dy, t', d', b1, b2, b3⟩ := p2.ex
  refine v_M2n a1 b1 ?_
  refine ⟨x, y, ks, ks', ps, ps', rfl, p1, p2, o1, o2, ?_⟩
  refine ⟨_, rfl, ?_⟩
  walk_at "go"
  refine if_ndec (fun c => ?_) (fun c => ?_)
  · exact q2 (by rw [he, decide_eq_false c])
  · walk_at "go"
    exact q1 (by rw [he, decide_eq_true c])
abbrev stRoom_init : Stmt := (inClass (top 35) 0)
abbrev NRoom_init : List Str := ["self", "plan", "way"]
theorem scRoom_init : FnScope NRoom_init ["self", "plan", "way"] (defScope stRoom_init) := ⟨rfl, rfl, rfl, by decide +kernel, rfl, by decide +kernel, by decide +kernel⟩

theorem ok_Room {dvs : List V} (F : MAtD K R "__init__" "Room.__init__" stRoom_init dvs) (hd : dvs.length = 1) (T : TxtR K mg C R O) (D_need_way : Def P w K mg base CX0 1 "need_way" ["plan", "way"] (spNeedWay C)) (D_joined : Def P w K mg base CX0 2 "joined" ["plan", "name", "way"] (spJoined C)) :
    CMk P w K mg base CX0 3 "Room" R (spRoom C R) ["self", "plan", "way"] "Room.__init__" stRoom_init dvs := by
  refine F.make (sp0 := spRoom0 C R) T.Room scRoom_init (by intro z; rw [z] at hd; cases hd) (fun T kV doc pm an cdv ct us its l1 l2 => ?_) (fun vs H Q E h => ?_) (conv_room C R) (fun f cdv A outer s H vs Q E hr h => ?_)
  · rw [hd] at l2 ⊢
    match us, l1, its, l2 with
    | [_, _, _], _, [_], _ => exact ⟨_, rfl, rfl⟩
  · obtain ⟨r, dx, x, ks, ps, way, rfl, _⟩ := h
    rfl
  obtain ⟨r, dx, x, ks, ps, way, rfl, hx, hp, h1, h2, k⟩ := h
  have hu := hu_of hr
  have nd := scRoom_init.nd
  replace D_need_way := D_need_way.mono (show 1 ≤ 2 by decide)
  refine ⟨_, (pss_cons (ps_flK (K := K) rfl (pv 0) (pv 1) rfl)
      (pss_one (ps_flK (K := K) rfl (pv 0) (pe_cd D_joined hr pass0 (pa_cons (pv 1) (pa_cons (pe_tx [] (by decide +kernel)) (pa_cons (pe_cd D_need_way hr pass0 (pa_cons (pv 1) (pa_cons (pv 2) pa_nil))) pa_nil)))) rfl))), ?_⟩
  refine s_start [some _, some _, some _] rfl ?_
  walk_at "go"
  refine v_sfld hx T.Room.cl T.nPl (by decide) fun H1 s1 e1 => ?_
  walk_at "go"
  have hp1 : PlanAt C H1 x ks ps := by
    obtain ⟨dx', t', d, a1, a2, a3⟩ := hp.ex
    exact ⟨dx', t', d, s1 _ _ a1 (fun z => by rw [z, hx] at a1; injection a1 with a1; injection a1 with _ _ a1; cases a1), s1 _ _ a2 (ne_of a2 hx (by intro z; cases z)), s1 _ _ a3 (ne_of a3 hx (by intro z; cases z))⟩
  refine ⟨x, ks, ps, way, rfl, hp1, h1, h2, fun H2 s2 => ?_⟩
  walk_at "go"
  refine ⟨x, ks, ps, [], way, rfl, hp1.same s2, h1, by rw [List.length_nil]; omega, ?_⟩
  walk_at "go"
  refine v_sfld (s2 _ _ e1) T.Room.cl T.nNm (by show 1 < 1000; decide) fun H3 s3 e3 => ?_
  refine k H3 (fun b o hb nb => s3 _ _ (s2 _ _ (s1 _ _ hb nb)) nb) ⟨dx, e3⟩
end
end
section
open PySem PySem.Spec L2
theorem Plans2.same {C : Addr} {H H' : Hp} {x y : Addr} {e : Bool} (h : Plans2 C H x y e) (s : Same H H') : Plans2 C H' x y e := by
  obtain ⟨ks, ks', ps, ps', a, b, c⟩ := h
  exact ⟨ks, ks', ps, ps', a.same s, b.same s, c⟩
def spRoomLen (R : Addr) : Sp := fun vs H Q _ => ∃ (r x : Addr) (name : List Nat), vs = [.ref r] ∧ RoomAt R H r x name ∧ name.length ≤ 100000 ∧ Q (.int name.length) H
/-- two rooms, and whether their plans are equal -/
structure Rooms2 (C R : Addr) (H : Hp) (r x : Addr) (a : List Nat) (r' y : Addr) (b : List Nat) (e : Bool) : Prop where
  one : RoomAt R H r x a
  two : RoomAt R H r' y b
  pl : Plans2 C H x y e
  la : a.length ≤ 2000
  lb : b.length ≤ 2000
theorem Rooms2.same {C R : Addr} {H H' : Hp} {r x : Addr} {a : List Nat} {r' y : Addr} {b : List Nat} {e : Bool} (h : Rooms2 C R H r x a r' y b e) (s : Same H H') : Rooms2 C R H' r x a r' y b e := ⟨h.one.same s, h.two.same s, h.pl.same s, h.la, h.lb⟩
def spRoomEq (C R : Addr) : Sp := fun vs H Q _ => ∃ (r x : Addr) (a : List Nat) (r' y : Addr) (b : List Nat) (e : Bool), vs = [.ref r, .ref r'] ∧ Rooms2 C R H r x a r' y b e ∧ Q (.bl (e && decide (a = b))) H
def spWayTo (C R O : Addr) : Sp := fun vs H Q E => ∃ (r x : Addr) (a : List Nat) (r' y : Addr) (b : List Nat) (e : Bool) (ks : List Nat) (ps : List (List Nat)), vs = [.ref r, .ref r'] ∧ Rooms2 C R H r x a r' y b e ∧
  PlanAt C H x ks ps ∧ (∀ c ∈ a, c ∈ ks) ∧ (e = true → ∀ c ∈ b, c ∈ ks) ∧ (e = true → Q (.str (tx (wayOf ks ps a b))) H) ∧ (e = false → E (.ref O) none H)
theorem roomF_no {x : Addr} {name : List Nat} {m : Str} (h1 : ¬ m = "name") (h2 : ¬ m = "plan") : (roomF x name).lookup m = none := by
  unfold roomF
  rw [lookup_putF, if_neg h1, lookup_putF, if_neg h2]
  rfl
section
variable {P : Program} {w : World} {K : PySem.W.Frag} {mg : Str → Option Value} {base : Heap} {C R O : Addr}
abbrev stRoom_len : Stmt := (inClass (top 35) 1)
abbrev NRoom_len : List Str := ["self"]
theorem scRoom_len : FnScope NRoom_len ["self"] (defScope stRoom_len) := ⟨rfl, rfl, rfl, by decide +kernel, rfl, by decide +kernel, by decide +kernel⟩

theorem ok_Room_len (F : MAt K R "__len__" "Room.__len__" stRoom_len) (T : TxtR K mg C R O) : MDef P w K mg base CX0 1 R "__len__" ["self"] (spRoomLen R) := by
  refine F.ok scRoom_len (fun _ _ _ _ _ _ us hl => match us, hl with | [_], _ => rfl) (fun vs H Q E h => ?_) (fun f cdv A outer s H vs Q E hr h => ?_)
  · obtain ⟨r, x, name, rfl, _⟩ := h
    rfl
  obtain ⟨r, x, name, rfl, ha, hl, q⟩ := h
  have hu := hu_of hr
  have nd := scRoom_len.nd
  refine ⟨_, (pss_one (ps_ret (pe_callB c_lenS (by rfl) T.len PySem.boot_len (pa_cons (pe_flK (K := K) rfl (pv 0) rfl) pa_nil)))), ?_⟩
  refine s_start [some _] rfl ?_
  obtain ⟨dx, a1⟩ := ha.ex
  walk_at "go"
  refine v_fld a1 T.Room.cl T.nNm roomF_n ?_
  walk_at "go"
  exact q
abbrev stRoom_eq : Stmt := (inClass (top 35) 9)
abbrev NRoom_eq : List Str := ["self", "other"]
theorem scRoom_eq : FnScope NRoom_eq ["self", "other"] (defScope stRoom_eq) := ⟨rfl, rfl, rfl, by decide +kernel, rfl, by decide +kernel, by decide +kernel⟩

theorem ok_Room_eq (F : MAt K R "__eq__" "Room.__eq__" stRoom_eq) (T : TxtR K mg C R O) (M_Plan_eq : MDef P w K mg base CX0 1 C "__eq__" ["self", "other"] (spPlanEq C)) : MDef P w K mg base CX0 2 R "__eq__" ["self", "other"] (spRoomEq C R) := by
  refine F.ok scRoom_eq (fun _ _ _ _ _ _ us hl => match us, hl with | [_, _], _ => rfl) (fun vs H Q E h => ?_) (fun f cdv A outer s H vs Q E hr h => ?_)
  · obtain ⟨r, x, a, r', y, b, e, rfl, _⟩ := h
    rfl
  obtain ⟨r, x, a, r', y, b, e, rfl, h, q⟩ := h
  have hu := hu_of hr
  have nd := scRoom_eq.nd
  refine ⟨_, (pss_one (ps_ret (pe_and (pe_callB (c_isiK (K := K) rfl) (by rfl) T.isinstance (by decide +kernel) (pa_cons (pv 1) (pa_cons (pe_globC T.Room.at) pa_nil))) (pe_and (pe_cmpR (op_cmpM (op := .Eq) (fun _ _ => rfl) M_Plan_eq hr pass0) (pe_flK (K := K) rfl (pv 0) rfl) (pe_flK (K := K) rfl (pv 1) rfl) (nomark _)) (pe_one (pe_cmpR op_eq (pe_flK (K := K) rfl (pv 0) rfl) (pe_flK (K := K) rfl (pv 1) rfl) (nomark _))))))), ?_⟩
  refine s_start [some _, some _] rfl ?_
  obtain ⟨dr, a1⟩ := h.one.ex
  obtain ⟨dr', b1⟩ := h.two.ex
  obtain ⟨ks, ks', ps, ps', p1, p2, o1, o2, he⟩ := h.pl
  obtain ⟨dx, t, d, c1, c2, c3⟩ := p1.ex
  obtain ⟨dy, t', d', d1, d2, d3⟩ := p2.ex
  walk_at "go"
  refine v_isiC T.Room b1 ?_
  walk_at "go"
  refine v_fld a1 T.Room.cl T.nPl roomF_p ?_
  walk_at "go"
  refine v_fld b1 T.Room.cl T.nPl roomF_p ?_
  refine v_M2 c1 d1 ⟨x, y, ks, ks', ps, ps', rfl, p1, p2, o1, o2, ?_⟩
  rw [← he]
  walk_at "go"
  cases e with
  | true =>
    walk_at "go"
    refine v_fld a1 T.Room.cl T.nNm roomF_n ?_
    walk_at "go"
    refine v_fld b1 T.Room.cl T.nNm roomF_n ?_
    walk_at "go"
    rw [dec_tx]
    exact q
  | false =>
    walk_at "go"
    exact q
end
end
section
open PySem PySem.Spec L2
def spPen (K : PySem.W.Frag) : Sp := fun vs H Q _ => ∃ (a : Addr) (ns : List Int), vs = [.ref a] ∧ SqL K H a (ns.map V.int) ∧ ns.length ≤ 63 ∧ ∀ (g : Pen) (H' : Hp), PenAt g H' 0 → Same H H' → H g.p = none → Q (.ref g.p) H'
theorem cut_ints (ns : List Int) (lo hi : Option Int) : ∃ ms : List Int, cutV (ns.map V.int) lo hi = ms.map V.int ∧ ms.length ≤ ns.length := by
  unfold cutV
  rw [← List.map_drop, ← List.map_take]
  refine ⟨_, rfl, ?_⟩
  rw [List.length_take, List.length_drop]
  omega
section
variable {P : Program} {w : World} {K : PySem.W.Frag} {mg : Str → Option Value} {base : Heap}
abbrev stpen : Stmt := (top 55)
abbrev Npen : List Str := ["_law_script"]
theorem scpen : FnScope Npen ["_law_script"] (defScope stpen) := ⟨rfl, rfl, rfl, by decide +kernel, rfl, by decide +kernel, by decide +kernel⟩

theorem ok_pen (F : FnAt K mg "_law_pen" stpen) (T : Txt K mg) : Def P w K mg base CX0 1 "_law_pen" ["_law_script"] (spPen K) := by
  refine F.ok scpen (fun _ _ _ _ _ _ us hl => match us, hl with | [_], _ => rfl) (fun vs H Q E h => ?_) (fun f cdv A outer s H vs Q E hr h => ?_)
  · obtain ⟨a, ns, rfl, _⟩ := h
    rfl
  obtain ⟨a, ns, rfl, ha, hn, k⟩ := h
  have hu := hu_of hr
  have nd := scpen.nd
  refine ⟨_, (pss_one (ps_ret (pe_disp (pps_cons pe_str (pe_callTy (c_listK (K := K) rfl) (by rfl) T.list (by decide +kernel) (pa_cons (pe_slice (sl_LK (K := K) rfl) (pv 0) po_none (po_some pe_int)) pa_nil)) (pps_cons pe_str pe_int (pps_cons pe_str pe_int pps_nil))) (by rfl) (by rfl) (fun z => by cases z) (by decide)))), ?_⟩
  refine s_start [some _] rfl ?_
  walk_at "go"
  intro p hp
  have s1 : Same H (upd H p (.dK [])) := Same.new hp
  obtain ⟨ms, e1, l1⟩ := cut_ints ns none (some 63)
  walk_at "go"
  refine v_slL (sqL_same ha s1) fun b H2 hb s2 e2 => ?_
  rw [e1] at e2
  walk_at "go"
  refine v_list (SqL.of e2) fun c H3 hc s3 e3 => ?_
  walk_at "go"
  have ep : H3 p = some (.dK []) := s3 _ _ (s2 _ _ upd_same)
  refine ⟨ep, [(Sum.inr "cells", .ref c), (Sum.inr "place", .int 0), (Sum.inr "rest", .int 0)], rfl, (by show 3 ≤ 15; decide), ?_⟩
  have hcp : c ≠ p := (ne_of_none (s2 _ _ upd_same) hc).symm
  have em : mergeK [] [(Sum.inr ("cells" : Str), V.ref c), (Sum.inr ("place" : Str), .int 0), (Sum.inr ("rest" : Str), .int 0)] = penL c 0 0 := by
    unfold mergeK penL
    rw [List.foldl_cons, List.foldl_cons, List.foldl_cons, List.foldl_nil]
    rw [putK_new (k := Sum.inr ("cells" : Str)) _ rfl, putK_new (k := Sum.inr ("place" : Str)) _ (by rw [List.nil_append, valV_neg kcp]; rfl), putK_new (k := Sum.inr ("rest" : Str)) _ (by rw [List.nil_append, List.cons_append, valV_neg kcr, List.nil_append, valV_neg kpr]; rfl)]
    rfl
  rw [em]
  have s4 : Same H (upd H3 p (.dK (penL c 0 0))) := fun b' o hb' => by
    rw [upd_ne (ne_of_none hb' hp)]
    exact s3 _ _ (s2 _ _ (s1 _ _ hb'))
  refine k ⟨p, c, ms⟩ _ ⟨0, 0, upd_same, ?_, by show ms.length ≤ 63; omega, by omega, by omega, by omega⟩ s4 hp
  show upd H3 p _ c = _
  rw [upd_ne hcp]
  exact e3
end
end
section
open PySem PySem.Spec L2
theorem cells_ne {k : Nat} : ¬ ((Sum.inr (tx [k]) : Key) = Sum.inr ("cells" : Str)) := by
  intro h
  injection h with h
  have : (tx [k]).length = ("cells" : Str).length := by rw [h]
  rw [tx_len, List.length_singleton] at this
  exact absurd this (by decide +kernel)
theorem RoomAt.pen {R : Addr} {H H' : Hp} {r x : Addr} {nm : List Nat} {g : Pen} {n : Nat} (h : RoomAt R H r x nm) (p : PenAt g H n) (k : Keep g.p H H') : RoomAt R H' r x nm := by
  obtain ⟨dx, e⟩ := h.ex
  obtain ⟨a, b, h1, _⟩ := p.ex
  exact ⟨dx, k _ _ e (ne_of e h1 (by intro z; cases z))⟩
theorem PlanAt.pen {C : Addr} {H H' : Hp} {x : Addr} {ks : List Nat} {ps : List (List Nat)} {g : Pen} {n : Nat} (h : PlanAt C H x ks ps) (p : PenAt g H n) (k : Keep g.p H H') : PlanAt C H' x ks ps := by
  obtain ⟨dx, t, d, a1, a2, a3⟩ := h.ex
  obtain ⟨a, b, h1, _⟩ := p.ex
  refine ⟨dx, t, d, k _ _ a1 (ne_of a1 h1 (by intro z; cases z)), k _ _ a2 (ne_of a2 h1 (by intro z; cases z)), k _ _ a3 fun z => ?_⟩
  rw [z, h1] at a3
  injection a3 with a3
  injection a3 with a3
  unfold crossKV penL at a3
  generalize hk : ks.map _ = m at a3
  cases ks with
  | nil => rw [List.map_nil] at hk; rw [← hk] at a3; cases a3
  | cons c r =>
    rw [List.map_cons] at hk
    rw [← hk] at a3
    injection a3 with a3 _
    injection a3 with a3 _
    exact cells_ne a3.symm
theorem RoomAt.lst {R : Addr} {H H' : Hp} {r x q : Addr} {nm : List Nat} {l : List V} (h : RoomAt R H r x nm) (e0 : H q = some (.lst l)) (k : Keep q H H') : RoomAt R H' r x nm := by
  obtain ⟨dx, e⟩ := h.ex
  exact ⟨dx, k _ _ e (ne_of e e0 (by intro z; cases z))⟩
theorem PlanAt.lst {C : Addr} {H H' : Hp} {x q : Addr} {ks : List Nat} {ps : List (List Nat)} {l : List V} (h : PlanAt C H x ks ps) (e0 : H q = some (.lst l)) (k : Keep q H H') : PlanAt C H' x ks ps := by
  obtain ⟨dx, t, d, a1, a2, a3⟩ := h.ex
  exact ⟨dx, t, d, k _ _ a1 (ne_of a1 e0 (by intro z; cases z)), k _ _ a2 (ne_of a2 e0 (by intro z; cases z)), k _ _ a3 (ne_of a3 e0 (by intro z; cases z))⟩
end
section
open PySem PySem.Spec L2
def spIsKind (C : Addr) : Sp := fun vs H Q _ => ∃ (x : Addr) (ks : List Nat) (ps : List (List Nat)) (k : Nat), vs = [.ref x, .str (tx [k])] ∧ PlanAt C H x ks ps ∧ k ∈ ks ∧ Q (.bl true) H
def spNeedKind (C : Addr) : Sp := fun vs H Q _ => ∃ (x : Addr) (ks : List Nat) (ps : List (List Nat)) (k : Nat), vs = [.ref x, .str (tx [k])] ∧ PlanAt C H x ks ps ∧ k ∈ ks ∧ Q (.str (tx [k])) H
def spRoomAdd (C R : Addr) : Sp := fun vs H Q _ => ∃ (r x : Addr) (ks : List Nat) (ps : List (List Nat)) (name way : List Nat), vs = [.ref r, .str (tx way)] ∧ RoomAt R H r x name ∧ PlanAt C H x ks ps ∧ (∀ c ∈ name, c ∈ ks) ∧ (∀ c ∈ way, c ∈ ks) ∧ name.length ≤ 2000 ∧ way.length ≤ 2000 ∧ (joinOf ks ps name way).length ≤ 2000 ∧
  ∀ r' H', H r' = none → Same H H' → RoomAt R H' r' x (joinOf ks ps [] (joinOf ks ps name way)) → Q (.ref r') H'
/-- a room and a text -/
def spRoomEqS (R : Addr) : Sp := fun vs H Q _ => ∃ (r : Addr) (z : Str), vs = [.ref r, .str z] ∧ Q (.bl false) H
section
variable {P : Program} {w : World} {K : PySem.W.Frag} {mg : Str → Option Value} {base : Heap} {C R O : Addr}
abbrev stis_kind : Stmt := (top 30)
abbrev Nis_kind : List Str := ["plan", "value"]
theorem scis_kind : FnScope Nis_kind ["plan", "value"] (defScope stis_kind) := ⟨rfl, rfl, rfl, by decide +kernel, rfl, by decide +kernel, by decide +kernel⟩

theorem ok_is_kind (F : FnAt K mg "is_kind" stis_kind) (T : TxtP K mg C) : Def P w K mg base CX0 1 "is_kind" ["plan", "value"] (spIsKind C) := by
  refine F.ok scis_kind (fun _ _ _ _ _ _ us hl => match us, hl with | [_, _], _ => rfl) (fun vs H Q E h => ?_) (fun f cdv A outer s H vs Q E hr h => ?_)
  · obtain ⟨x, ks, ps, k, rfl, _⟩ := h
    rfl
  obtain ⟨x, ks, ps, k, rfl, h1, hk, q⟩ := h
  have hu := hu_of hr
  have nd := scis_kind.nd
  refine ⟨_, (pss_one (ps_ret (pe_and (pe_callB (c_isiK (K := K) rfl) (by rfl) T.isinstance (by decide +kernel) (pa_cons (pv 1) (pa_cons (pe_bltn (v := .ty "str") (u := .type "str") (by rfl) T.str (by decide +kernel) rfl) pa_nil))) (pe_and (pe_cmpR op_eq (pe_callB c_lenS (by rfl) T.len PySem.boot_len (pa_cons (pv 1) pa_nil)) pe_int (nomark _)) (pe_one (pe_cmpR op_inS (pv 1) (pe_flK (K := K) rfl (pv 0) rfl) (by rfl))))))), ?_⟩
  refine s_start [some _, some _] rfl ?_
  obtain ⟨dx, t, d, a1, a2, a3⟩ := h1.ex
  have l1 : [k].length ≤ 1000000 := by simp
  walk_at "go"
  refine if_dec (fun c => ?_) (fun c => (c (by rfl)).elim)
  walk_at "go"
  refine v_fld a1 T.Plan.cl T.nK planF_k ?_
  walk_at "go"
  rw [decide_eq_true hk]
  exact q
abbrev stneed_kind : Stmt := (top 31)
abbrev Nneed_kind : List Str := ["plan", "value"]
theorem scneed_kind : FnScope Nneed_kind ["plan", "value"] (defScope stneed_kind) := ⟨rfl, rfl, rfl, by decide +kernel, rfl, by decide +kernel, by decide +kernel⟩

theorem ok_need_kind (F : FnAt K mg "need_kind" stneed_kind) (D_is_kind : Def P w K mg base CX0 1 "is_kind" ["plan", "value"] (spIsKind C)) : Def P w K mg base CX0 2 "need_kind" ["plan", "value"] (spNeedKind C) := by
  refine F.ok scneed_kind (fun _ _ _ _ _ _ us hl => match us, hl with | [_, _], _ => rfl) (fun vs H Q E h => ?_) (fun f cdv A outer s H vs Q E hr h => ?_)
  · obtain ⟨x, ks, ps, k, rfl, _⟩ := h
    rfl
  obtain ⟨x, ks, ps, k, rfl, h1, hk, q⟩ := h
  have hu := hu_of hr
  have nd := scneed_kind.nd
  refine ⟨_, (pss_cons (ps_if (pt_not (pt_val (pe_cd D_is_kind hr pass0 (pa_cons (pv 0) (pa_cons (pv 1) pa_nil)))))
      (pss_one ps_never)
      pss_nil)
      (pss_one (ps_ret (pv 1)))), ?_⟩
  refine s_start [some _, some _] rfl ?_
  walk_at "go"
  refine ⟨x, ks, ps, k, rfl, h1, hk, ?_⟩
  walk_at "go"
  exact q
abbrev stRoom_add : Stmt := (inClass (top 35) 4)
abbrev NRoom_add : List Str := ["self", "way"]
theorem scRoom_add : FnScope NRoom_add ["self", "way"] (defScope stRoom_add) := ⟨rfl, rfl, rfl, by decide +kernel, rfl, by decide +kernel, by decide +kernel⟩

theorem ok_Room_add (F : MAt K R "__add__" "Room.__add__" stRoom_add) (T : TxtR K mg C R O) (D_need_way : Def P w K mg base CX0 1 "need_way" ["plan", "way"] (spNeedWay C)) (D_joined : Def P w K mg base CX0 2 "joined" ["plan", "name", "way"] (spJoined C)) (C_Room : CDef P w K mg base CX0 3 "Room" R (spRoom C R)) : MDef P w K mg base CX0 5 R "__add__" ["self", "way"] (spRoomAdd C R) := by
  refine F.ok scRoom_add (fun _ _ _ _ _ _ us hl => match us, hl with | [_, _], _ => rfl) (fun vs H Q E h => ?_) (fun f cdv A outer s H vs Q E hr h => ?_)
  · obtain ⟨r, x, ks, ps, name, way, rfl, _⟩ := h
    rfl
  obtain ⟨r, x, ks, ps, name, way, rfl, h1, h2, hn, hw, l1, l2, l3, q⟩ := h
  have hu := hu_of hr
  have nd := scRoom_add.nd
  replace D_need_way := D_need_way.mono (show 1 ≤ 4 by decide)
  replace D_joined := D_joined.mono (show 2 ≤ 4 by decide)
  refine ⟨_, (pss_one (ps_ret (pe_mk C_Room hr pass0 (pa_cons (pe_flK (K := K) rfl (pv 0) rfl) (pa_cons (pe_cd D_joined hr pass0 (pa_cons (pe_flK (K := K) rfl (pv 0) rfl) (pa_cons (pe_flK (K := K) rfl (pv 0) rfl) (pa_cons (pe_cd D_need_way hr pass0 (pa_cons (pe_flK (K := K) rfl (pv 0) rfl) (pa_cons (pv 1) pa_nil))) pa_nil)))) pa_nil))))), ?_⟩
  refine s_start [some _, some _] rfl ?_
  obtain ⟨dr, a1⟩ := h1.ex
  walk_at "go"
  refine v_fld a1 T.Room.cl T.nPl roomF_p ?_
  walk_at "go"
  refine v_fld a1 T.Room.cl T.nPl roomF_p ?_
  walk_at "go"
  refine v_fld a1 T.Room.cl T.nNm roomF_n ?_
  walk_at "go"
  refine v_fld a1 T.Room.cl T.nPl roomF_p ?_
  walk_at "go"
  refine ⟨x, ks, ps, way, rfl, h2, hw, l2, fun H1 s1 => ?_⟩
  walk_at "go"
  refine ⟨x, ks, ps, name, way, rfl, h2.same s1, hw, by omega, ?_⟩
  walk_at "go"
  refine ⟨x, ks, ps, _, rfl, h2.same s1, fun c hc => (joinOf_mem hc).elim (hn c) (hw c), l3, fun r' H' a b c => q r' H' ?_ (s1.trans b) c⟩
  exact L2.Same.free s1 a
end
end
section
open PySem PySem.Spec L2
def spPick : Sp := fun vs H Q _ => ∃ (g : Pen) (n : Nat) (q : Addr) (xs : List V), vs = [.ref g.p, .ref q] ∧ H q = some (.lst xs) ∧ 0 < xs.length ∧ xs.length < 1000000 ∧ PenAt g H n ∧ n < 1000000 ∧ q ≠ g.p ∧
  ∀ v H', v ∈ xs → PenAt g H' (n + 1) → Keep g.p H H' → Q v H'
def spShuffled : Sp := fun vs H Q _ => ∃ (g : Pen) (n : Nat) (q : Addr) (ls : List Nat), vs = [.ref g.p, .ref q] ∧ H q = some (.lst (ls.map fun c => V.str (tx [c]))) ∧ ls.length ≤ 1000 ∧ (∀ c ∈ ls, c < 1000) ∧ PenAt g H n ∧ n < 950000 ∧
  ∀ (l : Addr) (ys : List Nat) (H' : Hp), H l = none → ys.Perm ls → H' l = some (.lst (ys.map fun c => V.str (tx [c]))) → PenAt g H' (n + ls.length) → Keep g.p H H' → Q (.ref l) H'
section
variable {P : Program} {w : World} {K : PySem.W.Frag} {mg : Str → Option Value} {base : Heap}
abbrev stpick : Stmt := (top 57)
abbrev Npick : List Str := ["_law_pen_here", "_law_items"]
theorem scpick : FnScope Npick ["_law_pen_here", "_law_items"] (defScope stpick) := ⟨rfl, rfl, rfl, by decide +kernel, rfl, by decide +kernel, by decide +kernel⟩

theorem ok_pick (F : FnAt K mg "_law_pick" stpick) (T : Txt K mg) (D_draw : Def P w K mg base CX0 1 "_law_draw" ["_law_pen_here", "_law_number"] spDraw) : Def P w K mg base CX0 2 "_law_pick" ["_law_pen_here", "_law_items"] spPick := by
  refine F.ok scpick (fun _ _ _ _ _ _ us hl => match us, hl with | [_, _], _ => rfl) (fun vs H Q E h => ?_) (fun f cdv A outer s H vs Q E hr h => ?_)
  · obtain ⟨g, n, q, xs, rfl, _⟩ := h
    rfl
  obtain ⟨g, n, q, xs, rfl, hq, h0, h1, hp, hn, hne, k⟩ := h
  have hu := hu_of hr
  have nd := scpick.nd
  refine ⟨_, (pss_one (ps_ret (pe_ix (ix_LK (K := K) rfl) (pv 1) (pe_cd D_draw hr pass0 (pa_cons (pv 0) (pa_cons (pe_callB (c_lenK (K := K) rfl) (by rfl) T.len PySem.boot_len (pa_cons (pv 1) pa_nil)) pa_nil))) (fun _ _ => rfl)))), ?_⟩
  refine s_start [some _, some _] rfl ?_
  walk_at "go"
  refine ⟨g, xs.length, n, rfl, by omega, by omega, hp, hn, fun z H1 z0 z1 p1 k1 => ?_⟩
  walk_at "go"
  have hz : z.toNat < xs.length := by omega
  refine v_ixL (k1 _ _ hq hne) (at_of (j := z.toNat) (by omega) (List.getElem?_eq_getElem hz)) ?_
  exact k _ H1 (List.getElem_mem hz) p1 k1
abbrev stshuffled : Stmt := (top 58)
abbrev Nshuffled : List Str := ["_law_pen_here", "_law_items", "_law_left", "_law_found"]
theorem scshuffled : FnScope Nshuffled ["_law_pen_here", "_law_items"] (defScope stshuffled) := ⟨rfl, rfl, rfl, by decide +kernel, rfl, by decide +kernel, by decide +kernel⟩

theorem ok_shuffled (F : FnAt K mg "_law_shuffled" stshuffled) (T : Txt K mg) (D_draw : Def P w K mg base CX0 1 "_law_draw" ["_law_pen_here", "_law_number"] spDraw) : Def P w K mg base CX0 2 "_law_shuffled" ["_law_pen_here", "_law_items"] spShuffled := by
  refine F.ok scshuffled (fun _ _ _ _ _ _ us hl => match us, hl with | [_, _], _ => rfl) (fun vs H Q E h => ?_) (fun f cdv A outer s H vs Q E hr h => ?_)
  · obtain ⟨g, n, q, xs, rfl, _⟩ := h
    rfl
  obtain ⟨g, n, q, ls, rfl, hq, h1, h2, hp, hn, k⟩ := h
  have hu := hu_of hr
  have nd := scshuffled.nd
  refine ⟨_, (pss_cons (ps_par (i := 2) (j := 3) (by rfl) nd rfl rfl (by decide) rfl rfl (pa_cons (pe_callTy (c_listK (K := K) rfl) (by rfl) T.list (by decide +kernel) (pa_cons (pv 1) pa_nil)) (pa_cons (pe_lst pa_nil) pa_nil)) (by rfl))
      (pss_cutS (ps_while PassesOwn.never (pt_cmpR (op_neDK (K := K) rfl hr.units) (pv 2) (pe_lst pa_nil) (nomark _))
      (pss_one (ps_expr (pe_appK (K := K) rfl (pv 3) (pe_popK (K := K) rfl (pv 2) (pe_cd D_draw hr pass0 (pa_cons (pv 0) (pa_cons (pe_callB (c_lenK (K := K) rfl) (by rfl) T.len PySem.boot_len (pa_cons (pv 2) pa_nil)) pa_nil))))))))
      (pss_one (ps_ret (pv 3))))), ?_⟩
  refine s_start [some _, some _, none, none] rfl ?_
  walk_at "go"
  refine v_list (SqL.of hq) fun a H1 ha s1 e1 => ?_
  walk_at "go"
  intro b H2 hb s2 e2
  walk_at "go"
  have hab : a ≠ b := ne_of_none e1 hb
  refine s_cut (fun σ H' => ∃ ys : List Nat, σ = [some (.ref g.p), some (.ref q), some (.ref a), some (.ref b)] ∧ ys.Perm ls ∧ H' b = some (.lst (ys.map fun c => V.str (tx [c]))) ∧ PenAt g H' (n + ls.length) ∧ Keep g.p H H') ?_ ?_
  · refine s_while (fun m σ H' => ∃ xs ys : List Nat, m = xs.length ∧ σ = [some (.ref g.p), some (.ref q), some (.ref a), some (.ref b)] ∧ (ys ++ xs).Perm ls ∧ H' a = some (.lst (xs.map fun c => V.str (tx [c]))) ∧ H' b = some (.lst (ys.map fun c => V.str (tx [c]))) ∧ PenAt g H' (n + ys.length) ∧ Keep g.p H H') ls.length ⟨ls, [], rfl, rfl, .refl _, s2 _ _ e1, e2, hp.same (s1.trans s2), Keep.of (s1.trans s2)⟩ ?_
    rintro m σ H3 ⟨xs, ys, rfl, rfl, pm, ea, eb, p3, k3⟩
    have hl := pm.length_eq
    rw [List.length_append] at hl
    walk_at "go"
    intro e H4 he s4 e4
    have ea4 := s4 _ _ ea
    have eb4 := s4 _ _ eb
    have ea5 : H4 a = some (.lst ((xs.map fun c => tx [c]).map V.str)) := by
      rw [ea4, List.map_map]
      rfl
    refine v_neNilS ea5 (fun x hx => ?_) e4 ?_
    · obtain ⟨c, hc, rfl⟩ := List.mem_map.mp hx
      refine ok_tx fun d hd => ?_
      rw [List.mem_singleton] at hd
      subst hd
      exact h2 _ (pm.subset (List.mem_append_right _ hc))
    walk_at "go"
    rw [List.isEmpty_map]
    cases xs with
    | nil =>
      walk_at "go"
      refine ⟨ys, rfl, by simpa using pm, eb4, (p3.same s4).mono (by omega), fun c o hc nc => s4 _ _ (k3 _ _ hc nc)⟩
    | cons x0 xr =>
      walk_at "go"
      refine v_turn ?_
      walk_at "go"
      refine ⟨g, _, n + ys.length, rfl, ?_, ?_, p3.same s4, by omega, fun z H5 z0 z1 p5 k5 => ?_⟩
      · rw [List.length_map, List.length_map, List.length_cons]; omega
      · rw [List.length_map, List.length_map]; omega
      rw [List.length_map, List.length_map] at z1
      have nag : a ≠ g.p := (hp.p_ne ha).symm
      have nbg : b ≠ g.p := ((hp.same s1).p_ne hb).symm
      have hz : z.toNat < (x0 :: xr).length := by omega
      walk_at "go"
      refine v_pop (k5 _ _ ea4 nag) z0 (by rw [List.length_map]; omega) (by rw [List.length_map]; omega) (y := V.str (tx [(x0 :: xr)[z.toNat]])) (by rw [List.getElem?_map, List.getElem?_eq_getElem hz]; rfl) fun H6 k6 e6 => ?_
      walk_at "go"
      have eb6 := k6 _ _ (k5 _ _ eb4 nbg) hab.symm
      refine v_app eb6 (by rw [List.length_map]; omega) fun H7 k7 e7 => ?_
      walk_at "go"
      refine ⟨xr.length, by simp, (x0 :: xr).eraseIdx z.toNat, ys ++ [(x0 :: xr)[z.toNat]], ?_, rfl, ?_, ?_, ?_, ?_, ?_⟩
      · rw [List.length_eraseIdx_of_lt hz]
        rfl
      · refine .trans ?_ pm
        rw [List.append_assoc]
        refine .append_left _ ?_
        exact erase_perm _ _ hz
      · rw [k7 _ _ e6 hab]
        rw [erase_map]
      · rw [e7, List.map_append]
        rfl
      · have q6 := p5.keep k6 (hp.p_ne ha) (hp.cl_ne ha)
        have q7 := q6.keep k7 ((hp.same s1).p_ne hb) ((hp.same s1).cl_ne hb)
        rw [List.length_append]
        exact q7
      · intro c o hc nc
        exact k7 _ _ (k6 _ _ (k5 _ _ (s4 _ _ (k3 _ _ hc nc)) nc) (ne_of_none hc ha)) (ne_of_none (s1 _ _ hc) hb)
  rintro σ H3 ⟨ys, rfl, pm, eb, p3, k3⟩
  walk_at "go"
  exact k b ys H3 (L2.Same.free s1 hb) pm eb p3 k3
end
end
section
open PySem PySem.Spec L2
def spFloor : Sp := fun vs H Q _ => ∃ (g : Pen) (n num : Nat), vs = [.ref g.p, .int num] ∧ 1 ≤ num ∧ num ≤ 8 ∧ PenAt g H n ∧ n < 900000 ∧
  ∀ (d : Addr) (ls : List Nat) (rel : Nat → Nat → Bool) (H' : Hp), H d = none → Flr num ls rel → H' d = some (.dK (tabKV ls (crossBy ls rel))) → PenAt g H' (n + 300) → Keep g.p H H' → Q (.ref d) H'
structure TxtH (K : PySem.W.Frag) (mg : Str → Option Value) : Prop extends Txt K mg where
  range : mg "range" = none
section
variable {P : Program} {w : World} {K : PySem.W.Frag} {mg : Str → Option Value} {base : Heap}
abbrev stfloor : Stmt := (top 59)
abbrev Nfloor : List Str := ["_law_pen_here", "_law_number", "_law_letters", "_law_sort", "_law_table", "_law_item", "_law_at", "_law_far", "_law_is_side", "_law_is_drawn", "_law_is_often", "_law_peer"]
theorem scfloor : FnScope Nfloor ["_law_pen_here", "_law_number"] (defScope stfloor) := ⟨rfl, rfl, rfl, by decide +kernel, rfl, by decide +kernel, by decide +kernel⟩

theorem ok_floor (F : FnAt K mg "_law_floor" stfloor) (T : TxtH K mg) (D_draw : Def P w K mg base CX0 1 "_law_draw" ["_law_pen_here", "_law_number"] spDraw) (D_pick : Def P w K mg base CX0 2 "_law_pick" ["_law_pen_here", "_law_items"] spPick) : Def P w K mg base CX0 3 "_law_floor" ["_law_pen_here", "_law_number"] spFloor := by
  refine F.ok scfloor (fun _ _ _ _ _ _ us hl => match us, hl with | [_, _], _ => rfl) (fun vs H Q E h => ?_) (fun f cdv A outer s H vs Q E hr h => ?_)
  · obtain ⟨g, n, num, rfl, _⟩ := h
    rfl
  obtain ⟨g, n, num, rfl, n1, n8, hp, hn, k⟩ := h
  have hu := hu_of hr
  have nd := scfloor.nd
  replace D_draw := D_draw.mono (show 1 ≤ 2 by decide)
  refine ⟨_, (pss_cons (ps_set (i := 2) nd rfl (Or.inl rfl) (pe_slice sl_S (pe_cd D_pick hr pass0 (pa_cons (pv 0) (pa_cons (pe_lst (pa_cons (pe_tx [97, 98, 99, 100, 101, 102, 103, 104] (by decide +kernel)) (pa_cons (pe_tx [98, 100, 102, 104, 106, 108, 110, 112] (by decide +kernel)) (pa_cons (pe_tx [115, 116, 117, 118, 119, 120, 121, 122] (by decide +kernel)) pa_nil)))) pa_nil))) po_none (po_some (pe_op op_add pe_int (pe_cd D_draw hr pass0 (pa_cons (pv 0) (pa_cons (pv 1) pa_nil)))))))
      (pss_cons (ps_par (i := 3) (j := 4) (by rfl) nd rfl rfl (by decide) rfl rfl (pa_cons (pe_cd D_draw hr pass0 (pa_cons (pv 0) (pa_cons pe_int pa_nil))) (pa_cons pe_dnewK pa_nil)) (by rfl))
      (pss_cons (ps_for PassesOwn.never rfl (pi_str (pv 2)) (pg_name (i := 5) nd rfl (Or.inl rfl))
      (pss_one (ps_dput hu (pv 4) (pv 5) (pe_tx [] (by decide +kernel)) rfl)))
      (pss_cons (ps_for PassesOwn.never rfl (pi_range1 (by rfl) T.range (pa_cons (pe_callB c_lenS (by rfl) T.len PySem.boot_len (pa_cons (pv 2) pa_nil)) pa_nil)) (pg_name (i := 6) nd rfl (Or.inl rfl))
      (pss_one (ps_for PassesOwn.never rfl (pi_range2 (by rfl) T.range (pa_cons (pe_op op_add (pv 6) pe_int) (pa_cons (pe_callB c_lenS (by rfl) T.len PySem.boot_len (pa_cons (pv 2) pa_nil)) pa_nil))) (pg_name (i := 7) nd rfl (Or.inl rfl))
        (pss_cons (ps_set (i := 8) nd rfl (Or.inl rfl) (pe_cut (pe_or (pe_cmpR op_eq (pe_op op_sub (pv 7) (pv 6)) pe_int (nomark _)) (pe_one (pe_cmpR op_eq (pe_op op_sub (pv 7) (pv 6)) (pe_op op_sub (pe_callB c_lenS (by rfl) T.len PySem.boot_len (pa_cons (pv 2) pa_nil)) pe_int) (nomark _))))))
          (pss_cons (ps_set (i := 9) nd rfl (Or.inl rfl) (pe_cmpR op_eq (pe_cd D_draw hr pass0 (pa_cons (pv 0) (pa_cons pe_int pa_nil))) pe_int (nomark _)))
          (pss_cons (ps_set (i := 10) nd rfl (Or.inl rfl) (pe_cut (pe_or (pv 9) (pe_one (pe_cmpR op_eq (pe_cd D_draw hr pass0 (pa_cons (pv 0) (pa_cons pe_int pa_nil))) pe_int (nomark _))))))
          (pss_one (ps_if (pt_val (pe_ix (ix_LK (K := K) rfl) (pe_lst (pa_cons pe_bl (pa_cons pe_bl (pa_cons (pv 8) (pa_cons (pv 10) (pa_cons (pv 9) (pa_cons (pv 9) pa_nil))))))) (pv 3) (fun _ _ => rfl)))
          (pss_cons (ps_par (i := 5) (j := 11) (by rfl) nd rfl rfl (by decide) rfl rfl (pa_cons (pe_ix ix_str (pv 2) (pv 6) (fun _ _ => rfl)) (pa_cons (pe_ix ix_str (pv 2) (pv 7) (fun _ _ => rfl)) pa_nil)) (by rfl))
            (pss_cons (ps_dput hu (pv 4) (pv 5) (pe_op op_addS (pe_dget hu (pv 4) (pv 5) (fun _ _ => rfl)) (pv 11)) rfl)
            (pss_one (ps_dput hu (pv 4) (pv 11) (pe_op op_addS (pe_dget hu (pv 4) (pv 11) (fun _ _ => rfl)) (pv 5)) rfl))))
          pss_nil))))))))
      (pss_one (ps_ret (pv 4))))))), ?_⟩
  refine s_start [some _, some _, none, none, none, none, none, none, none, none, none, none] rfl ?_
  walk_at "go"
  intro q H1 hq s1 e1
  walk_at "go"
  refine ⟨g, n, q, _, rfl, e1, by decide, by decide, hp.same s1, by omega, (hp.p_ne hq).symm, fun v H2 hv p2 k2 => ?_⟩
  obtain ⟨t, ht, rfl⟩ : ∃ t ∈ ABC, v = V.str (tx t) := by
    simp only [List.mem_cons, List.not_mem_nil, or_false] at hv
    rcases hv with rfl | rfl | rfl
    · exact ⟨_, by decide, rfl⟩
    · exact ⟨_, by decide, rfl⟩
    · exact ⟨_, by decide, rfl⟩
  have tl := (abc_ok t ht).2.2.1
  walk_at "go"
  refine ⟨g, num, n + 1, rfl, by omega, by omega, p2, by omega, fun z H3 z0 z1 p3 k3 => ?_⟩
  walk_at "go"
  refine v_slTo (by omega) (by omega) ?_
  have hcut : ∃ t' ∈ ABC, ∃ m, 1 ≤ m ∧ m ≤ num ∧ t.take (1 + z).toNat = t'.take m := ⟨t, ht, (1 + z).toNat, by omega, by omega, rfl⟩
  generalize t.take (1 + z).toNat = ls at hcut ⊢
  have lnd := cut_nd hcut
  have lle := cut_len hcut
  have llt := cut_lt hcut
  walk_at "go"
  refine ⟨g, 6, n + 2, rfl, by omega, by omega, p3, by omega, fun so H4 so0 so1 p4 k4 => ?_⟩
  walk_at "go"
  intro d H5 hd s5 e5
  have kA : Keep g.p H H5 := fun b o hb nb => s5 _ _ (k4 _ _ (k3 _ _ (k2 _ _ (s1 _ _ hb) nb) nb) nb)
  have hd0 : H d = none := by
    cases z : H d with
    | none => rfl
    | some o =>
      by_cases e : d = g.p
      · exact absurd e (p4.p_ne hd).symm
      · have := k4 _ _ (k3 _ _ (k2 _ _ (s1 _ _ z) e) e) e
        rw [hd] at this
        cases this
  have ndp := (p4.p_ne hd)
  have ndc := (p4.cl_ne hd)
  have p5 := p4.same s5
  walk_at "go"
  refine for_it (walk_tx ls) (fun i σ H' => ∃ x, σ = [some (.ref g.p), some (.int num), some (.str (tx ls)), some (.int so), some (.ref d), x, none, none, none, none, none, none] ∧ PenAt g H' (n + 3) ∧ Keep g.p H H' ∧ H' d = some (.dK (tabKV (ls.take i) (crossBy ls fun _ _ => false)))) ⟨_, rfl, p5, kA, e5⟩ (fun _ _ _ _ _ => trivial) ?_ ?_
  · rintro i v σ H6 H7 hi ⟨x, rfl, p6, k6, e6⟩ ⟨rfl, rfl⟩
    walk_at "go"
    refine v_put (tab_new e6 (take_notin lnd hi) (by unfold crossBy; simp) (by rw [List.length_take]; omega)) fun H8 k8 e8 => ?_
    refine ⟨_, rfl, p6.keep k8 ndp ndc, fun b o hb nb => k8 _ _ (k6 _ _ hb nb) (ne_of_none hb hd0), ?_⟩
    rw [take_getD hi]
    exact e8
  rintro σ H6 ⟨x, rfl, p6, k6, e6⟩
  rw [List.take_of_length_le (Nat.le_refl _)] at e6
  have relA : RelOk ls fun _ _ => false := ⟨fun _ _ => rfl, fun _ _ h => by cases h⟩
  walk_at "go"
  refine for_it (walk_rI (fun i => ((i : Nat) : Int)) (fun k => Int.zero_add _)) (fun i σ H' => ∃ x1 x2 x3 x4 x5 x6 x7 rel, σ = [some (.ref g.p), some (.int num), some (.str (tx ls)), some (.int so), some (.ref d), x1, x2, x3, x4, x5, x6, x7] ∧ PenAt g H' (n + 3 + 20 * i) ∧ Keep g.p H H' ∧ RelOk ls rel ∧ Upto ls rel i 0 ∧ H' d = some (.dK (tabKV ls (crossBy ls rel)))) ⟨_, _, _, _, _, _, _, _, rfl, p6, k6, relA, fun _ _ _ _ h => (by cases h), e6⟩ (fun _ _ _ _ _ => trivial) ?_ ?_
  · rintro i v σ H7 H8 hi ⟨x1, x2, x3, x4, x5, x6, x7, rel, rfl, p7, k7, r7, u7, e7⟩ ⟨rfl, rfl⟩
    have hi' : i < ls.length := by omega
    walk_at "go"
    refine for_it (walk_rI (fun j => ((i + 1 + j : Nat) : Int)) (fun k => by omega)) (fun j σ H' => ∃ x1 x3 x4 x5 x6 x7 rel, σ = [some (.ref g.p), some (.int num), some (.str (tx ls)), some (.int so), some (.ref d), x1, some (.int (i : Nat)), x3, x4, x5, x6, x7] ∧ PenAt g H' (n + 3 + 20 * i + 2 * j) ∧ Keep g.p H H' ∧ RelOk ls rel ∧ Upto ls rel i (i + 1 + j) ∧ H' d = some (.dK (tabKV ls (crossBy ls rel)))) ⟨_, _, _, _, _, _, _, rfl, p7, k7, r7, ?_, e7⟩ (fun _ _ _ _ _ => trivial) ?_ ?_
    · intro a b h1 h2 h3
      have := u7 a b h1 h2 h3
      omega
    · rintro j v σ H9 H10 hj ⟨y1, y3, y4, y5, y6, y7, rel, rfl, p9, k9, r9, u9, e9⟩ ⟨rfl, rfl⟩
      have hj' : i + 1 + j < ls.length := by omega
      walk_at "go"
      refine e_cut (fun v H' => (∃ b, v = .bl b) ∧ H' = H10) ?_ ?_
      · walk_at "go"
        refine if_bool (fun _ => ⟨⟨_, rfl⟩, rfl⟩) (fun _ => ?_)
        walk_at "go"
        exact ⟨⟨_, rfl⟩, rfl⟩
      rintro v H11 ⟨⟨b1, rfl⟩, rfl⟩
      walk_at "go"
      refine ⟨g, 2, _, rfl, by omega, by omega, p9, by omega, fun z1 H12 _ _ p12 k12 => ?_⟩
      walk_at "go"
      refine e_cut (fun v H' => (∃ b, v = .bl b) ∧ PenAt g H' (n + 3 + 20 * i + 2 * j + 2) ∧ Keep g.p H12 H') ?_ ?_
      · walk_at "go"
        refine if_bool (fun _ => ⟨⟨_, rfl⟩, p12.mono (by omega), Keep.refl _ _⟩) (fun _ => ?_)
        walk_at "go"
        refine ⟨g, 2, _, rfl, by omega, by omega, p12, by omega, fun z2 H13 _ _ p13 k13 => ?_⟩
        walk_at "go"
        exact ⟨⟨_, rfl⟩, p13, k13⟩
      rintro v H13 ⟨⟨b2, rfl⟩, p13, k13⟩
      have e13 := k13 _ _ (k12 _ _ e9 ndp.symm) ndp.symm
      have k13' : Keep g.p H H13 := fun b o hb nb => k13 _ _ (k12 _ _ (k9 _ _ hb nb) nb) nb
      walk_at "go"
      intro q2 H14 hq2 s14 e14
      walk_at "go"
      obtain ⟨bb, hbb⟩ : ∃ bb, [V.bl false, V.bl true, V.bl b1, V.bl b2, V.bl (decide (V.int z1 = V.int 0)), V.bl (decide (V.int z1 = V.int 0))][so.toNat]? = some (V.bl bb) := by
        have : so.toNat = 0 ∨ so.toNat = 1 ∨ so.toNat = 2 ∨ so.toNat = 3 ∨ so.toNat = 4 ∨ so.toNat = 5 := by omega
        rcases this with e | e | e | e | e | e <;> rw [e] <;> exact ⟨_, rfl⟩
      refine v_ixL e14 (at_of (j := so.toNat) (by omega) hbb) ?_
      walk_at "go"
      have e15 := s14 _ _ e13
      have p15 := p13.same s14
      have k15 : Keep g.p H H14 := fun b o hb nb => s14 _ _ (k13' _ _ hb nb)
      have hx : ls.getD i 0 ∈ ls := getD_mem hi'
      have hy : ls.getD (i + 1 + j) 0 ∈ ls := getD_mem hj'
      have hxy : ls.getD (i + 1 + j) 0 ≠ ls.getD i 0 := fun z => by have := getD_inj lnd hj' hi' z; omega
      cases bb with
      | false =>
        walk_at "go"
        exact ⟨_, _, _, _, _, _, rel, rfl, p15.mono (by omega), k15, r9, u9.more, e15⟩
      | true =>
        walk_at "go"
        refine v_ixS (by omega) (at_getD hi') ?_
        walk_at "go"
        refine v_ixS (by omega) (at_getD hj') ?_
        walk_at "go"
        refine v_dget (tab_get e15 hx) ?_
        have l1 : (crossBy ls rel (ls.getD i 0)).length ≤ ls.length := List.length_filter_le _ _
        have l2 : (crossBy ls rel (ls.getD (i + 1 + j) 0)).length ≤ ls.length := List.length_filter_le _ _
        have l3 : (crossBy ls rel (ls.getD i 0)).length + [ls.getD (i + 1 + j) 0].length ≤ 1000000 := by rw [List.length_singleton]; omega
        have l4 : (crossBy ls rel (ls.getD (i + 1 + j) 0)).length + [ls.getD i 0].length ≤ 1000000 := by rw [List.length_singleton]; omega
        walk_at "go"
        refine v_put (tab_put e15 hx (by omega)) fun H16 k16 e16 => ?_
        walk_at "go"
        refine v_dget (tab_get e16 hy) ?_
        rw [if_neg hxy]
        walk_at "go"
        refine v_put (tab_put e16 hy (by omega)) fun H17 k17 e17 => ?_
        refine ⟨_, _, _, _, _, _, addRel rel (ls.getD i 0) (ls.getD (i + 1 + j) 0), rfl, ((p15.keep k16 ndp ndc).keep k17 ndp ndc).mono (by omega), fun b o hb nb => k17 _ _ (k16 _ _ (k15 _ _ hb nb) (ne_of_none hb hd0)) (ne_of_none hb hd0), r9.add hx hy hxy.symm, u9.add lnd (by omega) hj', ?_⟩
        rw [e17]
        congr 2
        refine tabKV_congr fun c hc => ?_
        rw [← tabStep lnd r9 (show i < i + 1 + j by omega) hj' u9 c hc, if_neg hxy]
    · rintro σ H9 ⟨y1, y3, y4, y5, y6, y7, rel, rfl, p9, k9, r9, u9, e9⟩
      refine ⟨_, _, _, _, _, _, _, rel, rfl, p9.mono (by omega), k9, r9, u9.turn (by omega), e9⟩
  rintro σ H7 ⟨x1, x2, x3, x4, x5, x6, x7, rel, rfl, p7, k7, r7, u7, e7⟩
  walk_at "go"
  refine k d ls rel H7 hd0 ⟨hcut, r7⟩ e7 (p7.mono (by omega)) k7
end
end
section
open PySem PySem.Spec L2
structure TxtV (K : PySem.W.Frag) (mg : Str → Option Value) : Prop extends TxtH K mg where
  tuple : mg "tuple" = none
  min : mg "min" = none
  dict : mg "dict" = none
def spUnits : Sp := fun vs H Q _ => ∃ (d : Addr) (ls : List Nat) (f : Nat → List Nat), vs = [.ref d] ∧ H d = some (.dK (tabKV ls f)) ∧ Tab ls f ∧ ∀ m H', H m = none → MarksAt H' m ls (fun c x => unit x c) → Same H H' → Q (.ref m) H'
def spThrough : Sp := fun vs H Q _ => ∃ (d m : Addr) (ls : List Nat) (f : Nat → List Nat) (M : Nat → Nat → Int) (k : Nat), vs = [.ref d, .ref m, .str (tx [k])] ∧ H d = some (.dK (tabKV ls f)) ∧ Tab ls f ∧ k ∈ ls ∧ MarksAt H m ls M ∧
  ∀ m' H', H m' = none → MarksAt H' m' ls (fun c x => thr f k (fun e => M e x) c) → Same H H' → Q (.ref m') H'
section
variable {P : Program} {w : World} {K : PySem.W.Frag} {mg : Str → Option Value} {base : Heap}
abbrev stunits : Stmt := (top 63)
abbrev Nunits : List Str := ["_law_table", "_law_letters", "_law_found", "_law_item", "_law_each"]
theorem scunits : FnScope Nunits ["_law_table"] (defScope stunits) := ⟨rfl, rfl, rfl, by decide +kernel, rfl, by decide +kernel, by decide +kernel⟩

theorem ok_units (F : FnAt K mg "_law_units" stunits) (T : TxtV K mg) : Def P w K mg base CX0 1 "_law_units" ["_law_table"] spUnits := by
  refine F.ok scunits (fun _ _ _ _ _ _ us hl => match us, hl with | [_], _ => rfl) (fun vs H Q E h => ?_) (fun f cdv A outer s H vs Q E hr h => ?_)
  · obtain ⟨d, ls, f, rfl, _⟩ := h
    rfl
  obtain ⟨d, ls, fn, rfl, hd, tab, k⟩ := h
  have hu := hu_of hr
  have nd := scunits.nd
  have tl := tab.len
  refine ⟨_, (pss_cons (ps_par (i := 1) (j := 2) (by rfl) nd rfl rfl (by decide) rfl rfl (pa_cons (pe_callTy (call_list_dK rfl) (by rfl) T.list (by decide +kernel) (pa_cons (pv 0) pa_nil)) (pa_cons pe_dnewK pa_nil)) (by rfl))
      (pss_cons (ps_for PassesOwn.never rfl (pi_listK (K := K) rfl (pv 1)) (pg_name (i := 3) nd rfl (Or.inr rfl))
      (pss_one (ps_dput hu (pv 2) (pv 3) (pe_callTy (c_tupleK (K := K) rfl) (by rfl) T.tuple (by decide +kernel) (pa_cons (pe_lc (own := [("_law_each", 4)]) (g := gName 4) (by rfl) nd (pi_listK (K := K) rfl (pv 1)) (blkOk_by (own := [("_law_each", 4)]) (N := Nunits) (sc := defScope stunits) (by decide +kernel)) (fun _ _ _ _ _ => (pg_name (i := 4) nd rfl (Or.inl rfl))) (fun _ _ _ _ _ => pts_nil) (fun _ _ _ _ _ => (pe_callTy c_int (by rfl) T.int (by decide +kernel) (pa_cons (pe_cmpR op_eq (pv 3) (pv 4) (nomark _)) pa_nil)))) pa_nil)) rfl)))
      (pss_one (ps_ret (pv 2))))), ?_⟩
  refine s_start [some _, none, none, none, none] rfl ?_
  walk_at "go"
  refine v_listD hd fun l H1 hl s1 e1 => ?_
  rw [tab_keys] at e1
  walk_at "go"
  intro m H2 hm s2 e2
  have e1' := s2 _ _ e1
  walk_at "go"
  refine for_it (walk_listM (ls := ls) (f := fun c => V.str (tx [c]))) (fun i σ H' => ∃ x A, σ = [some (.ref d), some (.ref l), some (.ref m), x, none] ∧ (∀ b o, H1 b = some o → H' b = some o) ∧ H' m = some (.dK (marksKV (ls.take i) A)) ∧ ∀ c ∈ ls.take i, H' (A c) = some (.tup (vecV ls fun x => unit x c))) ⟨_, fun _ => 0, rfl, s2, e2, by simp⟩ ?_ ?_ ?_
  · rintro i σ H' _ ⟨x, A, rfl, k1, _⟩
    exact SqL.of (k1 _ _ e1)
  · rintro i v σ H3 H4 hi ⟨x, A, rfl, k3, m3, t3⟩ ⟨rfl, hv⟩
    have hx : ls.getD i 0 ∈ ls := getD_mem hi
    obtain ⟨c, hc⟩ : ∃ c, ls.getD i 0 = c := ⟨_, rfl⟩
    obtain rfl : v = V.str (tx [c]) := by rw [← hc]; exact hv
    rw [hc] at hx
    have e3 := k3 _ _ e1
    walk_at "go"
    refine vals_all (ls := ls) (it := fun c => V.str (tx [c])) (f := fun x => V.int (unit x c)) (walk_listM (ls := ls) (f := fun c => V.str (tx [c]))) (fun H' s' => SqL.of (s' _ _ e3)) (by omega) (fun y hy H5 s5 R r => ?_) (fun y hy H5 s5 R r => ?_) (fun D H5 hD s5 e5 => ?_)
    · exact r H5 (Same.refl _)
    · walk_at "go"
      have e : (if decide (V.str (tx [c]) = V.str (tx [y])) = true then (1 : Int) else 0) = unit y c := by
        rw [dec_tx]
        unfold unit
        by_cases e : c = y
        · rw [if_pos e, e]
          simp
        · rw [if_neg e]
          simp [e]
      rw [e]
      exact r H5 (Same.refl _)
    walk_at "go"
    refine v_tuple e5 fun t H6 ht s6 e6 => ?_
    have m6 := s6 _ _ (s5 _ _ m3)
    walk_at "go"
    have hn : ¬ c ∈ ls.take i := hc ▸ take_notin tab.nd hi
    refine v_put (marks_new m6 hn (by rw [List.length_take]; omega)) fun H7 k7 e7 => ?_
    refine ⟨_, _, rfl, fun b o hb => k7 _ _ (s6 _ _ (s5 _ _ (k3 _ _ hb))) (ne_of_none hb hm), by rw [take_getD hi, hc]; exact e7, ?_⟩
    intro y hy
    rw [take_getD hi, hc, List.mem_append, List.mem_singleton] at hy
    have ntm : t ≠ m := (ne_of_none (s5 _ _ m3) ht).symm
    by_cases e : y = c
    · rw [if_pos e, e]
      exact k7 _ _ e6 ntm
    · rw [if_neg e]
      have hy := hy.resolve_right e
      have := t3 y hy
      exact k7 _ _ (s6 _ _ (s5 _ _ this)) (ne_of this m3 (by intro z; cases z))
  rintro σ H3 ⟨x, A, rfl, k3, m3, t3⟩
  rw [List.take_of_length_le (Nat.le_refl _)] at m3 t3
  have hm1 : H m = none := by
    cases z : H m with
    | none => rfl
    | some o => have := s1 _ _ z; rw [hm] at this; cases this
  walk_at "go"
  exact k m H3 hm1 ⟨A, m3, t3⟩ fun b o hb => k3 _ _ (s1 _ _ hb)
end
end
section
open PySem PySem.Spec L2
section
variable {P : Program} {w : World} {K : PySem.W.Frag} {mg : Str → Option Value} {base : Heap}
abbrev stthrough : Stmt := (top 64)
abbrev Nthrough : List Str := ["_law_table", "_law_marks_here", "_law_door", "_law_own", "_law_found", "_law_each", "_law_number", "_law_at"]
theorem scthrough : FnScope Nthrough ["_law_table", "_law_marks_here", "_law_door"] (defScope stthrough) := ⟨rfl, rfl, rfl, by decide +kernel, rfl, by decide +kernel, by decide +kernel⟩

theorem ok_through (F : FnAt K mg "_law_through" stthrough) (T : TxtV K mg) : Def P w K mg base CX0 1 "_law_through" ["_law_table", "_law_marks_here", "_law_door"] spThrough := by
  refine F.ok scthrough (fun _ _ _ _ _ _ us hl => match us, hl with | [_, _, _], _ => rfl) (fun vs H Q E h => ?_) (fun f cdv A outer s H vs Q E hr h => ?_)
  · obtain ⟨d, m, ls, f, M, k, rfl, _⟩ := h
    rfl
  obtain ⟨d, m, ls, fn, M, kk, rfl, hd, tab, hk, hM, k⟩ := h
  have hu := hu_of hr
  have nd := scthrough.nd
  have tl := tab.len
  obtain ⟨A0, hm, hA⟩ := hM.ex
  refine ⟨_, (pss_cons (ps_asg (pe_tup (pa_cons (pe_dget hu (pv 1) (pv 2) (fun _ _ => rfl)) (pa_cons pe_dnewK pa_nil))) (pg_tup rfl (pgs_cons (pg_name (i := 3) nd rfl (Or.inr rfl)) (pgs_cons (pg_name (i := 4) nd rfl (Or.inl rfl)) pgs_nil))))
      (pss_cons (ps_lock (ps_for PassesOwn.never rfl (pi_keys (pv 1)) (pg_name (i := 5) nd rfl (Or.inr rfl))
      (pss_one (ps_if (pt_cmpR op_eq (pv 5) (pv 2) (nomark _))
        (pss_one (ps_dput hu (pv 4) (pv 5) (pe_callTy (c_tupleK (K := K) rfl) (by rfl) T.tuple (by decide +kernel) (pa_cons (pe_lc (own := [("_law_number", 6)]) (g := gName 6) (by rfl) nd (pi_tupK (K := K) rfl (pv 3)) (blkOk_by (own := [("_law_number", 6)]) (N := Nthrough) (sc := defScope stthrough) (by decide +kernel)) (fun _ _ _ _ _ => (pg_name (i := 6) nd rfl (Or.inl rfl))) (fun _ _ _ _ _ => pts_nil) (fun _ _ _ _ _ => (pe_un un_neg (pv 6)))) pa_nil)) rfl))
        (pss_one (ps_if (pt_cmpR op_inS (pv 5) (pe_dget hu (pv 0) (pv 2) (fun _ _ => rfl)) (by rfl))
          (pss_one (ps_dput hu (pv 4) (pv 5) (pe_dget hu (pv 1) (pv 5) (fun _ _ => rfl)) rfl))
          (pss_one (ps_dput hu (pv 4) (pv 5) (pe_callTy (c_tupleK (K := K) rfl) (by rfl) T.tuple (by decide +kernel) (pa_cons (pe_lc (own := [("_law_at", 7)]) (g := gName 7) (by rfl) nd (pi_range1 (by rfl) T.range (pa_cons (pe_callB (c_lenK (K := K) rfl) (by rfl) T.len PySem.boot_len (pa_cons (pv 3) pa_nil)) pa_nil)) (blkOk_by (own := [("_law_at", 7)]) (N := Nthrough) (sc := defScope stthrough) (by decide +kernel)) (fun _ _ _ _ _ => (pg_name (i := 7) nd rfl (Or.inl rfl))) (fun _ _ _ _ _ => pts_nil) (fun _ _ _ _ _ => (pe_op op_add (pe_ix (ix_TK (K := K) rfl) (pe_dget hu (pv 1) (pv 5) (fun _ _ => rfl)) (pv 7) (fun _ _ => rfl)) (pe_op op_mul pe_int (pe_ix (ix_TK (K := K) rfl) (pv 3) (pv 7) (fun _ _ => rfl)))))) pa_nil)) rfl))))))))
      (pss_one (ps_ret (pv 4))))), ?_⟩
  refine s_start [some _, some _, some _, none, none, none, none, none] rfl ?_
  walk_at "go"
  refine v_dget (marks_get hm hk) ?_
  walk_at "go"
  intro q H1 hq s1 e1
  walk_at "go"
  intro t H2 ht s2 e2
  refine v_gTup2 rfl e2 ?_
  have s12 := s1.trans s2
  have hm2 := s12 _ _ hm
  walk_at "go"
  refine e_lock hm2 trivial fun od => ?_
  have nqm : q ≠ m := (ne_of_none hm hq).symm
  have ndm : d ≠ m := by
    intro z
    rw [z, hm] at hd
    injection hd with hd
    injection hd with hd
    cases ls with
    | nil => cases hk
    | cons c r =>
      unfold marksKV tabKV at hd
      rw [List.map_cons, List.map_cons] at hd
      injection hd with hd _
      injection hd with _ hd
      cases hd
  have nqd : q ≠ d := (ne_of_none hd hq).symm
  have nAm : ∀ c ∈ ls, A0 c ≠ m := fun c hc => ne_of (hA c hc) hm (by intro z; cases z)
  have nAq : ∀ c ∈ ls, A0 c ≠ q := fun c hc => ne_of_none (hA c hc) hq
  walk_at "go"
  refine ⟨m, od, rfl, .inl ⟨_, upd_same, ?_⟩⟩
  refine for_it walk_let (fun i σ H' => ∃ x B, σ = [some (.ref d), some (.ref m), some (.str (tx [kk])), some (.ref (A0 kk)), some (.ref q), x, none, none] ∧ (∀ b o, H b = some o → b ≠ m → H' b = some o) ∧ H' m = some (.frz od (.dK (marksKV ls A0))) ∧ H' q = some (.dK (marksKV (ls.take i) B)) ∧ ∀ c ∈ ls.take i, H' (B c) = some (.tup (vecV ls fun x => thr fn kk (fun e => M e x) c)))
    ⟨_, fun _ => 0, rfl, fun b o hb nb => by rw [upd_ne nb]; exact s12 _ _ hb, upd_same, by rw [upd_ne nqm]; exact s2 _ _ e1, by simp⟩ ?_ ?_ ?_
  · rintro i σ H' _ ⟨x, B, rfl, _, h, _⟩
    exact h
  · rintro i v σ H3 H4 hi ⟨x, B, rfl, k3, m3, q3, t3⟩ ⟨rfl, hv⟩
    have hx : ls.getD i 0 ∈ ls := getD_mem hi
    obtain ⟨c, hc⟩ : ∃ c, ls.getD i 0 = c := ⟨_, rfl⟩
    obtain rfl : v = V.str (tx [c]) := by rw [← hc]; exact hv
    rw [hc] at hx
    have hn : ¬ c ∈ ls.take i := hc ▸ take_notin tab.nd hi
    have hown := k3 _ _ (hA kk hk) (nAm kk hk)
    have hcA := k3 _ _ (hA c hx) (nAm c hx)
    have fin : ∀ (H5 H6 : Hp) (p : Addr), Same H4 H5 → H5 p = some (.tup (vecV ls fun x => thr fn kk (fun e => M e x) c)) → Keep q H5 H6 → H6 q = some (.dK (marksKV (ls.take i ++ [c]) fun y => if y = c then p else B y)) →
        ∃ x B, [some (V.ref d), some (V.ref m), some (V.str (tx [kk])), some (V.ref (A0 kk)), some (V.ref q), some (V.str (tx [c])), none, none] = [some (.ref d), some (.ref m), some (.str (tx [kk])), some (.ref (A0 kk)), some (.ref q), x, none, none] ∧ (∀ b o, H b = some o → b ≠ m → H6 b = some o) ∧ H6 m = some (.frz od (.dK (marksKV ls A0))) ∧ H6 q = some (.dK (marksKV (ls.take (i + 1)) B)) ∧ ∀ c ∈ ls.take (i + 1), H6 (B c) = some (.tup (vecV ls fun x => thr fn kk (fun e => M e x) c)) := by
      intro H5 H6 p s5 e5 k6 e6
      have q5 := s5 _ _ q3
      refine ⟨_, _, rfl, fun b o hb nb => k6 _ _ (s5 _ _ (k3 _ _ hb nb)) (ne_of_none hb hq), k6 _ _ (s5 _ _ m3) nqm.symm, by rw [take_getD hi, hc]; exact e6, ?_⟩
      intro y hy
      rw [take_getD hi, hc, List.mem_append, List.mem_singleton] at hy
      by_cases e : y = c
      · rw [if_pos e, e]
        exact k6 _ _ e5 (ne_of e5 q5 (by intro z; cases z))
      · rw [if_neg e]
        have := t3 y (hy.resolve_right e)
        exact k6 _ _ (s5 _ _ this) (ne_of this q3 (by intro z; cases z))
    walk_at "go"
    rw [dec_tx]
    refine if_dec (fun c1 => ?_) (fun c1 => ?_)
    · have c1 : c = kk := by
        injection c1
      walk_at "go"
      refine v_iT hown ?_
      refine vals_all (ls := ls) (it := fun x => V.int (M kk x)) (f := fun x => V.int (- M kk x)) (walk_tupM (ls := ls) (f := fun x => V.int (M kk x))) (fun H' s' => SqT.of (s' _ _ hown)) (by omega) (fun y hy H5 s5 R r => ?_) (fun y hy H5 s5 R r => ?_) (fun D H5 hD s5 e5 => ?_)
      · exact r H5 (Same.refl _)
      · walk_at "go"
        exact ⟨_, rfl, r H5 (Same.refl _)⟩
      walk_at "go"
      refine v_tuple e5 fun p H6 hp s6 e6 => ?_
      have q6 := s6 _ _ (s5 _ _ q3)
      walk_at "go"
      refine v_put (marks_new q6 hn (by rw [List.length_take]; omega)) fun H7 k7 e7 => ?_
      refine fin H6 H7 p (s5.trans s6) ?_ k7 e7
      rw [e6]
      congr 2
      refine List.map_congr_left fun x _ => ?_
      show _ = V.int (thr fn kk (fun e => M e x) c)
      rw [c1, thr_self]
    · have c1 : c ≠ kk := fun z => c1 (by rw [z])
      walk_at "go"
      refine v_dget (tab_get (k3 _ _ hd ndm) hk) ?_
      walk_at "go"
      refine if_dec (fun c2 => ?_) (fun c2 => ?_)
      · walk_at "go"
        refine v_dget (marks_getF m3 hx) ?_
        walk_at "go"
        refine v_put (marks_new q3 hn (by rw [List.length_take]; omega)) fun H7 k7 e7 => ?_
        refine fin H4 H7 (A0 c) (Same.refl _) ?_ k7 e7
        rw [hcA]
        congr 2
        refine List.map_congr_left fun x _ => ?_
        show _ = V.int (thr fn kk (fun e => M e x) c)
        unfold thr
        rw [if_neg c1, if_pos c2]
      · walk_at "go"
        refine v_lenT hown ?_
        rw [vecV_len]
        walk_at "go"
        refine vals_rng (ls := ls) (f := fun x => V.int (M c x + 2 * M kk x)) (by omega) (fun j hj H5 s5 R r => ?_) (fun j hj H5 s5 R r => ?_) (fun D H5 hD s5 e5 => ?_)
        · exact r H5 (Same.refl _)
        · walk_at "go"
          refine v_dget (marks_getF (s5 _ _ m3) hx) ?_
          walk_at "go"
          refine v_ixT (s5 _ _ hcA) (at_vec hj) ?_
          walk_at "go"
          refine v_ixT (s5 _ _ hown) (at_vec hj) ?_
          walk_at "go"
          exact r H5 (Same.refl _)
        walk_at "go"
        refine v_tuple e5 fun p H6 hp s6 e6 => ?_
        have q6 := s6 _ _ (s5 _ _ q3)
        walk_at "go"
        refine v_put (marks_new q6 hn (by rw [List.length_take]; omega)) fun H7 k7 e7 => ?_
        refine fin H6 H7 p (s5.trans s6) ?_ k7 e7
        rw [e6]
        congr 2
        refine List.map_congr_left fun x _ => ?_
        show _ = V.int (thr fn kk (fun e => M e x) c)
        rw [thr_not c1 c2]
  rintro σ H3 ⟨x, B, rfl, k3, m3, q3, t3⟩
  rw [List.take_of_length_le (Nat.le_refl _)] at q3 t3
  refine ⟨m3, ?_⟩
  walk_at "go"
  refine k q _ hq ⟨B, by rw [upd_ne nqm]; exact q3, fun c hc => ?_⟩ fun b o hb => ?_
  · have := t3 c hc
    rw [upd_ne (ne_of this m3 (by intro z; cases z))]
    exact this
  · by_cases e : b = m
    · rw [e, upd_same, ← hb, e, hm]
    · rw [upd_ne e]
      exact k3 _ _ hb e
end
end
section
open PySem PySem.Spec L2
def spMarks : Sp := fun vs H Q _ => ∃ (d : Addr) (ls : List Nat) (f : Nat → List Nat) (w : List Nat), vs = [.ref d, .str (tx w)] ∧ H d = some (.dK (tabKV ls f)) ∧ Tab ls f ∧ (∀ c ∈ w, c ∈ ls) ∧ ∀ m H', MarksAt H' m ls (fun c x => act f w.reverse (unit x) c) → Same H H' → Q (.ref m) H'
def backs (ls : List Nat) (M : Nat → Nat → Int) : List Nat := ls.filter fun c => decide (∃ x ∈ ls, M c x < 0)
def spBacks : Sp := fun vs H Q _ => ∃ (m : Addr) (ls : List Nat) (M : Nat → Nat → Int), vs = [.ref m] ∧ MarksAt H m ls M ∧ ls.length ≤ 8 ∧ 
  ∀ l H', H' l = some (.lst ((backs ls M).map fun c => V.str (tx [c]))) → Same H H' → Q (.ref l) H'
def spName : Sp := fun vs H Q _ => ∃ (d : Addr) (ls : List Nat) (f : Nat → List Nat) (w : List Nat), vs = [.ref d, .str (tx w)] ∧ H d = some (.dK (tabKV ls f)) ∧ Tab ls f ∧ CrOk f ∧ ls.Pairwise (· < ·) ∧ (∀ c ∈ w, c ∈ ls) ∧ w.length ≤ 10000 ∧ ∀ H', Same H H' → Q (.str (tx (joinC f [] w))) H'
theorem joinC_mem {cr : Nat → List Nat} {c : Nat} : ∀ {way name : List Nat}, c ∈ joinC cr name way → c ∈ name ∨ c ∈ way
  | [], name, h => .inl h
  | k :: r, name, h => by
    rcases joinC_mem (way := r) (name := stepOf (cr k) name k) h with z | z
    · rcases stepOf_mem z with e | e
      · exact .inr (e ▸ List.mem_cons_self ..)
      · exact .inl e
    · exact .inr (List.mem_cons_of_mem _ z)
theorem joinC_len (cr : Nat → List Nat) : ∀ (way name : List Nat), (joinC cr name way).length ≤ name.length + way.length
  | [], name => Nat.le_refl _
  | k :: r, name => by
    show (joinC cr (stepOf (cr k) name k) r).length ≤ _
    have := joinC_len cr r (stepOf (cr k) name k)
    have := stepOf_len (cr k) name k
    rw [List.length_cons]
    omega
/-- the backs of a name's marks: empty for home, else its first letter first -/
theorem backs_nil {f : Nat → List Nat} {ls : List Nat} (ok : CrOk f) : backs ls (fun c x => act f [] (unit x) c) = [] := by
  unfold backs
  rw [List.filter_eq_nil_iff]
  intro c hc h
  have := (mark_neg (ls := ls) ok (w := []) trivial (fun _ z => nomatch z) hc).mp (of_decide_eq_true h)
  exact this
theorem backs_cons {f : Nat → List Nat} {ls : List Nat} (ok : CrOk f) (asc : ls.Pairwise (· < ·)) {c : Nat} {r : List Nat} (h : NF f (c :: r)) (hw : ∀ y ∈ c :: r, y ∈ ls) : ∃ t, backs ls (fun e x => act f (c :: r) (unit x) e) = c :: t := by
  have mem : ∀ s, s ∈ backs ls (fun e x => act f (c :: r) (unit x) e) → c ≤ s := fun s hs => by
    obtain ⟨h1, h2⟩ := List.mem_filter.mp hs
    exact h.least ((mark_neg ok h.red hw h1).mp (of_decide_eq_true h2))
  have hc : c ∈ backs ls (fun e x => act f (c :: r) (unit x) e) := List.mem_filter.mpr ⟨hw c (List.mem_cons_self ..), decide_eq_true ((mark_neg ok h.red hw (hw c (List.mem_cons_self ..))).mpr (.inl rfl))⟩
  have ap : (backs ls (fun e x => act f (c :: r) (unit x) e)).Pairwise (· < ·) := asc.filter _
  generalize backs ls (fun e x => act f (c :: r) (unit x) e) = b at *
  cases b with
  | nil => cases hc
  | cons y t =>
    refine ⟨t, ?_⟩
    have h1 := mem y (List.mem_cons_self ..)
    rcases List.mem_cons.mp hc with e | e
    · rw [e]
    · have := (List.pairwise_cons.mp ap).1 c e
      omega
section
variable {P : Program} {w : World} {K : PySem.W.Frag} {mg : Str → Option Value} {base : Heap}
abbrev stmarks : Stmt := (top 65)
abbrev Nmarks : List Str := ["_law_table", "_law_walk_here", "_law_found", "_law_item"]
theorem scmarks : FnScope Nmarks ["_law_table", "_law_walk_here"] (defScope stmarks) := ⟨rfl, rfl, rfl, by decide +kernel, rfl, by decide +kernel, by decide +kernel⟩

theorem ok_marks (F : FnAt K mg "_law_marks" stmarks) (D_units : Def P w K mg base CX0 1 "_law_units" ["_law_table"] spUnits) (D_through : Def P w K mg base CX0 1 "_law_through" ["_law_table", "_law_marks_here", "_law_door"] spThrough) : Def P w K mg base CX0 2 "_law_marks" ["_law_table", "_law_walk_here"] spMarks := by
  refine F.ok scmarks (fun _ _ _ _ _ _ us hl => match us, hl with | [_, _], _ => rfl) (fun vs H Q E h => ?_) (fun f cdv A outer s H vs Q E hr h => ?_)
  · obtain ⟨d, ls, f, w, rfl, _⟩ := h
    rfl
  obtain ⟨d, ls, fn, wk, rfl, hd, tab, hw, k⟩ := h
  have hu := hu_of hr
  have nd := scmarks.nd
  refine ⟨_, (pss_cons (ps_set (i := 2) nd rfl (Or.inl rfl) (pe_cd D_units hr pass0 (pa_cons (pv 0) pa_nil)))
      (pss_cons (ps_for PassesOwn.never rfl (pi_str (pv 1)) (pg_name (i := 3) nd rfl (Or.inl rfl))
      (pss_one (ps_set (i := 2) nd rfl (Or.inl rfl) (pe_cd D_through hr pass0 (pa_cons (pv 0) (pa_cons (pv 2) (pa_cons (pv 3) pa_nil)))))))
      (pss_one (ps_ret (pv 2))))), ?_⟩
  refine s_start [some _, some _, none, none] rfl ?_
  walk_at "go"
  refine ⟨d, ls, fn, rfl, hd, tab, fun m H1 _ m1 s1 => ?_⟩
  walk_at "go"
  refine for_it (walk_tx wk) (fun i σ H' => ∃ x m, σ = [some (.ref d), some (.str (tx wk)), some (.ref m), x] ∧ MarksAt H' m ls (fun c x => act fn (wk.take i).reverse (unit x) c) ∧ Same H H') ⟨_, m, rfl, m1, s1⟩ (fun _ _ _ _ _ => trivial) ?_ ?_
  · rintro i v σ H2 H3 hi ⟨x, m, rfl, m2, s2⟩ ⟨rfl, rfl⟩
    walk_at "go"
    refine ⟨d, m, ls, fn, _, wk.getD i 0, rfl, s2 _ _ hd, tab, hw _ (getD_mem hi), m2, fun m' H4 _ m4 s4 => ?_⟩
    refine ⟨_, m', rfl, ?_, s2.trans s4⟩
    rw [take_getD hi, List.reverse_append]
    exact m4
  rintro σ H2 ⟨x, m, rfl, m2, s2⟩
  rw [List.take_of_length_le (Nat.le_refl _)] at m2
  walk_at "go"
  exact k m H2 m2 s2
abbrev stbacks : Stmt := (top 66)
abbrev Nbacks : List Str := ["_law_marks_here", "_law_item", "_law_number"]
theorem scbacks : FnScope Nbacks ["_law_marks_here"] (defScope stbacks) := ⟨rfl, rfl, rfl, by decide +kernel, rfl, by decide +kernel, by decide +kernel⟩

theorem ok_backs (F : FnAt K mg "_law_backs" stbacks) (T : TxtV K mg) : Def P w K mg base CX0 1 "_law_backs" ["_law_marks_here"] spBacks := by
  refine F.ok scbacks (fun _ _ _ _ _ _ us hl => match us, hl with | [_], _ => rfl) (fun vs H Q E h => ?_) (fun f cdv A outer s H vs Q E hr h => ?_)
  · obtain ⟨m, ls, M, rfl, _⟩ := h
    rfl
  obtain ⟨m, ls, M, rfl, hM, hl, k⟩ := h
  have hu := hu_of hr
  have nd := scbacks.nd
  obtain ⟨A0, hm, hA⟩ := hM.ex
  refine ⟨_, (pss_one (ps_lock (ps_ret (pe_lc (own := [("_law_item", 1)]) (g := gName 1) (by rfl) nd (pi_keys (pv 0)) (blkOk_by (own := [("_law_item", 1)]) (N := Nbacks) (sc := defScope stbacks) (by decide +kernel)) (fun _ _ _ _ _ => (pg_name (i := 1) nd rfl (Or.inl rfl))) (fun _ _ _ _ _ => (pts_one (pt_cmpR op_lt (pe_callB (cr_minK (K := K) rfl rfl) (by rfl) T.min (by decide +kernel) (pa_cons (pe_lc (own := [("_law_number", 2)]) (g := gName 2) (by rfl) nd (pi_tupK (K := K) rfl (pe_dget hu (pv 0) (pv 1) (fun _ _ => rfl))) (blkOk_by (own := [("_law_number", 2)]) (N := Nbacks) (sc := lcSc [".0", "_law_item"] ["min"] ["_law_marks_here"]) (by decide +kernel)) (fun _ _ _ _ _ => (pg_name (i := 2) nd rfl (Or.inl rfl))) (fun _ _ _ _ _ => pts_nil) (fun _ _ _ _ _ => (pe_callTy c_int (by rfl) T.int (by decide +kernel) (pa_cons (pv 2) pa_nil)))) pa_nil)) pe_int (nomark _)))) (fun _ _ _ _ _ => (pv 1)))))), ?_⟩
  refine s_start [some _, none, none] rfl ?_
  refine e_lock hm trivial fun od => ?_
  have nAm : ∀ c ∈ ls, A0 c ≠ m := fun c hc => ne_of (hA c hc) hm (by intro z; cases z)
  walk_at "go"
  refine ⟨m, od, rfl, .inl ⟨_, upd_same, ?_⟩⟩
  refine vals_some (ls := ls) (it := fun c => V.str (tx [c])) (f := fun c => V.str (tx [c])) (b := fun c => decide (∃ x ∈ ls, M c x < 0)) (walk_let (g := fun c => V.ref (A0 c))) (fun H' s' => s' _ _ upd_same) (by omega) (fun c hc H1 s1 R r => ?_) (fun c hc hb H1 s1 R r => ?_) (fun D H1 hD s1 e1 => ?_)
  · have hc1 : H1 (A0 c) = some (.tup (vecV ls (M c))) := s1 _ _ (by rw [upd_ne (nAm c hc)]; exact hA c hc)
    walk_at "go"
    refine v_dget (marks_getF (s1 _ _ upd_same) hc) ?_
    walk_at "go"
    refine v_iT hc1 ?_
    refine vals_all (ls := ls) (it := fun x => V.int (M c x)) (f := fun x => V.int (M c x)) (walk_tupM (ls := ls) (f := fun x => V.int (M c x))) (fun H' s' => SqT.of (s' _ _ hc1)) (by omega) (fun y hy H5 s5 R r => ?_) (fun y hy H5 s5 R r => ?_) (fun D H5 hD s5 e5 => ?_)
    · exact r H5 (Same.refl _)
    · walk_at "go"
      exact r H5 (Same.refl _)
    walk_at "go"
    have e6 : H5 D = some (.lst ((ls.map (M c)).map V.int)) := by
      rw [e5, List.map_map]
      rfl
    refine ⟨D, _, rfl, SqL.of e6, by rw [List.length_map]; exact List.length_pos_of_mem hc, fun z hz hle => ?_⟩
    walk_at "go"
    have e7 : decide (z < 0) = decide (∃ x ∈ ls, M c x < 0) := by
      refine decide_eq_decide.mpr ⟨fun h => ?_, fun h => ?_⟩
      · obtain ⟨x, hx, e⟩ := List.mem_map.mp hz
        exact ⟨x, hx, by omega⟩
      · obtain ⟨x, hx, e⟩ := h
        have := hle (M c x) (List.mem_map.mpr ⟨x, hx, rfl⟩)
        omega
    rw [e7]
    exact r H5 s5
  · walk_at "go"
    exact r H1 (Same.refl _)
  have hmm : H1 m = some (.frz od (.dK (marksKV ls A0))) := s1 _ _ upd_same
  refine ⟨hmm, ?_⟩
  have hDm : D ≠ m := fun z => by rw [z, upd_same] at hD; cases hD
  refine k D _ (by rw [upd_ne hDm]; exact e1) fun b o hb => ?_
  by_cases e : b = m
  · rw [e, upd_same, ← hb, e, hm]
  · rw [upd_ne e]
    exact s1 _ _ (by rw [upd_ne e]; exact hb)
abbrev stname : Stmt := (top 67)
abbrev Nname : List Str := ["_law_table", "_law_walk_here", "_law_marks_here", "_law_found", "_law_backs_here"]
theorem scname : FnScope Nname ["_law_table", "_law_walk_here"] (defScope stname) := ⟨rfl, rfl, rfl, by decide +kernel, rfl, by decide +kernel, by decide +kernel⟩

theorem ok_name (F : FnAt K mg "_law_name" stname) (D_marks : Def P w K mg base CX0 2 "_law_marks" ["_law_table", "_law_walk_here"] spMarks) (D_through : Def P w K mg base CX0 1 "_law_through" ["_law_table", "_law_marks_here", "_law_door"] spThrough) (D_backs : Def P w K mg base CX0 1 "_law_backs" ["_law_marks_here"] spBacks) : Def P w K mg base CX0 3 "_law_name" ["_law_table", "_law_walk_here"] spName := by
  refine F.ok scname (fun _ _ _ _ _ _ us hl => match us, hl with | [_, _], _ => rfl) (fun vs H Q E h => ?_) (fun f cdv A outer s H vs Q E hr h => ?_)
  · obtain ⟨d, ls, f, w, rfl, _⟩ := h
    rfl
  obtain ⟨d, ls, fn, wk, rfl, hd, tab, ok, asc, hw, hwl, k⟩ := h
  have hu := hu_of hr
  have nd := scname.nd
  replace D_through := D_through.mono (show 1 ≤ 2 by decide)
  replace D_backs := D_backs.mono (show 1 ≤ 2 by decide)
  have tl := tab.len
  have nfN : NF fn (joinC fn [] wk) := NF_join ok NF_nil
  have memN : ∀ y ∈ joinC fn [] wk, y ∈ ls := fun y hy => (joinC_mem hy).elim (fun z => nomatch z) (hw y)
  have lenN := joinC_len fn wk []
  rw [List.length_nil] at lenN
  have actN : ∀ f0, act fn (joinC fn [] wk) f0 = act fn wk f0 := fun f0 => act_join ok wk [] f0
  generalize joinC fn [] wk = NN at *
  refine ⟨_, (pss_cons (ps_par (i := 2) (j := 3) (by rfl) nd rfl rfl (by decide) rfl rfl (pa_cons (pe_cd D_marks hr pass0 (pa_cons (pv 0) (pa_cons (pe_revS (pv 1)) pa_nil))) (pa_cons (pe_tx [] (by decide +kernel)) pa_nil)) (by rfl))
      (pss_cons (ps_set (i := 4) nd rfl (Or.inl rfl) (pe_cd D_backs hr pass0 (pa_cons (pv 2) pa_nil)))
      (pss_cutS (ps_while PassesOwn.never (pt_cmpR (op_neDK (K := K) rfl hr.units) (pv 4) (pe_lst pa_nil) (nomark _))
      (pss_cons (ps_set (i := 3) nd rfl (Or.inl rfl) (pe_op op_addS (pv 3) (pe_ix (ix_LK (K := K) rfl) (pv 4) pe_int (fun _ _ => rfl))))
        (pss_cons (ps_set (i := 2) nd rfl (Or.inl rfl) (pe_cd D_through hr pass0 (pa_cons (pv 0) (pa_cons (pv 2) (pa_cons (pe_ix (ix_LK (K := K) rfl) (pv 4) pe_int (fun _ _ => rfl)) pa_nil)))))
        (pss_one (ps_set (i := 4) nd rfl (Or.inl rfl) (pe_cd D_backs hr pass0 (pa_cons (pv 2) pa_nil)))))))
      (pss_one (ps_ret (pv 3)))))), ?_⟩
  refine s_start [some _, some _, none, none, none] rfl ?_
  walk_at "go"
  refine ⟨d, ls, fn, _, rfl, hd, tab, fun c hc => hw c (List.mem_reverse.mp hc), fun m H1 m1 s1 => ?_⟩
  have m1 : MarksAt H1 m ls (fun c x => act fn NN (unit x) c) := m1.congr fun c _ x _ => by rw [List.reverse_reverse, actN]
  walk_at "go"
  refine ⟨m, ls, _, rfl, m1, tl, fun l H2 e2 s2 => ?_⟩
  walk_at "go"
  refine s_cut (fun σ H' => ∃ m l, σ = [some (.ref d), some (.str (tx wk)), some (.ref m), some (.str (tx NN)), some (.ref l)] ∧ Same H H') ?_ ?_
  · refine s_while (fun n σ H' => ∃ u v m l, NN = u ++ v ∧ n = v.length ∧ σ = [some (.ref d), some (.str (tx wk)), some (.ref m), some (.str (tx u)), some (.ref l)] ∧ Same H H' ∧ MarksAt H' m ls (fun c x => act fn v (unit x) c) ∧ H' l = some (.lst ((backs ls (fun c x => act fn v (unit x) c)).map fun c => V.str (tx [c])))) NN.length ⟨[], NN, m, l, rfl, rfl, rfl, s1.trans s2, m1.same s2, e2⟩ ?_
    rintro n σ H3 ⟨u, v, m, l, e, rfl, rfl, s3, m3, e3⟩
    have nfv : NF fn v := by
      rw [e] at nfN
      clear e actN memN lenN
      induction u with
      | nil => exact nfN
      | cons y u ih => exact ih nfN.tail
    have memv : ∀ y ∈ v, y ∈ ls := fun y hy => memN y (by rw [e]; exact List.mem_append_right _ hy)
    walk_at "go"
    intro q H4 hq s4 e4
    have small : ∀ l' ∈ (backs ls (fun c x => act fn v (unit x) c)).map (fun c => [c]), ∀ c ∈ l', c < 1000 := by
      intro l' hl' c hc
      obtain ⟨y, hy, rfl⟩ := List.mem_map.mp hl'
      rw [List.mem_singleton.mp hc]
      have := LET_lt (tab.lt y (List.mem_filter.mp hy).1)
      omega
    have e3' : H4 l = some (.lst (((backs ls (fun c x => act fn v (unit x) c)).map fun c => tx [c]).map V.str)) := by
      rw [s4 _ _ e3, List.map_map]
      rfl
    refine v_neNilS e3' (fun x hx => ?_) e4 ?_
    · obtain ⟨y, hy, rfl⟩ := List.mem_map.mp hx
      exact ok_tx (small [y] (List.mem_map.mpr ⟨y, hy, rfl⟩))
    rw [List.isEmpty_map]
    walk_at "go"
    cases v with
    | nil =>
      rw [backs_nil ok]
      refine iteF ?_
      refine ⟨m, l, ?_, s3.trans s4⟩
      rw [e, List.append_nil]
    | cons c r =>
      obtain ⟨t, et⟩ := backs_cons ok asc nfv memv
      rw [et]
      rw [et] at e3
      refine iteT ?_
      have e34 := s4 _ _ e3
      have hc : c ∈ ls := memv c (List.mem_cons_self ..)
      have lu : u.length + [c].length ≤ 1000000 := by
        have := congrArg List.length e
        rw [List.length_append] at this
        rw [List.length_singleton]
        omega
      refine v_turn ?_
      walk_at "go"
      refine v_ixL e34 (atI_nat (j := 0) rfl) ?_
      walk_at "go"
      refine v_ixL e34 (atI_nat (j := 0) rfl) ?_
      walk_at "go"
      refine ⟨d, m, ls, fn, _, c, rfl, s4 _ _ (s3 _ _ hd), tab, hc, m3.same s4, fun m' H5 _ m5 s5 => ?_⟩
      have m5 : MarksAt H5 m' ls (fun c x => act fn r (unit x) c) := m5.congr fun b _ x _ => by
        show thr fn c (thr fn c (act fn r (unit x))) b = _
        rw [thr_thr ok]
      walk_at "go"
      refine ⟨m', ls, _, rfl, m5, tl, fun l' H6 e6 s6 => ?_⟩
      refine ⟨r.length, by simp, u ++ [c], r, m', l', by rw [e]; simp, rfl, rfl, ((s3.trans s4).trans s5).trans s6, m5.same s6, e6⟩
  rintro σ H3 ⟨m, l, rfl, s3⟩
  walk_at "go"
  exact k H3 s3
end
end
section
open PySem PySem.Spec L2
def spPlain : Sp := fun vs H Q _ => ∃ (d : Addr) (ls : List Nat) (f : Nat → List Nat), vs = [.ref d] ∧ H d = some (.dK (tabKV ls f)) ∧ Tab ls f ∧ ∀ p H', H p = none → Same H H' → H' p = some (.dK (tabKV ls (fun _ => []))) → Q (.ref p) H'
theorem paired_map {α β : Type} {r : α → β → Prop} {A : Nat → α} {B : Nat → β} : ∀ {ls : List Nat}, (∀ c ∈ ls, r (A c) (B c)) → Paired r (ls.map A) (ls.map B)
  | [], _ => .nil
  | c :: ls, h => .cons (h c (List.mem_cons_self ..)) (paired_map fun d hd => h d (List.mem_cons_of_mem _ hd))
theorem let_pw {ls : List Nat} {g : Nat → V} (h : ls.Nodup) : (ls.map fun c => ((Sum.inr (tx [c]) : Key), g c)).Pairwise (fun a b => a.1 ≠ b.1) := by
  rw [List.pairwise_map]
  refine List.Pairwise.imp (fun {a b} hab z => ?_) h
  have := key_tx.mp z
  injection this with e _
  exact hab e
section
variable {P : Program} {w : World} {K : PySem.W.Frag} {mg : Str → Option Value} {base : Heap}
abbrev stplain : Stmt := (top 72)
abbrev Nplain : List Str := ["_law_table", "_law_item"]
theorem scplain : FnScope Nplain ["_law_table"] (defScope stplain) := ⟨rfl, rfl, rfl, by decide +kernel, rfl, by decide +kernel, by decide +kernel⟩

theorem ok_plain (F : FnAt K mg "_law_plain" stplain) (T : TxtV K mg) : Def P w K mg base CX0 1 "_law_plain" ["_law_table"] spPlain := by
  refine F.ok scplain (fun _ _ _ _ _ _ us hl => match us, hl with | [_], _ => rfl) (fun vs H Q E h => ?_) (fun f cdv A outer s H vs Q E hr h => ?_)
  · obtain ⟨d, ls, f, rfl, _⟩ := h
    rfl
  obtain ⟨d, ls, fn, rfl, hd, tab, k⟩ := h
  have hu := hu_of hr
  have nd := scplain.nd
  have tl := tab.len
  refine ⟨_, (pss_one (ps_lock (ps_ret (pe_callTy (c_dictPK (K := K) rfl rfl) (by rfl) T.dict (by decide +kernel) (pa_cons (pe_lc (own := [("_law_item", 1)]) (g := gName 1) (by rfl) nd (pi_keys (pv 0)) (blkOk_by (own := [("_law_item", 1)]) (N := Nplain) (sc := defScope stplain) (by decide +kernel)) (fun _ _ _ _ _ => (pg_name (i := 1) nd rfl (Or.inl rfl))) (fun _ _ _ _ _ => pts_nil) (fun _ _ _ _ _ => (pe_tup (pa_cons (pv 1) (pa_cons (pe_tx [] (by decide +kernel)) pa_nil))))) pa_nil))))), ?_⟩
  refine s_start [some _, none] rfl ?_
  refine e_lock hd trivial fun od => ?_
  walk_at "go"
  refine ⟨d, od, rfl, .inl ⟨_, upd_same, ?_⟩⟩
  intro D hD
  have hDd : D ≠ d := fun z => by rw [z, upd_same] at hD; cases hD
  have hDH : H D = none := by rw [upd_ne hDd] at hD; exact hD
  refine lc_it (walk_let (g := fun c => V.str (tx (fn c)))) (fun j H' => ∃ A : Nat → Addr, H' D = some (.lst ((ls.take j).map fun c => V.ref (A c))) ∧ (∀ c ∈ ls.take j, H' (A c) = some (.tup [.str (tx [c]), .str (tx [])])) ∧ (∀ b o, H b = some o → b ≠ d → H' b = some o) ∧ H' d = some (.frz od (.dK (tabKV ls fn)))) ⟨fun _ => 0, upd_same, by simp, fun b o hb nb => by rw [upd_ne (ne_of_none hb hDH), upd_ne nb]; exact hb, by rw [upd_ne hDd.symm]; exact upd_same⟩ ?_ ?_ ?_
  · rintro j H' _ ⟨A, _, _, _, h⟩
    exact h
  · rintro j v H3 H4 hj ⟨A, e3, t3, k3, d3⟩ ⟨rfl, hv⟩
    obtain ⟨c, hc⟩ : ∃ c, ls.getD j 0 = c := ⟨_, rfl⟩
    obtain rfl : v = V.str (tx [c]) := by rw [← hc]; exact hv
    have hn : ¬ c ∈ ls.take j := hc ▸ take_notin tab.nd hj
    walk_at "go"
    refine ⟨rfl, ?_⟩
    walk_at "go"
    intro t H5 ht s5 e5
    have e5D := s5 _ _ e3
    refine ⟨_, e5D, ?_, fun y => if y = c then t else A y, ?_, ?_, ?_, ?_⟩
    · refine szlt ?_
      rw [List.length_map, List.length_take]
      omega
    · rw [upd_same, take_getD hj, hc, List.map_append]
      congr 3
      · refine List.map_congr_left fun y hy => ?_
        show V.ref (A y) = V.ref (if y = c then t else A y)
        rw [if_neg (fun z : y = c => hn (z ▸ hy))]
      · show [V.ref t] = [V.ref (if c = c then t else A c)]
        rw [if_pos rfl]
    · intro y hy
      rw [take_getD hj, hc, List.mem_append, List.mem_singleton] at hy
      show upd H5 D _ (if y = c then t else A y) = _
      by_cases e : y = c
      · rw [if_pos e, upd_ne (ne_of e5 e5D (by intro z; cases z)), e]
        exact e5
      · rw [if_neg e]
        have := s5 _ _ (t3 y (hy.resolve_right e))
        rw [upd_ne (ne_of this e5D (by intro z; cases z))]
        exact this
    · intro b o hb nb
      rw [upd_ne (ne_of_none hb hDH)]
      exact s5 _ _ (k3 _ _ hb nb)
    · rw [upd_ne hDd.symm]
      exact s5 _ _ d3
  rintro H3 ⟨A, e3, t3, k3, d3⟩
  rw [List.take_of_length_le (Nat.le_refl _)] at e3 t3
  walk_at "go"
  refine ⟨D, ls.map A, ls.map fun c => ((Sum.inr (tx [c]) : Key), V.str (tx [])), rfl, SqL.of (by rw [e3, List.map_map]; rfl), paired_map fun c hc => SqT.of (t3 c hc), fun p hp => ?_⟩
  rw [merge_new (fun _ _ => rfl) (let_pw tab.nd), List.nil_append]
  have hpd : p ≠ d := fun z => by rw [z, d3] at hp; cases hp
  refine ⟨by rw [upd_ne hpd.symm]; exact d3, ?_⟩
  refine k p _ ?_ ?_ ?_
  · cases z : H p with
    | none => rfl
    | some o =>
      have := k3 _ _ z hpd
      rw [hp] at this
      cases this
  · intro b o hb
    by_cases e : b = d
    · rw [e, upd_same, ← hb, e, hd]
    · rw [upd_ne e]
      have := k3 _ _ hb e
      rw [upd_ne (ne_of_none this hp)]
      exact this
  · rw [upd_ne hpd, upd_same]
    rfl
end
end
section
open PySem PySem.Spec L2
def spLaw (K : PySem.W.Frag) : Sp := fun vs H Q _ => ∃ (a : Addr) (ns : List Int), vs = [.ref a] ∧ SqL K H a (ns.map V.int) ∧ ns.length ≤ 63 ∧ ∀ H', Q (.bl true) H'
theorem if_nI {c A B : Prop} {inst : Decidable c} (h : c) (q : B) : if (!decide c) = true then A else B := if_ndec (fun z => absurd h z) (fun _ => q)
theorem if_I {c A B : Prop} {inst : Decidable c} (h : c) (q : A) : if decide c = true then A else B := if_dec (fun _ => q) (fun z => absurd h z)
/-! ### rooms of one plan -/
theorem RoomAt.go {R : Addr} {H H' : Hp} {r x : Addr} {name : List Nat} (s : Same H H') (h : RoomAt R H r x name) : RoomAt R H' r x name := h.same s
theorem PlanAt.go {C : Addr} {H H' : Hp} {x : Addr} {ks : List Nat} {ps : List (List Nat)} (s : Same H H') (h : PlanAt C H x ks ps) : PlanAt C H' x ks ps := h.same s
section
variable {K : PySem.W.Frag} {H : Hp} {Q : VK} {C R r r' x : Addr} {a b : List Nat} {ks : List Nat} {ps : List (List Nat)} {E : XK}
theorem v_rname {P : V → Prop} (h : RoomAt R H r x a) (c : Cls K R) (n : NoAttr K R "name") (q : P (.str (tx a))) : ∃ a' C dx fs v, V.ref r = .ref a' ∧ H a' = some (.ins C dx fs) ∧ Cls K C ∧ NoAttr K C "name" ∧ fs.lookup ("name" : Str) = some v ∧ P v := by
  obtain ⟨dx, e⟩ := h.ex
  exact v_fld e c n roomF_n q
theorem v_rnameG {P : V → Prop} (q : ∃ R x a, RoomAt R H r x a ∧ Cls K R ∧ NoAttr K R "name" ∧ P (.str (tx a))) : ∃ a' C dx fs v, V.ref r = .ref a' ∧ H a' = some (.ins C dx fs) ∧ Cls K C ∧ NoAttr K C "name" ∧ fs.lookup ("name" : Str) = some v ∧ P v := by
  obtain ⟨R, x, a, h, c, n, q⟩ := q
  exact v_rname h c n q
theorem v_rplan {P : V → Prop} (h : RoomAt R H r x a) (c : Cls K R) (n : NoAttr K R "plan") (q : P (.ref x)) : ∃ a' C dx fs v, V.ref r = .ref a' ∧ H a' = some (.ins C dx fs) ∧ Cls K C ∧ NoAttr K C "plan" ∧ fs.lookup ("plan" : Str) = some v ∧ P v := by
  obtain ⟨dx, e⟩ := h.ex
  exact v_fld e c n roomF_p q
theorem v_rplanG {P : V → Prop} (q : ∃ R x a, RoomAt R H r x a ∧ Cls K R ∧ NoAttr K R "plan" ∧ P (.ref x)) : ∃ a' C dx fs v, V.ref r = .ref a' ∧ H a' = some (.ins C dx fs) ∧ Cls K C ∧ NoAttr K C "plan" ∧ fs.lookup ("plan" : Str) = some v ∧ P v := by
  obtain ⟨R, x, a, h, c, n, q⟩ := q
  exact v_rplan h c n q
theorem rooms2 (h1 : RoomAt R H r x a) (h2 : RoomAt R H r' x b) (pl : PlanAt C H x ks ps) (ok : PsOk ps) (la : a.length ≤ 2000) (lb : b.length ≤ 2000) : Rooms2 C R H r x a r' x b true := ⟨h1, h2, ⟨ks, ks, ps, ps, pl, pl, ok, ok, (decide_eq_true ⟨rfl, rfl⟩).symm⟩, la, lb⟩
theorem v_req (h1 : RoomAt R H r x a) (h2 : RoomAt R H r' x b) (pl : PlanAt C H x ks ps) (ok : PsOk ps) (la : a.length ≤ 2000) (lb : b.length ≤ 2000) (q : Q (.bl (decide (a = b))) H) : rM2 R (spRoomEq C R) E (.ref r) (.ref r') H Q := by
  obtain ⟨dx, e1⟩ := h1.ex
  obtain ⟨dy, e2⟩ := h2.ex
  refine v_M2 e1 e2 ⟨_, _, _, _, _, _, _, rfl, rooms2 h1 h2 pl ok la lb, ?_⟩
  rw [Bool.true_and]
  exact q
theorem v_rne (h1 : RoomAt R H r x a) (h2 : RoomAt R H r' x b) (pl : PlanAt C H x ks ps) (ok : PsOk ps) (la : a.length ≤ 2000) (lb : b.length ≤ 2000) (q : Q (.bl (!decide (a = b))) H) : rM2n R (spRoomEq C R) E (.ref r) (.ref r') H Q := by
  obtain ⟨dx, e1⟩ := h1.ex
  obtain ⟨dy, e2⟩ := h2.ex
  refine v_M2n e1 e2 ⟨_, _, _, _, _, _, _, rfl, rooms2 h1 h2 pl ok la lb, ?_⟩
  rw [Bool.true_and]
  exact ⟨_, rfl, q⟩
theorem v_rlen (h : RoomAt R H r x a) (l : a.length ≤ 100000) (q : Q (.int a.length) H) : rLenM R (spRoomLen R) E [.ref r] H Q := by
  obtain ⟨dx, e⟩ := h.ex
  exact v_lenM e ⟨_, _, _, rfl, h, l, a.length, rfl, by omega, q⟩
theorem v_reqT {z : Str} (h : RoomAt R H r x a) (q : Q (.bl false) H) : rMS R (spRoomEqS R) E (.ref r) (.str z) H Q := by
  obtain ⟨dx, e⟩ := h.ex
  exact v_MS e ⟨_, _, rfl, q⟩
theorem v_rlenG (q : ∃ x a, RoomAt R H r x a ∧ a.length ≤ 100000 ∧ Q (.int a.length) H) : rLenM R (spRoomLen R) E [.ref r] H Q := by
  obtain ⟨x, a, h, l, q⟩ := q
  exact v_rlen h l q
theorem v_reqG (q : ∃ x a b ks ps, RoomAt R H r x a ∧ RoomAt R H r' x b ∧ PlanAt C H x ks ps ∧ PsOk ps ∧ a.length ≤ 2000 ∧ b.length ≤ 2000 ∧ Q (.bl (decide (a = b))) H) : rM2 R (spRoomEq C R) E (.ref r) (.ref r') H Q := by
  obtain ⟨x, a, b, ks, ps, h1, h2, h3, h4, h5, h6, q⟩ := q
  exact v_req h1 h2 h3 h4 h5 h6 q
theorem v_rneG (q : ∃ x a b ks ps, RoomAt R H r x a ∧ RoomAt R H r' x b ∧ PlanAt C H x ks ps ∧ PsOk ps ∧ a.length ≤ 2000 ∧ b.length ≤ 2000 ∧ Q (.bl (!decide (a = b))) H) : rM2n R (spRoomEq C R) E (.ref r) (.ref r') H Q := by
  obtain ⟨x, a, b, ks, ps, h1, h2, h3, h4, h5, h6, q⟩ := q
  exact v_rne h1 h2 h3 h4 h5 h6 q
theorem v_reqTG {z : Str} (q : ∃ x a, RoomAt R H r x a ∧ Q (.bl false) H) : rMS R (spRoomEqS R) E (.ref r) (.str z) H Q := by
  obtain ⟨x, a, h, q⟩ := q
  exact v_reqT h q
theorem v_peqS {x : Addr} (pl : PlanAt C H x ks ps) (ok : PsOk ps) (q : Q (.bl true) H) : rM2 C (spPlanEq C) E (.ref x) (.ref x) H Q := by
  obtain ⟨dx, t, d, e, _⟩ := pl.ex
  refine v_M2 e e ⟨_, _, _, _, _, _, rfl, pl, pl, ok, ok, ?_⟩
  rw [decide_eq_true ⟨rfl, rfl⟩]
  exact q
theorem v_peqG {x : Addr} (q : ∃ ks ps, PlanAt C H x ks ps ∧ PsOk ps ∧ Q (.bl true) H) : rM2 C (spPlanEq C) E (.ref x) (.ref x) H Q := by
  obtain ⟨ks, ps, h1, h2, q⟩ := q
  exact v_peqS h1 h2 q
end
/-! ### rooms of a drawn floor -/
section
variable {K : PySem.W.Frag} {H : Hp} {Q : VK} {C R r x : Addr} {ls : List Nat} {fn : Nat → List Nat} {a b w : List Nat} {k : Nat} {E : XK}
theorem inAsc (T : Tab ls fn) (h : ∀ c ∈ a, c ∈ ls) : ∀ c ∈ a, c ∈ ascOf ls := fun c hc => ascOf_mem.mpr ⟨T.lt c (h c hc), h c hc⟩
theorem memN (h : ∀ c ∈ a, c ∈ ls) : ∀ c ∈ joinC fn [] a, c ∈ ls := fun c hc => h c (name_mem hc)
theorem sp_room (fl : Fl ls fn) (pl : PlanAt C H x (ascOf ls) (tabPairs ls fn)) (hw : ∀ c ∈ w, c ∈ ls) (l : w.length ≤ 2000) (q : ∀ r H', H r = none → Same H H' → RoomAt R H' r x (joinC fn [] w) → Q (.ref r) H') : spRoom C R [.ref x, .str (tx w)] H Q E := by
  refine ⟨x, _, _, w, rfl, pl, inAsc fl.tab hw, l, fun r H' h s ro => q r H' h s ?_⟩
  rw [joinOf_tab fl.tab (name := []) (by simp) hw] at ro
  exact ro
theorem v_add (fl : Fl ls fn) (h : RoomAt R H r x (joinC fn [] a)) (pl : PlanAt C H x (ascOf ls) (tabPairs ls fn)) (ha : ∀ c ∈ a, c ∈ ls) (hb : ∀ c ∈ b, c ∈ ls) (la : a.length ≤ 1000) (lb : b.length ≤ 1000) (q : ∀ r' H', H r' = none → Same H H' → RoomAt R H' r' x (joinC fn [] (a ++ b)) → Q (.ref r') H') : rMS R (spRoomAdd C R) E (.ref r) (.str (tx b)) H Q := by
  obtain ⟨dr, er⟩ := h.ex
  have n1 := name_len fn a
  have j1 := joinOf_len (ascOf ls) (tabPairs ls fn) b (joinC fn [] a)
  have n1 : (joinC fn [] a).length ≤ a.length := n1
  refine v_MS er ⟨r, x, _, _, _, b, rfl, h, pl, inAsc fl.tab (memN ha), inAsc fl.tab hb, by omega, by omega, by omega, fun r' H' hr' s' ro => q r' H' hr' s' ?_⟩
  have hm : ∀ c ∈ joinC fn (joinC fn [] a) b, c ∈ ls := fun c hc => (joinC_mem' hc).elim (memN ha c) (hb c)
  rw [joinOf_tab fl.tab (memN ha) hb, joinOf_tab fl.tab (name := []) (by simp) hm, show joinC fn [] (joinC fn (joinC fn [] a) b) = joinC fn [] (a ++ b) from name_app fl.ok a b] at ro
  exact ro
end
theorem v_mdRG {R r : Addr} {H : Hp} {m : Str} {P : Prop} (q : ∃ x a, RoomAt R H r x a ∧ (¬ m = "name" ∧ ¬ m = "plan") ∧ P) : ∃ a dx fs, V.ref r = .ref a ∧ H a = some (.ins R dx fs) ∧ fs.lookup m = none ∧ P := by
  obtain ⟨x, a, h, ⟨h1, h2⟩, q⟩ := q
  obtain ⟨dx, e⟩ := h.ex
  exact ⟨r, dx, _, rfl, e, roomF_no h1 h2, q⟩
end
section
open PySem PySem.Spec L2
section
variable {P : Program} {w : World} {K : PySem.W.Frag} {mg : Str → Option Value} {base : Heap} {C : Addr}
abbrev stturned_back : Stmt := (top 14)
abbrev Nturned_back : List Str := ["plan", "name"]
theorem scturned_back : FnScope Nturned_back ["plan", "name"] (defScope stturned_back) := ⟨rfl, rfl, rfl, by decide +kernel, rfl, by decide +kernel, by decide +kernel⟩

theorem ok_turned_back (F : FnAt K mg "turned_back" stturned_back) (D_joined : Def P w K mg base CX0 2 "joined" ["plan", "name", "way"] (spJoined C)) : Def P w K mg base CX0 3 "turned_back" ["plan", "name"] (spBack C) := by
  refine F.ok scturned_back (fun _ _ _ _ _ _ us hl => match us, hl with | [_, _], _ => rfl) (fun vs H Q E h => ?_) (fun f cdv A outer s H vs Q E hr h => ?_)
  · obtain ⟨x, ks, ps, name, rfl, _⟩ := h
    rfl
  obtain ⟨x, ks, ps, name, rfl, h1, hk, hl, q⟩ := h
  have hu := hu_of hr
  have nd := scturned_back.nd
  refine ⟨_, (pss_one (ps_ret (pe_cd D_joined hr pass0 (pa_cons (pv 0) (pa_cons (pe_tx [] (by decide +kernel)) (pa_cons (pe_revS (pv 1)) pa_nil)))))), ?_⟩
  refine s_start [some _, some _] rfl ?_
  walk_at "go"

  refine ⟨x, ks, ps, [], name.reverse, rfl, h1, fun c hc => hk c (List.mem_reverse.mp hc), ?_, q⟩
  rw [List.length_reverse, List.length_nil]
  omega
abbrev stway_from : Stmt := (top 15)
abbrev Nway_from : List Str := ["plan", "name", "goal"]
theorem scway_from : FnScope Nway_from ["plan", "name", "goal"] (defScope stway_from) := ⟨rfl, rfl, rfl, by decide +kernel, rfl, by decide +kernel, by decide +kernel⟩

theorem ok_way_from (F : FnAt K mg "way_from" stway_from) (D_joined : Def P w K mg base CX0 2 "joined" ["plan", "name", "way"] (spJoined C)) (D_turned_back : Def P w K mg base CX0 3 "turned_back" ["plan", "name"] (spBack C)) : Def P w K mg base CX0 4 "way_from" ["plan", "name", "goal"] (spWayFrom C) := by
  refine F.ok scway_from (fun _ _ _ _ _ _ us hl => match us, hl with | [_, _, _], _ => rfl) (fun vs H Q E h => ?_) (fun f cdv A outer s H vs Q E hr h => ?_)
  · obtain ⟨x, ks, ps, name, goal, rfl, _⟩ := h
    rfl
  obtain ⟨x, ks, ps, name, goal, rfl, h1, hk, hg, hl, hm, q⟩ := h
  have hu := hu_of hr
  have nd := scway_from.nd
  replace D_joined := D_joined.mono (show 2 ≤ 3 by decide)
  refine ⟨_, (pss_one (ps_ret (pe_cd D_joined hr pass0 (pa_cons (pv 0) (pa_cons (pe_cd D_turned_back hr pass0 (pa_cons (pv 0) (pa_cons (pv 1) pa_nil))) (pa_cons (pv 2) pa_nil)))))), ?_⟩
  refine s_start [some _, some _, some _] rfl ?_
  walk_at "go"
  refine ⟨x, ks, ps, name, rfl, h1, hk, hl, ?_⟩
  walk_at "go"
  refine ⟨x, ks, ps, _, goal, rfl, h1, hg, ?_, q⟩
  have := backOf_len ks ps name
  omega
end
end
section
open PySem PySem.Spec L2
section
variable {P : Program} {w : World} {K : PySem.W.Frag} {mg : Str → Option Value} {base : Heap} {C R O : Addr}
abbrev stRoom_way_to : Stmt := (inClass (top 35) 5)
abbrev NRoom_way_to : List Str := ["self", "other"]
theorem scRoom_way_to : FnScope NRoom_way_to ["self", "other"] (defScope stRoom_way_to) := ⟨rfl, rfl, rfl, by decide +kernel, rfl, by decide +kernel, by decide +kernel⟩

theorem ok_Room_way_to (F : MAt K R "way_to" "Room.way_to" stRoom_way_to) (T : TxtR K mg C R O) (D_need_same : Def P w K mg base (L2.CX P w) 3 "need_same" ["plan", "other"] (spNeedSame C O)) (D_way_from : Def P w K mg base CX0 4 "way_from" ["plan", "name", "goal"] (spWayFrom C)) : MDef P w K mg base (L2.CX P w) 5 R "way_to" ["self", "other"] (spWayTo C R O) := by
  refine F.okX scRoom_way_to (fun _ _ _ _ _ _ us hl => match us, hl with | [_, _], _ => rfl) (fun vs H Q E h => ?_) (fun f cdv A outer s H vs Q E hr h => ?_)
  · obtain ⟨r, x, a, r', y, b, e, ks, ps, rfl, _⟩ := h
    rfl
  obtain ⟨r, x, a, r', y, b, e, ks, ps, rfl, h, hp, ha, hb, q1, q2⟩ := h
  have hu := hu_of hr
  have nd := scRoom_way_to.nd
  have la := h.la
  have lb := h.lb
  replace D_need_same := D_need_same.mono (show 3 ≤ 4 by decide)
  refine ⟨_, (pss_cons (ps_expr (pe_cd D_need_same hr (passes_call (takes_of rfl rfl rfl rfl) (fun _ _ _ _ h => h)) (pa_cons (pe_flK (K := K) rfl (pv 0) rfl) (pa_cons (pe_flK (K := K) rfl (pv 1) rfl) pa_nil))))
      (pss_one (ps_ret (pe_cd D_way_from hr pass0 (pa_cons (pe_flK (K := K) rfl (pv 0) rfl) (pa_cons (pe_flK (K := K) rfl (pv 0) rfl) (pa_cons (pe_flK (K := K) rfl (pv 1) rfl) pa_nil))))))), ?_⟩
  refine s_start [some _, some _] rfl ?_
  obtain ⟨dr, a1⟩ := h.one.ex
  obtain ⟨dr', b1⟩ := h.two.ex
  walk_at "go"
  refine v_fld a1 T.Room.cl T.nPl roomF_p ?_
  walk_at "go"
  refine v_fld b1 T.Room.cl T.nPl roomF_p ?_
  walk_at "go"
  refine ⟨x, y, e, rfl, h.pl, fun ht => ?_, fun hf => q2 hf⟩
  walk_at "go"
  refine v_fld a1 T.Room.cl T.nPl roomF_p ?_
  walk_at "go"
  refine v_fld a1 T.Room.cl T.nNm roomF_n ?_
  walk_at "go"
  refine v_fld b1 T.Room.cl T.nNm roomF_n ?_
  walk_at "go"
  refine ⟨x, ks, ps, a, b, rfl, hp, ha, hb ht, by omega, by omega, q1 ht⟩
end
end
section
open PySem PySem.Spec L2
def spFree (C : Addr) : Sp := fun vs H Q _ => ∃ (x : Addr) (ks : List Nat) (ps : List (List Nat)) (free : List Nat) (k : Nat), vs = [.ref x, .str (tx free), .str (tx [k])] ∧ PlanAt C H x ks ps ∧ k ∈ ks ∧ free.length ≤ 1000 ∧ ∀ H', Same H H' → Q (.str (tx (free.filter fun o => decide (o ∈ crossOf ks ps k)))) H'
/-- the kinds in front of a way -/
def firstsOf (ks : List Nat) (ps : List (List Nat)) (way : List Nat) : List Nat := ks.filter fun s => decide (s ∈ founds (crossOf ks ps) ks way)
def spFirst (C : Addr) : Sp := fun vs H Q _ => ∃ (x : Addr) (ks : List Nat) (ps : List (List Nat)) (way : List Nat), vs = [.ref x, .str (tx way)] ∧ PlanAt C H x ks ps ∧ (∀ c ∈ way, c ∈ ks) ∧ ks.length ≤ 1000 ∧ way.length ≤ 100000 ∧ ∀ H', Same H H' → Q (.str (tx (firstsOf ks ps way))) H'
def spLast (C : Addr) : Sp := fun vs H Q _ => ∃ (x : Addr) (ks : List Nat) (ps : List (List Nat)) (way : List Nat), vs = [.ref x, .str (tx way)] ∧ PlanAt C H x ks ps ∧ (∀ c ∈ way, c ∈ ks) ∧ ks.length ≤ 1000 ∧ way.length ≤ 100000 ∧ ∀ H', Same H H' → Q (.str (tx (firstsOf ks ps way.reverse))) H'
theorem filt_len {p : Nat → Bool} {l : List Nat} : (l.filter p).length ≤ l.length := List.length_filter_le p l
theorem founds_len (f : Nat → List Nat) : ∀ (w free : List Nat), (founds f free w).length ≤ w.length
  | [], _ => Nat.le_refl _
  | k :: r, free => by
    have := founds_len f r (free.filter fun o => decide (o ∈ f k))
    show ((if k ∈ free then [k] else []) ++ founds f _ r).length ≤ _
    rw [List.length_append, List.length_cons]
    split <;> simp <;> omega
section
variable {P : Program} {w : World} {K : PySem.W.Frag} {mg : Str → Option Value} {base : Heap} {C R O : Addr}
abbrev ststill_free : Stmt := (top 16)
abbrev Nstill_free : List Str := ["plan", "kinds", "kind", "other"]
theorem scstill_free : FnScope Nstill_free ["plan", "kinds", "kind"] (defScope ststill_free) := ⟨rfl, rfl, rfl, by decide +kernel, rfl, by decide +kernel, by decide +kernel⟩

theorem ok_still_free (F : FnAt K mg "still_free" ststill_free) (T : TxtP K mg C) : Def P w K mg base CX0 1 "still_free" ["plan", "kinds", "kind"] (spFree C) := by
  refine F.ok scstill_free (fun _ _ _ _ _ _ us hl => match us, hl with | [_, _, _], _ => rfl) (fun vs H Q E h => ?_) (fun f cdv A outer s H vs Q E hr h => ?_)
  · obtain ⟨x, ks, ps, free, k, rfl, _⟩ := h
    rfl
  obtain ⟨x, ks, ps, free, k, rfl, h1, hk, hl, q⟩ := h
  have hu := hu_of hr
  have nd := scstill_free.nd
  refine ⟨_, (pss_one (ps_ret (pe_joinK (K := K) rfl (pe_tx [] (by decide +kernel)) (pe_lc (own := [("other", 3)]) (g := gName 3) (by rfl) nd (pi_str (pv 1)) (blkOk_by (own := [("other", 3)]) (N := Nstill_free) (sc := defScope ststill_free) (by decide +kernel)) (fun _ _ _ _ _ => (pg_name (i := 3) nd rfl (Or.inl rfl))) (fun _ _ _ _ _ => (pts_one (pt_cmpR op_inS (pv 3) (pe_dget hu (pe_flK (K := K) rfl (pv 0) rfl) (pv 2) (fun _ _ => rfl)) (by rfl)))) (fun _ _ _ _ _ => (pv 3)))))), ?_⟩
  refine s_start [some _, some _, some _, none] rfl ?_
  obtain ⟨dx, t, d, a1, a2, a3⟩ := h1.ex
  walk_at "go"
  refine v_lcS (l := free) (b := fun c => decide (c ∈ crossOf ks ps k)) (f := fun c => V.str (tx [c])) (by omega) (fun c _ H1 s1 R r => ?_) (fun c _ _ H1 s1 R r => ?_) (fun D H1 hD s1 e1 => ?_)
  · walk_at "go"
    refine v_fld (s1 _ _ a1) T.Plan.cl T.nO planF_o ?_
    walk_at "go"
    refine v_dget (dget_let (g := fun k => V.str (tx (crossOf ks ps k))) (s1 _ _ a3) hk) ?_
    walk_at "go"
    exact r H1 (Same.refl _)
  · walk_at "go"
    exact r H1 (Same.refl _)
  walk_at "go"
  rw [strs_ones] at e1
  have hl2 := filt_len (p := fun c => decide (c ∈ crossOf ks ps k)) (l := free)
  refine v_join e1 (by rw [flat_ones]; omega) ?_
  rw [flat_ones]
  exact q H1 s1
abbrev stfirst_kinds : Stmt := (top 17)
abbrev Nfirst_kinds : List Str := ["plan", "way", "found", "free", "kind"]
theorem scfirst_kinds : FnScope Nfirst_kinds ["plan", "way"] (defScope stfirst_kinds) := ⟨rfl, rfl, rfl, by decide +kernel, rfl, by decide +kernel, by decide +kernel⟩

theorem ok_first_kinds (F : FnAt K mg "first_kinds" stfirst_kinds) (T : TxtP K mg C) (D_still_free : Def P w K mg base CX0 1 "still_free" ["plan", "kinds", "kind"] (spFree C)) : Def P w K mg base CX0 2 "first_kinds" ["plan", "way"] (spFirst C) := by
  refine F.ok scfirst_kinds (fun _ _ _ _ _ _ us hl => match us, hl with | [_, _], _ => rfl) (fun vs H Q E h => ?_) (fun f cdv A outer s H vs Q E hr h => ?_)
  · obtain ⟨x, ks, ps, way, rfl, _⟩ := h
    rfl
  obtain ⟨x, ks, ps, way, rfl, h1, hw, hk, hl, q⟩ := h
  have hu := hu_of hr
  have nd := scfirst_kinds.nd
  refine ⟨_, (pss_cons (ps_set (i := 2) nd rfl (Or.inr rfl) (pe_tx [] (by decide +kernel)))
      (pss_cons (ps_set (i := 3) nd rfl (Or.inl rfl) (pe_flK (K := K) rfl (pv 0) rfl))
      (pss_cutS (ps_for PassesOwn.never rfl (pi_str (pv 1)) (pg_name (i := 4) nd rfl (Or.inl rfl))
      (pss_cons (ps_if (pt_cmpR op_eq (pv 3) (pe_tx [] (by decide +kernel)) (nomark _))
        (pss_one ps_break)
        pss_nil)
        (pss_cutS (ps_if (pt_cmpR op_inS (pv 4) (pv 3) (by rfl))
        (pss_one (ps_set (i := 2) nd rfl (Or.inr rfl) (pe_op op_addS (pv 2) (pv 4))))
        pss_nil)
        (pss_one (ps_set (i := 3) nd rfl (Or.inl rfl) (pe_cd D_still_free hr pass0 (pa_cons (pv 0) (pa_cons (pv 3) (pa_cons (pv 4) pa_nil)))))))))
      (pss_one (ps_ret (pe_joinK (K := K) rfl (pe_tx [] (by decide +kernel)) (pe_lc (own := [("kind", 4)]) (g := gName 4) (by rfl) nd (pi_str (pe_flK (K := K) rfl (pv 0) rfl)) (blkOk_by (own := [("kind", 4)]) (N := Nfirst_kinds) (sc := defScope stfirst_kinds) (by decide +kernel)) (fun _ _ _ _ _ => (pg_name (i := 4) nd rfl (Or.inl rfl))) (fun _ _ _ _ _ => (pts_one (pt_cmpR op_inS (pv 4) (pv 2) (by rfl)))) (fun _ _ _ _ _ => (pv 4))))))))), ?_⟩
  refine s_start [some _, some _, none, none, none] rfl ?_
  obtain ⟨dx, t, d, a1, a2, a3⟩ := h1.ex
  have fl := founds_len (crossOf ks ps) way ks
  walk_at "go"
  refine v_fld a1 T.Plan.cl T.nK planF_k ?_
  walk_at "go"
  refine s_cut (fun σ H' => ∃ free z, σ = [some (.ref x), some (.str (tx way)), some (.str (tx (founds (crossOf ks ps) ks way))), some (.str (tx free)), z] ∧ Same H H') ?_ ?_
  · walk_at "go"
    refine for_it (walk_tx way) (fun i σ H' => ∃ fd free z, σ = [some (.ref x), some (.str (tx way)), some (.str (tx fd)), some (.str (tx free)), z] ∧ Same H H' ∧ free.length ≤ 1000 ∧ founds (crossOf ks ps) ks way = fd ++ founds (crossOf ks ps) free (way.drop i)) ⟨[], ks, _, rfl, Same.refl _, hk, rfl⟩ (fun _ _ _ _ _ => trivial) ?_ ?_
    · rintro i v σ H2 H3 hi ⟨fd, free, z, rfl, s2, lf, e2⟩ ⟨rfl, rfl⟩
      have dr : way.drop i = way.getD i 0 :: way.drop (i + 1) := by
        rw [List.drop_eq_getElem_cons hi, List.getD_eq_getElem?_getD, List.getElem?_eq_getElem hi]
        rfl
      have hc := hw _ (getD_mem hi)
      rw [dr] at e2
      generalize way.getD i 0 = c at *
      have l2 := congrArg List.length e2
      rw [List.length_append] at l2
      walk_at "go"
      rw [dec_tx]
      refine if_dec (fun c1 => ?_) (fun c1 => ?_)
      · refine s_brk ?_
        rw [c1, founds_nil, List.append_nil] at e2
        rw [e2]
        exact ⟨_, _, rfl, s2⟩
      walk_at "go"
      have e3 : founds (crossOf ks ps) free (c :: way.drop (i + 1)) = (if c ∈ free then [c] else []) ++ founds (crossOf ks ps) (free.filter fun o => decide (o ∈ crossOf ks ps c)) (way.drop (i + 1)) := rfl
      rw [e3, ← List.append_assoc] at e2
      have lf2 := filt_len (p := fun o => decide (o ∈ crossOf ks ps c)) (l := free)
      refine s_cut (fun σ H' => σ = [some (.ref x), some (.str (tx way)), some (.str (tx (fd ++ if c ∈ free then [c] else []))), some (.str (tx free)), some (.str (tx [c]))] ∧ H' = H3) ?_ ?_
      · walk_at "go"
        refine if_dec (fun c2 => ?_) (fun c2 => ?_)
        · have l3 : fd.length + [c].length ≤ 1000000 := by
            rw [List.length_singleton]
            omega
          walk_at "go"
          rw [if_pos c2]
          exact ⟨rfl, rfl⟩
        · walk_at "go"
          rw [if_neg c2, List.append_nil]
          exact ⟨rfl, rfl⟩
      rintro σ H4 ⟨rfl, rfl⟩
      walk_at "go"
      refine ⟨x, ks, ps, free, c, rfl, h1.same s2, hc, lf, fun H5 s5 => ?_⟩
      exact ⟨_, _, _, rfl, s2.trans s5, by omega, e2⟩
    · rintro σ H2 ⟨fd, free, z, rfl, s2, lf, e2⟩
      rw [List.drop_length] at e2
      have e2 : founds (crossOf ks ps) ks way = fd := by
        rw [e2]
        exact List.append_nil _
      rw [e2]
      exact ⟨_, _, rfl, s2⟩
  rintro σ H2 ⟨free, z, rfl, s2⟩
  walk_at "go"
  refine v_fld (s2 _ _ a1) T.Plan.cl T.nK planF_k ?_
  walk_at "go"
  refine v_lcS (l := ks) (b := fun c => decide (c ∈ founds (crossOf ks ps) ks way)) (f := fun c => V.str (tx [c])) (by omega) (fun c _ H1 s1 R r => ?_) (fun c _ _ H1 s1 R r => ?_) (fun D H3 hD s3 e3 => ?_)
  · walk_at "go"
    exact r H1 (Same.refl _)
  · walk_at "go"
    exact r H1 (Same.refl _)
  walk_at "go"
  rw [strs_ones] at e3
  have hl2 := filt_len (p := fun c => decide (c ∈ founds (crossOf ks ps) ks way)) (l := ks)
  refine v_join e3 (by rw [flat_ones]; omega) ?_
  rw [flat_ones]
  exact q H3 (s2.trans s3)
abbrev stlast_kinds : Stmt := (top 18)
abbrev Nlast_kinds : List Str := ["plan", "way"]
theorem sclast_kinds : FnScope Nlast_kinds ["plan", "way"] (defScope stlast_kinds) := ⟨rfl, rfl, rfl, by decide +kernel, rfl, by decide +kernel, by decide +kernel⟩

theorem ok_last_kinds (F : FnAt K mg "last_kinds" stlast_kinds) (D_first_kinds : Def P w K mg base CX0 2 "first_kinds" ["plan", "way"] (spFirst C)) : Def P w K mg base CX0 3 "last_kinds" ["plan", "way"] (spLast C) := by
  refine F.ok sclast_kinds (fun _ _ _ _ _ _ us hl => match us, hl with | [_, _], _ => rfl) (fun vs H Q E h => ?_) (fun f cdv A outer s H vs Q E hr h => ?_)
  · obtain ⟨x, ks, ps, way, rfl, _⟩ := h
    rfl
  obtain ⟨x, ks, ps, way, rfl, h1, hw, hk, hl, q⟩ := h
  have hu := hu_of hr
  have nd := sclast_kinds.nd
  refine ⟨_, (pss_one (ps_ret (pe_cd D_first_kinds hr pass0 (pa_cons (pv 0) (pa_cons (pe_revS (pv 1)) pa_nil))))), ?_⟩
  refine s_start [some _, some _] rfl ?_
  walk_at "go"
  exact ⟨x, ks, ps, _, rfl, h1, fun c hc => hw c (List.mem_reverse.mp hc), hk, by rw [List.length_reverse]; exact hl, q⟩
end
/-! ### of a drawn floor -/
section
variable {K : PySem.W.Frag} {H : Hp} {Q : VK} {C R O r r' x : Addr} {ls : List Nat} {fn : Nat → List Nat} {a b : List Nat} {E : XK}
theorem way_tab (fl : Fl ls fn) (ha : ∀ c ∈ a, c ∈ ls) (hb : ∀ c ∈ b, c ∈ ls) : wayOf (ascOf ls) (tabPairs ls fn) (joinC fn [] a) (joinC fn [] b) = wayC fn a b := by
  have m1 : ∀ c ∈ (joinC fn [] a).reverse, c ∈ ls := fun c hc => memN ha c (List.mem_reverse.mp hc)
  unfold wayOf backOf
  rw [joinOf_tab fl.tab (name := []) (by simp) m1, joinOf_tab fl.tab (memN m1) (memN hb), ← joinC_app]
  exact way_name fl.ok a b
theorem asc_self (fl : Fl ls fn) : ascOf ls = ls := by
  have h1 : (ascOf ls).Perm ls := by
    refine (List.perm_ext_iff_of_nodup (ascOf_nodup ls) fl.tab.nd).mpr fun c => ?_
    rw [ascOf_mem]
    exact ⟨fun z => z.2, fun z => ⟨fl.tab.lt c z, z⟩⟩
  have s1 : (ascOf ls).Pairwise (· < ·) := List.Pairwise.filter _ (by decide +kernel : LET.Pairwise (· < ·))
  exact h1.eq_of_pairwise (fun a b _ _ h1 h2 => by omega) s1 fl.asc
theorem founds_congr {f g : Nat → List Nat} : ∀ {w free : List Nat}, (∀ k ∈ w, ∀ c ∈ free, c ∈ f k ↔ c ∈ g k) → founds f free w = founds g free w
  | [], free, _ => rfl
  | k :: r, free, h => by
    have e : (free.filter fun o => decide (o ∈ f k)) = free.filter fun o => decide (o ∈ g k) := List.filter_congr fun c hc => decide_eq_decide.mpr (h k (List.mem_cons_self ..) c hc)
    show (if k ∈ free then [k] else []) ++ founds f _ r = (if k ∈ free then [k] else []) ++ founds g _ r
    rw [e, founds_congr fun y hy c hc => h y (List.mem_cons_of_mem _ hy) c (List.mem_filter.mp hc).1]
/-- nearer, by the marks -/
theorem firsts_tab (fl : Fl ls fn) (ha : ∀ c ∈ a, c ∈ ls) : firstsOf (ascOf ls) (tabPairs ls fn) (joinC fn [] a).reverse = ls.filter fun c => decide (desc fn c (joinC fn [] a).reverse) := by
  unfold firstsOf
  rw [asc_self fl]
  refine List.filter_congr fun c hc => decide_eq_decide.mpr ?_
  rw [founds_congr (g := fn) fun k hk c hc => ?_, founds_mem fl.ok]
  · exact ⟨fun z => z.2, fun z => ⟨hc, z⟩⟩
  · have := cross_tab fl.tab (memN ha k (List.mem_reverse.mp hk)) hc
    rw [asc_self fl] at this
    exact this
end
end
section
open PySem PySem.Spec L2
def spSplit (C : Addr) : Sp := fun vs H Q _ => ∃ (x : Addr) (ks : List Nat) (ps : List (List Nat)) (way kinds : List Nat), vs = [.ref x, .str (tx way), .str (tx kinds)] ∧ PlanAt C H x ks ps ∧ (∀ c ∈ way, c ∈ ks) ∧ kinds.length ≤ 1000 ∧ way.length ≤ 100000 ∧
  ∀ p H', H p = none → Same H H' → H' p = some (.tup [.str (tx (splitA (crossOf ks ps) kinds way).1), .str (tx (splitA (crossOf ks ps) kinds way).2)]) → Q (.ref p) H'
def spNoEnd (C : Addr) : Sp := fun vs H Q _ => ∃ (x : Addr) (ks : List Nat) (ps : List (List Nat)) (way kinds : List Nat), vs = [.ref x, .str (tx way), .str (tx kinds)] ∧ PlanAt C H x ks ps ∧ (∀ c ∈ way, c ∈ ks) ∧ kinds.length ≤ 1000 ∧ way.length ≤ 100000 ∧
  ∀ H', Same H H' → Q (.str (tx (splitA (crossOf ks ps) kinds way.reverse).2.reverse)) H'
def nearOf (ks : List Nat) (ps : List (List Nat)) (name : List Nat) (k : Nat) : List Nat := if k ∈ firstsOf ks ps name.reverse then stepOf (crossOf ks ps k) name k else name
def startOf (ks : List Nat) (ps : List (List Nat)) (name : List Nat) (k : Nat) : List Nat := (splitA (crossOf ks ps) (crossOf ks ps k) (nearOf ks ps name k).reverse).2.reverse
def spStart (C : Addr) : Sp := fun vs H Q _ => ∃ (x : Addr) (ks : List Nat) (ps : List (List Nat)) (name : List Nat) (k : Nat), vs = [.ref x, .str (tx name), .str (tx [k])] ∧ PlanAt C H x ks ps ∧ (∀ c ∈ name, c ∈ ks) ∧ k ∈ ks ∧ ks.length ≤ 1000 ∧ name.length ≤ 50000 ∧
  ∀ H', Same H H' → Q (.str (tx (startOf ks ps name k))) H'
theorem nearOf_len (ks : List Nat) (ps : List (List Nat)) (name : List Nat) (k : Nat) : (nearOf ks ps name k).length ≤ name.length + 1 := by
  unfold nearOf
  split
  · exact stepOf_len _ _ _
  · omega
theorem nearOf_mem {ks : List Nat} {ps : List (List Nat)} {name : List Nat} {k c : Nat} (h : c ∈ nearOf ks ps name k) : c = k ∨ c ∈ name := by
  unfold nearOf at h
  split at h
  · exact stepOf_mem h
  · exact .inr h
theorem startOf_mem {ks : List Nat} {ps : List (List Nat)} {name : List Nat} {k c : Nat} (h : c ∈ startOf ks ps name k) : c = k ∨ c ∈ name := nearOf_mem (List.mem_reverse.mp (splitA_mem2 _ _ _ c (List.mem_reverse.mp h)))
theorem startOf_len (ks : List Nat) (ps : List (List Nat)) (name : List Nat) (k : Nat) : (startOf ks ps name k).length ≤ name.length + 1 := by
  unfold startOf
  have h1 := splitA_len (crossOf ks ps) (nearOf ks ps name k).reverse (crossOf ks ps k)
  have h2 := nearOf_len ks ps name k
  rw [List.length_reverse] at *
  omega
theorem splitA_yes {f : Nat → List Nat} {k : Nat} {free r : List Nat} (h : k ∈ free) : splitA f free (k :: r) = (k :: (splitA f free r).1, (splitA f free r).2) := by
  conv => lhs; unfold splitA
  exact if_pos h
theorem splitA_no {f : Nat → List Nat} {k : Nat} {free r : List Nat} (h : ¬ k ∈ free) : splitA f free (k :: r) = ((splitA f (free.filter fun o => decide (o ∈ f k)) r).1, k :: (splitA f (free.filter fun o => decide (o ∈ f k)) r).2) := by
  conv => lhs; unfold splitA
  exact if_neg h
/-! ### walls -/
def wallF (x : Addr) (k : Nat) (r : Addr) : List (Str × V) := putF "room" (.ref r) (putF "kind" (.str (tx [k])) (putF "plan" (.ref x) []))
theorem nwpk : ¬ (("plan" : Str) = "kind") := by decide +kernel
theorem nwpr : ¬ (("plan" : Str) = "room") := by decide +kernel
theorem nwkr : ¬ (("kind" : Str) = "room") := by decide +kernel
theorem wallF_p {x r : Addr} {k : Nat} : (wallF x k r).lookup ("plan" : Str) = some (.ref x) := by
  unfold wallF
  rw [lookup_putF, if_neg nwpr, lookup_putF, if_neg nwpk, lookup_putF, if_pos rfl]
theorem wallF_k {x r : Addr} {k : Nat} : (wallF x k r).lookup ("kind" : Str) = some (.str (tx [k])) := by
  unfold wallF
  rw [lookup_putF, if_neg nwkr, lookup_putF, if_pos rfl]
theorem wallF_r {x r : Addr} {k : Nat} : (wallF x k r).lookup ("room" : Str) = some (.ref r) := by
  unfold wallF
  rw [lookup_putF, if_pos rfl]
theorem wallF_no {x r : Addr} {k : Nat} {m : Str} (h1 : ¬ m = "plan") (h2 : ¬ m = "kind") (h3 : ¬ m = "room") : (wallF x k r).lookup m = none := by
  unfold wallF
  rw [lookup_putF, if_neg h3, lookup_putF, if_neg h2, lookup_putF, if_neg h1]
  rfl
/-- a wall stands at a; its room, which has the name m, at r -/
structure WallAt (W R : Addr) (H : Hp) (a r x : Addr) (k : Nat) (m : List Nat) : Prop where
  ex : ∃ dx, H a = some (.ins W dx (wallF x k r))
  ro : RoomAt R H r x m
theorem WallAt.same {W R : Addr} {H H' : Hp} {a r x : Addr} {k : Nat} {m : List Nat} (h : WallAt W R H a r x k m) (s : Same H H') : WallAt W R H' a r x k m := by
  obtain ⟨⟨dx, e⟩, ro⟩ := h
  exact ⟨⟨dx, s _ _ e⟩, ro.same s⟩
structure TxtW (K : PySem.W.Frag) (mg : Str → Option Value) (C R O W : Addr) : Prop extends TxtR K mg C R O where
  Wall : ClsF K mg "Wall" W
  nWp : NoAttr K W "plan"
  nWk : NoAttr K W "kind"
  nWr : NoAttr K W "room"
def spWall0 (C R W : Addr) : Sp := fun vs H Q _ => ∃ (a dx r x : Addr) (ks : List Nat) (ps : List (List Nat)) (name : List Nat) (k : Nat), vs = [.ref a, .ref r, .str (tx [k])] ∧ H a = some (.ins W dx []) ∧ RoomAt R H r x name ∧ PlanAt C H x ks ps ∧ (∀ c ∈ name, c ∈ ks) ∧ k ∈ ks ∧ ks.length ≤ 1000 ∧ name.length < 2000 ∧
  ∀ r' H', Keep a H H' → WallAt W R H' a r' x k (joinOf ks ps [] (startOf ks ps name k)) → Q .non H'
def spWall (C R W : Addr) : Sp := fun vs H Q _ => ∃ (r x : Addr) (ks : List Nat) (ps : List (List Nat)) (name : List Nat) (k : Nat), vs = [.ref r, .str (tx [k])] ∧ RoomAt R H r x name ∧ PlanAt C H x ks ps ∧ (∀ c ∈ name, c ∈ ks) ∧ k ∈ ks ∧ ks.length ≤ 1000 ∧ name.length < 2000 ∧
  ∀ a r' H', H a = none → Same H H' → WallAt W R H' a r' x k (joinOf ks ps [] (startOf ks ps name k)) → Q (.ref a) H'
theorem conv_wall (C R W : Addr) : Conv W (spWall0 C R W) (spWall C R W) := by
  rintro vs H Q E ⟨r, x, ks, ps, name, k, rfl, hr, hp, h1, h2, h3, h4, q⟩ a dx hx hdx hne
  have s0 : Same H (upd (upd H dx (.own a)) a (.ins W dx [])) := fun b o hb => by
    rw [upd_ne (ne_of_none hb hx), upd_ne (ne_of_none hb hdx)]
    exact hb
  refine ⟨a, dx, r, x, ks, ps, name, k, rfl, upd_same, hr.same s0, hp.same s0, h1, h2, h3, h4, fun r' H' s' z => ⟨rfl, q a r' H' hx (fun b o hb => ?_) z⟩⟩
  exact s' b o (s0 _ _ hb) (ne_of_none hb hx)
section
variable {P : Program} {w : World} {K : PySem.W.Frag} {mg : Str → Option Value} {base : Heap} {C R O W : Addr}
abbrev stsplit_ahead : Stmt := (top 20)
abbrev Nsplit_ahead : List Str := ["plan", "way", "kinds", "begun", "rest", "free", "at", "kind"]
theorem scsplit_ahead : FnScope Nsplit_ahead ["plan", "way", "kinds"] (defScope stsplit_ahead) := ⟨rfl, rfl, rfl, by decide +kernel, rfl, by decide +kernel, by decide +kernel⟩

theorem ok_split_ahead (F : FnAt K mg "split_ahead" stsplit_ahead) (T : TxtR K mg C R O) (D_still_free : Def P w K mg base CX0 1 "still_free" ["plan", "kinds", "kind"] (spFree C)) : Def P w K mg base CX0 2 "split_ahead" ["plan", "way", "kinds"] (spSplit C) := by
  refine F.ok scsplit_ahead (fun _ _ _ _ _ _ us hl => match us, hl with | [_, _, _], _ => rfl) (fun vs H Q E h => ?_) (fun f cdv A outer s H vs Q E hr h => ?_)
  · obtain ⟨x, ks, ps, way, kinds, rfl, _⟩ := h
    rfl
  obtain ⟨x, ks, ps, way, kinds, rfl, h1, hw, hk, hl, q⟩ := h
  have hu := hu_of hr
  have nd := scsplit_ahead.nd
  refine ⟨_, (pss_cons (ps_set (i := 3) nd rfl (Or.inl rfl) (pe_tx [] (by decide +kernel)))
      (pss_cons (ps_set (i := 4) nd rfl (Or.inl rfl) (pe_tx [] (by decide +kernel)))
      (pss_cons (ps_set (i := 5) nd rfl (Or.inl rfl) (pv 2))
      (pss_cons (ps_for PassesOwn.never rfl (pi_enumS (by rfl) T.enumerate (pa_cons (pv 1) pa_nil)) (pg_tup rfl (pgs_cons (pg_name (i := 6) nd rfl (Or.inl rfl)) (pgs_cons (pg_name (i := 7) nd rfl (Or.inl rfl)) pgs_nil)))
      (pss_cons (ps_if (pt_cmpR op_eq (pv 5) (pe_tx [] (by decide +kernel)) (nomark _))
        (pss_one (ps_ret (pe_tup (pa_cons (pv 3) (pa_cons (pe_op op_addS (pv 4) (pe_slice sl_S (pv 1) (po_some (pv 6)) po_none)) pa_nil)))))
        pss_nil)
        (pss_one (ps_if (pt_cmpR op_inS (pv 7) (pv 5) (by rfl))
        (pss_one (ps_set (i := 3) nd rfl (Or.inl rfl) (pe_op op_addS (pv 3) (pv 7))))
        (pss_cons (ps_set (i := 4) nd rfl (Or.inl rfl) (pe_op op_addS (pv 4) (pv 7)))
          (pss_one (ps_set (i := 5) nd rfl (Or.inl rfl) (pe_cd D_still_free hr pass0 (pa_cons (pv 0) (pa_cons (pv 5) (pa_cons (pv 7) pa_nil)))))))))))
      (pss_one (ps_ret (pe_tup (pa_cons (pv 3) (pa_cons (pv 4) pa_nil))))))))), ?_⟩
  refine s_start [some _, some _, some _, none, none, none, none, none] rfl ?_
  have sl := splitA_len (crossOf ks ps) way kinds
  walk_at "go"
  refine for_it (walk_enumS way) (fun i σ H' => ∃ bg rs free y z, σ = [some (.ref x), some (.str (tx way)), some (.str (tx kinds)), some (.str (tx bg)), some (.str (tx rs)), some (.str (tx free)), y, z] ∧ Same H H' ∧ free.length ≤ 1000 ∧ splitA (crossOf ks ps) kinds way = (bg ++ (splitA (crossOf ks ps) free (way.drop i)).1, rs ++ (splitA (crossOf ks ps) free (way.drop i)).2)) ⟨[], [], kinds, _, _, rfl, Same.refl _, hk, rfl⟩ (fun _ _ _ _ _ => trivial) ?_ ?_
  · rintro i v σ H2 H3 hi ⟨bg, rs, free, y, z, rfl, s2, lf, e2⟩ ⟨t, c, rfl, ht, rfl, hc⟩
    have s3 : Same H (upd H2 t (.tup [.int (i : Nat), .str (tx [c])])) := s2.trans (Same.new ht)
    refine v_gTup2 rfl upd_same ?_
    generalize upd H2 t (.tup [.int (i : Nat), .str (tx [c])]) = H4 at s3 ⊢
    have l1 : bg.length + rs.length ≤ 100000 := by
      have a1 := congrArg (fun p => p.1.length) e2
      have a2 := congrArg (fun p => p.2.length) e2
      simp only [List.length_append] at a1 a2
      omega
    have hd : way.drop i = c :: way.drop (i + 1) := by
      rw [List.drop_eq_getElem_cons hi]
      congr 1
      rw [List.getElem?_eq_getElem hi] at hc
      injection hc
    walk_at "go"
    rw [dec_tx]
    refine if_dec (fun c1 => ?_) (fun c1 => ?_)
    · subst c1
      rw [splitA_nil, List.append_nil] at e2
      walk_at "go"
      refine v_slFrom (by omega) (by omega) ?_
      have e3 : way.drop ((i : Nat) : Int).toNat = way.drop i := rfl
      rw [e3]
      have l2 : rs.length + (way.drop i).length ≤ 1000000 := by rw [List.length_drop]; omega
      walk_at "go"
      intro p H5 hp s5 e5
      refine q p H5 ?_ (s3.trans s5) ?_
      · exact L2.Same.free s3 hp
      · rw [e2]
        exact e5
    walk_at "go"
    refine if_dec (fun c2 => ?_) (fun c2 => ?_)
    · have l3 : bg.length + [c].length ≤ 1000000 := by rw [List.length_singleton]; omega
      walk_at "go"
      refine ⟨bg ++ [c], rs, free, _, _, rfl, s3, lf, ?_⟩
      rw [e2, hd, splitA_yes c2, List.append_assoc]
      rfl
    · have l3 : rs.length + [c].length ≤ 1000000 := by rw [List.length_singleton]; omega
      walk_at "go"
      have hc2 : c ∈ ks := hw c (List.mem_of_getElem? hc)
      refine ⟨x, ks, ps, free, c, rfl, h1.same s3, hc2, lf, fun H5 s5 => ?_⟩
      have lf2 := filt_len (p := fun o => decide (o ∈ crossOf ks ps c)) (l := free)
      refine ⟨bg, rs ++ [c], _, _, _, rfl, s3.trans s5, by omega, ?_⟩
      rw [e2, hd, splitA_no c2, List.append_assoc]
      rfl
  · rintro σ H2 ⟨bg, rs, free, y, z, rfl, s2, lf, e2⟩
    rw [List.drop_length] at e2
    have e2 : splitA (crossOf ks ps) kinds way = (bg, rs) := by
      rw [e2]
      show (bg ++ [], rs ++ []) = _
      rw [List.append_nil, List.append_nil]
    walk_at "go"
    intro p H5 hp s5 e5
    refine q p H5 ?_ (s2.trans s5) ?_
    · exact L2.Same.free s2 hp
    · rw [e2]
      exact e5
abbrev stwithout_end : Stmt := (top 21)
abbrev Nwithout_end : List Str := ["plan", "way", "kinds", "begun", "rest"]
theorem scwithout_end : FnScope Nwithout_end ["plan", "way", "kinds"] (defScope stwithout_end) := ⟨rfl, rfl, rfl, by decide +kernel, rfl, by decide +kernel, by decide +kernel⟩

theorem ok_without_end (F : FnAt K mg "without_end" stwithout_end) (D_split_ahead : Def P w K mg base CX0 2 "split_ahead" ["plan", "way", "kinds"] (spSplit C)) : Def P w K mg base CX0 3 "without_end" ["plan", "way", "kinds"] (spNoEnd C) := by
  refine F.ok scwithout_end (fun _ _ _ _ _ _ us hl => match us, hl with | [_, _, _], _ => rfl) (fun vs H Q E h => ?_) (fun f cdv A outer s H vs Q E hr h => ?_)
  · obtain ⟨x, ks, ps, way, kinds, rfl, _⟩ := h
    rfl
  obtain ⟨x, ks, ps, way, kinds, rfl, h1, hw, hk, hl, q⟩ := h
  have hu := hu_of hr
  have nd := scwithout_end.nd
  refine ⟨_, (pss_cons (ps_asg (pe_cd D_split_ahead hr pass0 (pa_cons (pv 0) (pa_cons (pe_revS (pv 1)) (pa_cons (pv 2) pa_nil)))) (pg_tup rfl (pgs_cons (pg_name (i := 3) nd rfl (Or.inl rfl)) (pgs_cons (pg_name (i := 4) nd rfl (Or.inl rfl)) pgs_nil))))
      (pss_one (ps_ret (pe_revS (pv 4))))), ?_⟩
  refine s_start [some _, some _, some _, none, none] rfl ?_
  have sl := splitA_len (crossOf ks ps) way.reverse kinds
  rw [List.length_reverse] at sl
  walk_at "go"
  refine ⟨x, ks, ps, way.reverse, kinds, rfl, h1, fun c hc => hw c (List.mem_reverse.mp hc), hk, by rw [List.length_reverse]; exact hl, fun p H2 hp s2 e2 => ?_⟩
  refine v_gTup2 rfl e2 ?_
  have l3 : (splitA (crossOf ks ps) kinds way.reverse).2.length ≤ 1000000 := by omega
  walk_at "go"
  exact q H2 s2
abbrev stwall_start : Stmt := (top 37)
abbrev Nwall_start : List Str := ["plan", "name", "kind"]
theorem scwall_start : FnScope Nwall_start ["plan", "name", "kind"] (defScope stwall_start) := ⟨rfl, rfl, rfl, by decide +kernel, rfl, by decide +kernel, by decide +kernel⟩

theorem ok_wall_start (F : FnAt K mg "wall_start" stwall_start) (T : TxtR K mg C R O) (D_last_kinds : Def P w K mg base CX0 3 "last_kinds" ["plan", "way"] (spLast C)) (D_stepped : Def P w K mg base CX0 1 "stepped" ["plan", "name", "kind"] (spStepped C)) (D_without_end : Def P w K mg base CX0 3 "without_end" ["plan", "way", "kinds"] (spNoEnd C)) : Def P w K mg base CX0 4 "wall_start" ["plan", "name", "kind"] (spStart C) := by
  refine F.ok scwall_start (fun _ _ _ _ _ _ us hl => match us, hl with | [_, _, _], _ => rfl) (fun vs H Q E h => ?_) (fun f cdv A outer s H vs Q E hr h => ?_)
  · obtain ⟨x, ks, ps, name, k, rfl, _⟩ := h
    rfl
  obtain ⟨x, ks, ps, name, k, rfl, h1, hw, hk, hks, hl, q⟩ := h
  have hu := hu_of hr
  have nd := scwall_start.nd
  replace D_stepped := D_stepped.mono (show 1 ≤ 3 by decide)
  refine ⟨_, (pss_cutS (ps_if (pt_cmpR op_inS (pv 2) (pe_cd D_last_kinds hr pass0 (pa_cons (pv 0) (pa_cons (pv 1) pa_nil))) (by rfl))
      (pss_one (ps_set (i := 1) nd rfl (Or.inl rfl) (pe_cd D_stepped hr pass0 (pa_cons (pv 0) (pa_cons (pv 1) (pa_cons (pv 2) pa_nil))))))
      pss_nil)
      (pss_one (ps_ret (pe_cd D_without_end hr pass0 (pa_cons (pv 0) (pa_cons (pv 1) (pa_cons (pe_dget hu (pe_flK (K := K) rfl (pv 0) rfl) (pv 2) (fun _ _ => rfl)) pa_nil))))))), ?_⟩
  refine s_start [some _, some _, some _] rfl ?_
  refine s_cut (fun σ H' => σ = [some (.ref x), some (.str (tx (nearOf ks ps name k))), some (.str (tx [k]))] ∧ Same H H') ?_ ?_
  · walk_at "go"
    refine ⟨x, ks, ps, name, rfl, h1, hw, hks, by omega, fun H2 s2 => ?_⟩
    walk_at "go"
    unfold nearOf
    refine if_dec (fun c1 => ?_) (fun c1 => ?_)
    · walk_at "go"
      refine ⟨x, ks, ps, name, k, rfl, h1.same s2, hk, by omega, ?_⟩
      rw [if_pos c1]
      exact ⟨rfl, s2⟩
    · walk_at "go"
      rw [if_neg c1]
      exact ⟨rfl, s2⟩
  rintro σ H2 ⟨rfl, s2⟩
  have h2 := h1.same s2
  obtain ⟨dx, t, d, a1, a2, a3⟩ := h2.ex
  have nl := nearOf_len ks ps name k
  walk_at "go"
  refine v_fld a1 T.Plan.cl T.nO planF_o ?_
  walk_at "go"
  refine v_dget (dget_let (g := fun k => V.str (tx (crossOf ks ps k))) a3 hk) ?_
  walk_at "go"
  have cl : (crossOf ks ps k).length ≤ 1000 := Nat.le_trans (List.length_filter_le _ _) hks
  exact ⟨x, ks, ps, _, _, rfl, h2, fun c hc => (nearOf_mem hc).elim (fun z => z ▸ hk) (hw c), cl, by omega, fun H3 s3 => q H3 (s2.trans s3)⟩
abbrev stWall_init : Stmt := (inClass (top 38) 0)
abbrev NWall_init : List Str := ["self", "room", "kind"]
theorem scWall_init : FnScope NWall_init ["self", "room", "kind"] (defScope stWall_init) := ⟨rfl, rfl, rfl, by decide +kernel, rfl, by decide +kernel, by decide +kernel⟩

theorem ok_Wall (F : MAt K W "__init__" "Wall.__init__" stWall_init) (T : TxtW K mg C R O W) (D_need_kind : Def P w K mg base CX0 2 "need_kind" ["plan", "value"] (spNeedKind C)) (D_wall_start : Def P w K mg base CX0 4 "wall_start" ["plan", "name", "kind"] (spStart C)) (C_Room : CDef P w K mg base CX0 3 "Room" R (spRoom C R)) :
    CMk0 P w K mg base CX0 5 "Wall" W (spWall C R W) ["self", "room", "kind"] "Wall.__init__" stWall_init := by
  refine F.make0 (sp0 := spWall0 C R W) T.Wall scWall_init (fun _ _ _ _ _ _ us hl => match us, hl with | [_, _, _], _ => rfl) (fun vs H Q E h => ?_) (conv_wall C R W) (fun f cdv A outer s H vs Q E hr h => ?_)
  · obtain ⟨a, dx, r, x, ks, ps, name, k, rfl, _⟩ := h
    rfl
  obtain ⟨a, dx, r, x, ks, ps, name, k, rfl, hx, hr', hp, h1, h2, h3, h4, q⟩ := h
  have hu := hu_of hr
  have nd := scWall_init.nd
  replace D_need_kind := D_need_kind.mono (show 2 ≤ 4 by decide)
  refine ⟨_, (pss_cons (ps_flK (K := K) rfl (pv 0) (pe_flK (K := K) rfl (pv 1) rfl) rfl)
      (pss_cons (ps_flK (K := K) rfl (pv 0) (pe_cd D_need_kind hr pass0 (pa_cons (pe_flK (K := K) rfl (pv 1) rfl) (pa_cons (pv 2) pa_nil))) rfl)
      (pss_one (ps_flK (K := K) rfl (pv 0) (pe_mk C_Room hr pass0 (pa_cons (pe_flK (K := K) rfl (pv 1) rfl) (pa_cons (pe_cd D_wall_start hr pass0 (pa_cons (pe_flK (K := K) rfl (pv 1) rfl) (pa_cons (pe_flK (K := K) rfl (pv 1) rfl) (pa_cons (pv 2) pa_nil)))) pa_nil))) rfl)))), ?_⟩
  refine s_start [some _, some _, some _] rfl ?_
  obtain ⟨dr, er⟩ := hr'.ex
  have nra : r ≠ a := ne_of er hx (by intro z; injection z with _ _ z; cases z)
  walk_at "go"
  refine v_fld er T.Room.cl T.nPl roomF_p ?_
  walk_at "go"
  refine v_sfld hx T.Wall.cl T.nWp (by decide) fun H1 s1 e1 => ?_
  walk_at "go"
  have er1 := s1 _ _ er nra
  have pk : ∀ {H H' : Hp} {fs : List (Str × V)}, Keep a H H' → PlanAt C H x ks ps → H a = some (.ins W dx fs) → x ≠ a → PlanAt C H' x ks ps := by
    intro H H' fs s1 hp hx nx
    obtain ⟨dx', t', d, a1, a2, a3⟩ := hp.ex
    exact ⟨dx', t', d, s1 _ _ a1 nx, s1 _ _ a2 (ne_of a2 hx (by intro z; cases z)), s1 _ _ a3 (ne_of a3 hx (by intro z; cases z))⟩
  have nxa : x ≠ a := by
    obtain ⟨dx', t', d, a1, a2, a3⟩ := hp.ex
    exact ne_of a1 hx (by intro z; injection z with _ _ z; cases z)
  have hp1 := pk s1 hp hx nxa
  refine v_fld er1 T.Room.cl T.nPl roomF_p ?_
  walk_at "go"
  refine ⟨x, ks, ps, k, rfl, hp1, h2, ?_⟩
  walk_at "go"
  refine v_sfld e1 T.Wall.cl T.nWk (by show 1 < 1000; decide) fun H2 s2 e2 => ?_
  walk_at "go"
  have er2 := s2 _ _ er1 nra
  have hp2 := pk s2 hp1 e1 nxa
  refine v_fld er2 T.Room.cl T.nPl roomF_p ?_
  walk_at "go"
  refine v_fld er2 T.Room.cl T.nPl roomF_p ?_
  walk_at "go"
  refine v_fld er2 T.Room.cl T.nNm roomF_n ?_
  walk_at "go"
  refine ⟨x, ks, ps, name, k, rfl, hp2, h1, h2, h3, by omega, fun H3 s3 => ?_⟩
  walk_at "go"
  have sl := startOf_len ks ps name k
  refine ⟨x, ks, ps, _, rfl, hp2.same s3, fun c hc => (startOf_mem hc).elim (fun z => z ▸ h2) (h1 c), by omega, fun r' H4 hr4 s4 ro4 => ?_⟩
  have e4 := s4 _ _ (s3 _ _ e2)
  walk_at "go"
  refine v_sfld e4 T.Wall.cl T.nWr (by show 2 < 1000; decide) fun H5 s5 e5 => ?_
  obtain ⟨dr4, er4⟩ := ro4.ex
  have nr4 : r' ≠ a := (ne_of_none (s3 _ _ e2) hr4).symm
  refine q r' H5 (fun b o hb nb => s5 _ _ (s4 _ _ (s3 _ _ (s2 _ _ (s1 _ _ hb nb) nb))) nb) ⟨⟨dx, e5⟩, ⟨dr4, s5 _ _ er4 nr4⟩⟩
end
/-! ### of a drawn floor -/
section
variable {K : PySem.W.Frag} {H : Hp} {Q : VK} {C R W r x : Addr} {ls : List Nat} {fn : Nat → List Nat} {a : List Nat} {k : Nat} {E : XK}
theorem start_tab (fl : Fl ls fn) (ha : ∀ c ∈ a, c ∈ ls) (hk : k ∈ ls) : startOf (ascOf ls) (tabPairs ls fn) (joinC fn [] a) k = startC fn (joinC fn [] a) k := by
  have e1 : nearOf (ascOf ls) (tabPairs ls fn) (joinC fn [] a) k = nearC fn (joinC fn [] a) k := by
    unfold nearOf nearC
    rw [firsts_tab fl ha, stepOf_tab fl.tab hk (memN ha)]
    have e2 : k ∈ (ls.filter fun c => decide (desc fn c (joinC fn [] a).reverse)) ↔ desc fn k (joinC fn [] a).reverse := by
      rw [List.mem_filter, decide_eq_true_iff]
      exact ⟨fun z => z.2, fun z => ⟨hk, z⟩⟩
    by_cases c : desc fn k (joinC fn [] a).reverse
    · rw [if_pos c, if_pos (e2.mpr c)]
    · rw [if_neg c, if_neg fun z => c (e2.mp z)]
  unfold startOf startC
  rw [e1]
  have mm : ∀ c ∈ (nearC fn (joinC fn [] a) k).reverse, c ∈ ls := fun c hc => (near_mem (List.mem_reverse.mp hc)).elim (fun z => z ▸ hk) (memN ha c)
  rw [splitA_congr (g := fn) (free' := fn k) (fun c hc => cross_tab fl.tab hk (mm c hc)) fun j hj c hc => cross_tab fl.tab (mm j hj) (mm c hc)]
theorem sp_wall (fl : Fl ls fn) (h : RoomAt R H r x (joinC fn [] a)) (pl : PlanAt C H x (ascOf ls) (tabPairs ls fn)) (ha : ∀ c ∈ a, c ∈ ls) (hk : k ∈ ls) (la : a.length < 2000) (q : ∀ b r' H', H b = none → Same H H' → WallAt W R H' b r' x k (startC fn (joinC fn [] a) k) → Q (.ref b) H') : spWall C R W [.ref r, .str (tx [k])] H Q E := by
  have n1 : (joinC fn [] a).length ≤ a.length := name_len fn a
  have tl := fl.tab.len
  refine ⟨r, x, _, _, _, k, rfl, h, pl, inAsc fl.tab (memN ha), inAsc (a := [k]) fl.tab (by simpa using hk) k (by simp), by rw [asc_self fl]; omega, by omega, fun b r' H' hb s' wa => q b r' H' hb s' ?_⟩
  rw [start_tab fl ha hk, joinOf_tab fl.tab (name := []) (by simp) fun c hc => (start_mem hc).elim (fun z => z ▸ hk) (memN ha c), show joinC fn [] (startC fn (joinC fn [] a) k) = startC fn (joinC fn [] a) k from (is_NF fl.ok).mpr (start_NF fl.ok (name_NF fl.ok a) k)] at wa
  exact wa
end
end
section
open PySem PySem.Spec L2
def spMade (C : Addr) : Sp := fun vs H Q _ => ∃ (g : Pen) (n : Nat) (d : Addr) (ls : List Nat) (f : Nat → List Nat), vs = [.ref g.p, .ref d] ∧ PenAt g H n ∧ n < 900000 ∧ d ≠ g.p ∧ H d = some (.dK (tabKV ls f)) ∧ Tab ls f ∧
  ∀ x H', H x = none → Keep g.p H H' → PenAt g H' (n + 100) → PlanAt C H' x (ascOf ls) (tabPairs ls f) → PlanOff C H' x d → Q (.ref x) H'
theorem Keep.free {p x : Addr} {H H' : Hp} (k : Keep p H H') (h : H' x = none) (n : x ≠ p) : H x = none := by
  cases z : H x with
  | none => rfl
  | some o =>
    have := k _ _ z n
    rw [h] at this
    cases this
section
variable {P : Program} {w : World} {K : PySem.W.Frag} {mg : Str → Option Value} {base : Heap} {C R O : Addr}
abbrev stmade : Stmt := (top 60)
abbrev Nmade : List Str := ["_law_pen_here", "_law_table", "_law_pairs", "_law_item", "_law_peer"]
theorem scmade : FnScope Nmade ["_law_pen_here", "_law_table"] (defScope stmade) := ⟨rfl, rfl, rfl, by decide +kernel, rfl, by decide +kernel, by decide +kernel⟩

theorem ok_made (F : FnAt K mg "_law_made" stmade) (T : TxtR K mg C R O) (D_draw : Def P w K mg base CX0 1 "_law_draw" ["_law_pen_here", "_law_number"] spDraw) (D_shuffled : Def P w K mg base CX0 2 "_law_shuffled" ["_law_pen_here", "_law_items"] spShuffled) (C_Plan : CDef P w K mg base CX0 3 "Plan" C (spPlan K C)) : Def P w K mg base CX0 5 "_law_made" ["_law_pen_here", "_law_table"] (spMade C) := by
  refine F.ok scmade (fun _ _ _ _ _ _ us hl => match us, hl with | [_, _], _ => rfl) (fun vs H Q E h => ?_) (fun f cdv A outer s H vs Q E hr h => ?_)
  · obtain ⟨g, n, d, ls, f, rfl, _⟩ := h
    rfl
  obtain ⟨g, n, d, ls, fn, rfl, hp, hn, hdp, hd, tab, k⟩ := h
  have hu := hu_of hr
  have nd := scmade.nd
  replace D_draw := D_draw.mono (show 1 ≤ 4 by decide)
  replace D_shuffled := D_shuffled.mono (show 2 ≤ 4 by decide)
  have tl := tab.len
  refine ⟨_, (pss_cons (ps_set (i := 2) nd rfl (Or.inl rfl) (pe_lst pa_nil))
      (pss_cons (ps_lock (ps_for PassesOwn.never rfl (pi_keys (pv 1)) (pg_name (i := 3) nd rfl (Or.inl rfl))
      (pss_one (ps_for PassesOwn.never rfl (pi_str (pe_dget hu (pv 1) (pv 3) (fun _ _ => rfl))) (pg_name (i := 4) nd rfl (Or.inl rfl))
        (pss_one (ps_if (PW.pt (pw_or (pt_cmpR op_ltS (pv 3) (pv 4) (nomark _)) (pw_or1 (pt_cmpR op_gt (pe_cd D_draw hr pass0 (pa_cons (pv 0) (pa_cons pe_int pa_nil))) pe_int (nomark _)))))
          (pss_one (ps_expr (pe_appK (K := K) rfl (pv 2) (pe_op op_addS (pv 3) (pv 4)))))
          pss_nil))))))
      (pss_one (ps_ret (pe_mk C_Plan hr pass0 (pa_cons (pe_joinK (K := K) rfl (pe_tx [] (by decide +kernel)) (pe_cd D_shuffled hr pass0 (pa_cons (pv 0) (pa_cons (pe_callTy (call_list_dK rfl) (by rfl) T.list (by decide +kernel) (pa_cons (pv 1) pa_nil)) pa_nil)))) (pa_cons (pv 2) pa_nil))))))), ?_⟩
  refine s_start [some _, some _, none, none, none] rfl ?_
  walk_at "go"
  intro q H1 hq s1 e1
  walk_at "go"
  have hd1 := s1 _ _ hd
  have ndc : g.cl ≠ d := by
    obtain ⟨a, r, h1, h2, _⟩ := hp.ex
    exact ne_of h2 hd (by intro z; cases z)
  have nqd : q ≠ d := (ne_of_none hd hq).symm
  have nqp := hp.p_ne hq
  have nqc := hp.cl_ne hq
  refine e_lock hd1 trivial fun od => ?_
  have fz : ∀ b o, b ≠ d → H1 b = some o → upd H1 d (.frz od (.dK (tabKV ls fn))) b = some o := fun b o nb hb => by
    rw [upd_ne nb]
    exact hb
  walk_at "go"
  refine ⟨d, od, rfl, .inl ⟨_, upd_same, ?_⟩⟩
  have p1 : PenAt g (upd H1 d (.frz od (.dK (tabKV ls fn)))) n := by
    obtain ⟨a, r, h1, h2, h3⟩ := (hp.same s1).ex
    exact ⟨a, r, fz _ _ hdp.symm h1, fz _ _ ndc h2, h3⟩
  refine for_it walk_keys (fun i σ H' => ∃ x1 x2 ps, σ = [some (.ref g.p), some (.ref d), some (.ref q), x1, x2] ∧ PenAt g H' (n + 8 * i) ∧ (∀ b o, H b = some o → b ≠ g.p → b ≠ d → H' b = some o) ∧ H' d = some (.frz od (.dK (tabKV ls fn))) ∧ H' q = some (.lst (strsV ps)) ∧ ps.length ≤ 8 * i ∧
    (∀ p ∈ ps, ∃ a b, p = [a, b] ∧ a ∈ ls ∧ b ∈ fn a) ∧ ∀ a ∈ ls.take i, ∀ b ∈ fn a, a < b → [a, b] ∈ ps) ⟨_, _, [], rfl, p1, fun b o hb n1 n2 => fz _ _ n2 (s1 _ _ hb), upd_same, fz _ _ nqd e1, by simp, by simp, by simp⟩ (fun i σ H' _ z => ?_) ?_ ?_
  · obtain ⟨x1, x2, ps, _, _, _, h, _⟩ := z
    exact h
  · rintro i v σ H2 H3 hi ⟨x1, x2, ps, rfl, p2, k2, d2, q2, l2, h2, g2⟩ ⟨rfl, kk, vv, hkv, rfl⟩
    have hi' : i < ls.length := by
      unfold tabKV at hi
      rw [List.length_map] at hi
      exact hi
    obtain ⟨rfl, rfl⟩ : kk = Sum.inr (tx [ls.getD i 0]) ∧ vv = V.str (tx (fn (ls.getD i 0))) := by
      unfold tabKV at hkv
      rw [List.getElem?_map, List.getElem?_eq_getElem hi'] at hkv
      have e : ls.getD i 0 = ls[i] := by rw [List.getD_eq_getElem?_getD, List.getElem?_eq_getElem hi']; rfl
      rw [e]
      injection hkv with hkv
      injection hkv with a b
      exact ⟨a.symm, b.symm⟩
    have hx : ls.getD i 0 ∈ ls := getD_mem hi'
    have hgl := tab.gl _ hx
    show tFor _ _ _ _ _ _
    walk_at "go"
    refine v_dget (tab_getF d2 hx) ?_
    walk_at "go"
    refine for_it (walk_tx (fn (ls.getD i 0))) (fun j σ H' => ∃ x2 ps, σ = [some (.ref g.p), some (.ref d), some (.ref q), some (.str (tx [ls.getD i 0])), x2] ∧ PenAt g H' (n + 8 * i + j) ∧ (∀ b o, H b = some o → b ≠ g.p → b ≠ d → H' b = some o) ∧ H' d = some (.frz od (.dK (tabKV ls fn))) ∧ H' q = some (.lst (strsV ps)) ∧ ps.length ≤ 8 * i + j ∧
      (∀ p ∈ ps, ∃ a b, p = [a, b] ∧ a ∈ ls ∧ b ∈ fn a) ∧ (∀ a ∈ ls.take i, ∀ b ∈ fn a, a < b → [a, b] ∈ ps) ∧ ∀ b ∈ (fn (ls.getD i 0)).take j, ls.getD i 0 < b → [ls.getD i 0, b] ∈ ps) ⟨_, ps, rfl, p2, k2, d2, q2, l2, h2, g2, by simp⟩ (fun _ _ _ _ _ => trivial) ?_ ?_
    · rintro j v σ H4 H5 hj ⟨x2, ps, rfl, p4, k4, d4, q4, l4, h4, g4, t4⟩ ⟨rfl, rfl⟩
      have hy : (fn (ls.getD i 0)).getD j 0 ∈ fn (ls.getD i 0) := getD_mem hj
      generalize hyy : (fn (ls.getD i 0)).getD j 0 = y at hy ⊢
      generalize hxx : ls.getD i 0 = x at *
      have l3 : [x].length + [y].length ≤ 1000000 := by simp
      have app : ∀ (H6 H7 : Hp), PenAt g H6 (n + 8 * i + j + 1) → Keep g.p H5 H6 → Keep q H6 H7 → H7 q = some (.lst (strsV ps ++ [V.str (tx ([x] ++ [y]))])) → ∃ x2 ps, [some (V.ref g.p), some (V.ref d), some (V.ref q), some (V.str (tx [x])), some (V.str (tx [y]))] = [some (.ref g.p), some (.ref d), some (.ref q), some (.str (tx [x])), x2] ∧ PenAt g H7 (n + 8 * i + (j + 1)) ∧ (∀ b o, H b = some o → b ≠ g.p → b ≠ d → H7 b = some o) ∧ H7 d = some (.frz od (.dK (tabKV ls fn))) ∧ H7 q = some (.lst (strsV ps)) ∧ ps.length ≤ 8 * i + (j + 1) ∧
          (∀ p ∈ ps, ∃ a b, p = [a, b] ∧ a ∈ ls ∧ b ∈ fn a) ∧ (∀ a ∈ ls.take i, ∀ b ∈ fn a, a < b → [a, b] ∈ ps) ∧ ∀ b ∈ (fn x).take (j + 1), x < b → [x, b] ∈ ps := by
        intro H6 H7 p6 k6 k7 e7
        refine ⟨_, ps ++ [[x, y]], rfl, p6.keep k7 nqp nqc, fun b o hb n1 n2 => k7 _ _ (k6 _ _ (k4 _ _ hb n1 n2) n1) (ne_of_none hb hq), k7 _ _ (k6 _ _ d4 hdp) nqd.symm, ?_, ?_, ?_, ?_, ?_⟩
        · rw [e7]
          unfold strsV
          rw [List.map_append]
          rfl
        · rw [List.length_append, List.length_singleton]
          omega
        · intro p hp
          rcases List.mem_append.mp hp with z | z
          · exact h4 p z
          · exact ⟨x, y, List.mem_singleton.mp z, hx, hy⟩
        · intro a ha b hb hab
          exact List.mem_append_left _ (g4 a ha b hb hab)
        · intro b hb hab
          rw [take_getD hj, List.mem_append, List.mem_singleton] at hb
          rcases hb with z | z
          · exact List.mem_append_left _ (t4 b z hab)
          · rw [z, hyy]
            exact List.mem_append_right _ (List.mem_singleton.mpr rfl)
      walk_at "go"
      rw [lt_one]
      refine if_dec (fun c => ?_) (fun c => ?_)
      · walk_at "go"
        refine v_app q4 (by rw [List.length_map]; omega) fun H6 k6 e6 => ?_
        exact app H5 H6 (p4.mono (by omega)) (Keep.refl _ _) k6 e6
      · walk_at "go"
        refine ⟨g, 3, _, rfl, by omega, by omega, p4, by omega, fun z H6 _ _ p6 k6 => ?_⟩
        walk_at "go"
        refine if_dec (fun c2 => ?_) (fun c2 => ?_)
        · have q6 := k6 _ _ q4 nqp.symm
          walk_at "go"
          refine v_app q6 (by rw [List.length_map]; omega) fun H7 k7 e7 => ?_
          exact app H6 H7 p6 k6 k7 e7
        · walk_at "go"
          refine ⟨_, ps, rfl, p6, fun b o hb n1 n2 => k6 _ _ (k4 _ _ hb n1 n2) n1, k6 _ _ d4 hdp, k6 _ _ q4 nqp.symm, by omega, h4, g4, ?_⟩
          intro b hb hab
          rw [take_getD hj, List.mem_append, List.mem_singleton] at hb
          rcases hb with z | z
          · exact t4 b z hab
          · rw [z, hyy] at hab
            exact absurd hab c
    · rintro σ H4 ⟨x2, ps, rfl, p4, k4, d4, q4, l4, h4, g4, t4⟩
      rw [List.take_of_length_le (Nat.le_refl _)] at t4
      refine ⟨_, _, ps, rfl, p4.mono (by omega), k4, d4, q4, by omega, h4, ?_⟩
      intro a ha b hb hab
      rw [take_getD hi', List.mem_append, List.mem_singleton] at ha
      rcases ha with z | z
      · exact g4 a z b hb hab
      · subst z
        exact t4 b hb hab
  rintro σ H2 ⟨x1, x2, ps, rfl, p2, k2, d2, q2, l2, h2, g2⟩
  have tk : (tabKV ls fn).length = ls.length := by unfold tabKV; rw [List.length_map]
  rw [tk] at p2 l2 g2
  rw [List.take_of_length_le (Nat.le_refl _)] at g2
  refine ⟨d2, ?_⟩
  have p3 : PenAt g (upd H2 d (.dK (tabKV ls fn))) (n + 64) := by
    obtain ⟨a, r, h1, h3, h4, h5, h6, h7⟩ := p2.ex
    exact ⟨a, r, by rw [upd_ne hdp.symm]; exact h1, by rw [upd_ne ndc]; exact h3, h4, h5, by omega, h7⟩
  have k3 : Keep g.p H (upd H2 d (.dK (tabKV ls fn))) := fun b o hb nb => by
    by_cases e : b = d
    · subst e
      rw [upd_same, ← hb, hd]
    · rw [upd_ne e]
      exact k2 _ _ hb nb e
  have d3 : upd H2 d (.dK (tabKV ls fn)) d = some (.dK (tabKV ls fn)) := upd_same
  have q3 : upd H2 d (.dK (tabKV ls fn)) q = some (.lst (strsV ps)) := by rw [upd_ne nqd]; exact q2
  generalize upd H2 d (.dK (tabKV ls fn)) = H3 at p3 k3 d3 q3 ⊢
  walk_at "go"
  refine v_listD d3 fun l H4 hl s4 e4 => ?_
  rw [tab_keys] at e4
  walk_at "go"
  refine ⟨g, n + 64, l, ls, rfl, e4, by omega, fun c hc => by have := LET_lt (tab.lt c hc); omega, p3.same s4, by omega, fun y ys H5 hy pm e5 p5 k5 => ?_⟩
  walk_at "go"
  rw [strs_ones] at e5
  have ylen := pm.length_eq
  refine v_join e5 (by rw [flat_ones]; omega) ?_
  rw [flat_ones]
  walk_at "go"
  have nqp' := nqp.symm
  refine ⟨ys, q, ps, rfl, ⟨.inl (k5 _ _ (s4 _ _ q3) nqp'), by omega, ?_, fun c hc => tab.lt c (pm.subset hc), pm.nodup_iff.mpr tab.nd, by omega⟩, fun x H6 hx s6 pl off => ?_⟩
  · intro p hp
    obtain ⟨a, b, rfl, ha, hb⟩ := h2 p hp
    obtain ⟨b1, b2, b3⟩ := tab.sub a ha b hb
    exact ⟨a, b, rfl, b2.symm, pm.mem_iff.mpr ha, pm.mem_iff.mpr b1⟩
  have kA : Keep g.p H H6 := fun b o hb nb => s6 _ _ (k5 _ _ (s4 _ _ (k3 _ _ hb nb)) nb)
  rw [show kindsOf ys = ascOf ls from ascOf_congr fun c => pm.mem_iff, show prsOf ps = tabPairs ls fn from tabPairs_eq tab h2 g2] at pl
  have kB : Keep g.p H H5 := fun b o hb nb => k5 _ _ (s4 _ _ (k3 _ _ hb nb)) nb
  refine k x H6 (kB.free hx (p5.p_ne hx).symm) kA ((p5.same s6).mono (by omega)) pl (off d _ (k5 _ _ (s4 _ _ d3) hdp))
end
end
section
open PySem PySem.Spec L2
def spWalk : Sp := fun vs H Q _ => ∃ (g : Pen) (n : Nat) (d : Addr) (ls : List Nat) (f : Nat → List Nat) (num : Nat), vs = [.ref g.p, .ref d, .int num] ∧ PenAt g H n ∧ n < 900000 ∧ d ≠ g.p ∧ H d = some (.dK (tabKV ls f)) ∧ Tab ls f ∧ 0 < ls.length ∧ num ≤ 100000 ∧
  ∀ (l : List Nat) H', (∀ c ∈ l, c ∈ ls) → l.length ≤ num → PenAt g H' (n + 100) → Keep g.p H H' → Q (.str (tx l)) H'
theorem mem_rep {a : List Nat} {n : Nat} {c : Nat} (h : c ∈ (List.replicate n a).flatten) : c ∈ a := by
  rw [List.mem_flatten] at h
  obtain ⟨l, hl, hc⟩ := h
  rw [List.mem_replicate] at hl
  exact hl.2 ▸ hc
theorem len_rep (a : List Nat) (n : Nat) : (List.replicate n a).flatten.length = n * a.length := by
  rw [List.length_flatten, List.map_replicate, List.sum_replicate_nat]
section
variable {P : Program} {w : World} {K : PySem.W.Frag} {mg : Str → Option Value} {base : Heap}
abbrev stwalk : Stmt := (top 61)
abbrev Nwalk : List Str := ["_law_pen_here", "_law_table", "_law_number", "_law_letters", "_law_found", "_law_turn", "_law_item", "_law_peer", "_law_sort", "_law_k"]
theorem scwalk : FnScope Nwalk ["_law_pen_here", "_law_table", "_law_number"] (defScope stwalk) := ⟨rfl, rfl, rfl, by decide +kernel, rfl, by decide +kernel, by decide +kernel⟩

theorem ok_walk (F : FnAt K mg "_law_walk" stwalk) (T : TxtH K mg) (D_draw : Def P w K mg base CX0 1 "_law_draw" ["_law_pen_here", "_law_number"] spDraw) (D_pick : Def P w K mg base CX0 2 "_law_pick" ["_law_pen_here", "_law_items"] spPick) : Def P w K mg base CX0 3 "_law_walk" ["_law_pen_here", "_law_table", "_law_number"] spWalk := by
  refine F.ok scwalk (fun _ _ _ _ _ _ us hl => match us, hl with | [_, _, _], _ => rfl) (fun vs H Q E h => ?_) (fun f cdv A outer s H vs Q E hr h => ?_)
  · obtain ⟨g, n, d, ls, f, num, rfl, _⟩ := h
    rfl
  obtain ⟨g, n, d, ls, fn, num, rfl, hp, hn, hdp, hd, tab, l0, hnum, k⟩ := h
  have hu := hu_of hr
  have nd := scwalk.nd
  replace D_draw := D_draw.mono (show 1 ≤ 2 by decide)
  have tl := tab.len
  refine ⟨_, (pss_cons (ps_par (i := 3) (j := 4) (by rfl) nd rfl rfl (by decide) rfl rfl (pa_cons (pe_callTy (call_list_dK rfl) (by rfl) T.list (by decide +kernel) (pa_cons (pv 1) pa_nil)) (pa_cons (pe_tx [] (by decide +kernel)) pa_nil)) (by rfl))
      (pss_cons (ps_for PassesOwn.never rfl (pi_range1 (by rfl) T.range (pa_cons (pe_cd D_draw hr pass0 (pa_cons (pv 0) (pa_cons pe_int pa_nil))) pa_nil)) (pg_name (i := 5) nd rfl (Or.inl rfl))
      (pss_cons (ps_par3 (i := 6) (j := 7) (l := 8) (by rfl) nd rfl rfl rfl (by decide) (by decide) (by decide) rfl rfl rfl (pa_cons (pe_cd D_pick hr pass0 (pa_cons (pv 0) (pa_cons (pv 3) pa_nil))) (pa_cons (pe_cd D_pick hr pass0 (pa_cons (pv 0) (pa_cons (pv 3) pa_nil))) (pa_cons (pe_cd D_draw hr pass0 (pa_cons (pv 0) (pa_cons pe_int pa_nil))) pa_nil))) (by rfl))
        (pss_one (ps_if (pt_cmpR op_eq (pv 8) pe_int (nomark _))
        (pss_one (ps_set (i := 4) nd rfl (Or.inl rfl) (pe_op op_addS (pv 4) (pe_op op_mulS (pe_op op_addS (pv 6) (pv 7)) (pe_op op_add pe_int (pe_cd D_draw hr pass0 (pa_cons (pv 0) (pa_cons pe_int pa_nil))))))))
        (pss_one (ps_if (pt_cmpR op_eq (pv 8) pe_int (nomark _))
          (pss_one (ps_set (i := 4) nd rfl (Or.inl rfl) (pe_op op_addS (pv 4) (pe_slice sl_S (pe_revS (pv 4)) po_none (po_some (pe_cd D_draw hr pass0 (pa_cons (pv 0) (pa_cons pe_int pa_nil))))))))
          (pss_one (ps_if (pt_cmpR op_eq (pv 8) pe_int (nomark _))
            (pss_one (ps_set (i := 4) nd rfl (Or.inl rfl) (pe_op op_addS (pe_op op_addS (pv 4) (pe_dget hu (pv 1) (pv 6) (fun _ _ => rfl))) (pv 6))))
            (pss_one (ps_for PassesOwn.never rfl (pi_range1 (by rfl) T.range (pa_cons (pe_op op_add pe_int (pe_cd D_draw hr pass0 (pa_cons (pv 0) (pa_cons pe_int pa_nil)))) pa_nil)) (pg_name (i := 9) nd rfl (Or.inl rfl))
              (pss_one (ps_set (i := 4) nd rfl (Or.inl rfl) (pe_op op_addS (pv 4) (pe_cd D_pick hr pass0 (pa_cons (pv 0) (pa_cons (pv 3) pa_nil))))))))))))))))
      (pss_one (ps_ret (pe_slice sl_S (pv 4) po_none (po_some (pv 2))))))), ?_⟩
  refine s_start [some _, some _, some _, none, none, none, none, none, none, none] rfl ?_
  walk_at "go"
  refine v_listD hd fun q H1 hq s1 e1 => ?_
  rw [tab_keys] at e1
  have nqp := hp.p_ne hq
  walk_at "go"
  refine ⟨g, 7, n, rfl, by omega, by omega, hp.same s1, by omega, fun zt H2 zt0 zt1 p2 k2 => ?_⟩
  have e2 := k2 _ _ e1 nqp.symm
  have kA : Keep g.p H H2 := fun b o hb nb => k2 _ _ (s1 _ _ hb) nb
  have ll : (ls.map fun c => V.str (tx [c])).length = ls.length := List.length_map _
  walk_at "go"
  have pk : ∀ v ∈ (ls.map fun c => V.str (tx [c])), ∃ c ∈ ls, v = V.str (tx [c]) := fun v hv => by
    obtain ⟨c, hc, e⟩ := List.mem_map.mp hv
    exact ⟨c, hc, e.symm⟩
  refine for_it (walk_rI (fun i => ((i : Nat) : Int)) (fun k => Int.zero_add _)) (fun i σ H' => ∃ x1 x2 x3 x4 x5, ∃ fd : List Nat, σ = [some (.ref g.p), some (.ref d), some (.int num), some (.ref q), some (.str (tx fd)), x1, x2, x3, x4, x5] ∧ PenAt g H' (n + 1 + 12 * i) ∧ Keep g.p H H' ∧ H' q = some (.lst (ls.map fun c => V.str (tx [c]))) ∧ fd.length ≤ 12 * i ∧ ∀ c ∈ fd, c ∈ ls) ⟨_, _, _, _, _, [], rfl, p2, kA, e2, by simp, by simp⟩ (fun _ _ _ _ _ => trivial) ?_ ?_
  · rintro i v σ H3 H4 hi ⟨x1, x2, x3, x4, x5, fd, rfl, p3, k3, e3, l3, m3⟩ ⟨rfl, rfl⟩
    have hi6 : i < 6 := by omega
    walk_at "go"
    refine ⟨g, _, q, _, rfl, e3, by omega, by omega, p3, by omega, nqp.symm, fun v1 H5 hv1 p5 k5 => ?_⟩
    obtain ⟨c1, hc1, rfl⟩ := pk v1 hv1
    have e5 := k5 _ _ e3 nqp.symm
    walk_at "go"
    refine ⟨g, _, q, _, rfl, e5, by omega, by omega, p5, by omega, nqp.symm, fun v2 H6 hv2 p6 k6 => ?_⟩
    obtain ⟨c2, hc2, rfl⟩ := pk v2 hv2
    have e6 := k6 _ _ e5 nqp.symm
    walk_at "go"
    refine ⟨g, 5, _, rfl, by omega, by omega, p6, by omega, fun so H7 so0 so1 p7 k7 => ?_⟩
    have e7 := k7 _ _ e6 nqp.symm
    have kB : Keep g.p H H7 := fun b o hb nb => k7 _ _ (k6 _ _ (k5 _ _ (k3 _ _ hb nb) nb) nb) nb
    have dB := kB _ _ hd hdp
    walk_at "go"
    refine if_dec (fun s0 => ?_) (fun s0 => ?_)
    · have l4 : [c1].length + [c2].length ≤ 1000000 := by simp
      walk_at "go"
      refine ⟨g, 5, _, rfl, by omega, by omega, p7, by omega, fun z H8 z0 z1 p8 k8 => ?_⟩
      walk_at "go"
      have zt : (1 + z).toNat ≤ 5 := by omega
      have z5 : [c1, c2].length * (1 + z).toNat ≤ 10 := by
        show 2 * _ ≤ _
        omega
      refine v_mulS (by omega) (by omega) (Nat.le_trans z5 (by decide)) ?_
      have rl := len_rep [c1, c2] (1 + z).toNat
      have rl2 : (List.replicate (1 + z).toNat [c1, c2]).flatten.length ≤ 10 := by
        rw [rl, Nat.mul_comm]
        exact z5
      refine v_addS (by show fd.length + (List.replicate (1 + z).toNat [c1, c2]).flatten.length ≤ _; omega) ?_
      walk_at "go"
      refine ⟨_, _, _, _, _, _, rfl, p8.mono (by omega), fun b o hb nb => k8 _ _ (kB _ _ hb nb) nb, k8 _ _ e7 nqp.symm, ?_, ?_⟩
      · rw [List.length_append]
        show fd.length + (List.replicate (1 + z).toNat [c1, c2]).flatten.length ≤ _
        omega
      · intro c hc
        rcases List.mem_append.mp hc with z | z
        · exact m3 c z
        · have := mem_rep z
          simp only [List.singleton_append, List.mem_cons, List.not_mem_nil, or_false] at this
          rcases this with rfl | rfl <;> assumption
    walk_at "go"
    refine if_dec (fun s1 => ?_) (fun s1 => ?_)
    · walk_at "go"
      refine ⟨g, 6, _, rfl, by omega, by omega, p7, by omega, fun z H8 z0 z1 p8 k8 => ?_⟩
      walk_at "go"
      refine v_slTo (by rw [List.length_reverse]; omega) z0 ?_
      have rl : (fd.reverse.take z.toNat).length ≤ 5 := by rw [List.length_take]; omega
      refine v_addS (by omega) ?_
      walk_at "go"
      refine ⟨_, _, _, _, _, _, rfl, p8.mono (by omega), fun b o hb nb => k8 _ _ (kB _ _ hb nb) nb, k8 _ _ e7 nqp.symm, ?_, ?_⟩
      · rw [List.length_append]
        omega
      · intro c hc
        rcases List.mem_append.mp hc with z | z
        · exact m3 c z
        · exact m3 c (List.mem_reverse.mp (List.mem_of_mem_take z))
    walk_at "go"
    refine if_dec (fun s2 => ?_) (fun s2 => ?_)
    · walk_at "go"
      refine v_dget (tab_get dB hc1) ?_
      have gl := tab.gl _ hc1
      have l5 : (fd ++ fn c1).length + [c1].length ≤ 1000000 := by
        rw [List.length_append, List.length_singleton]
        omega
      walk_at "go"
      refine ⟨_, _, _, _, _, _, rfl, p7.mono (by omega), kB, e7, ?_, ?_⟩
      · rw [List.length_append, List.length_append, List.length_singleton]
        omega
      · intro c hc
        rcases List.mem_append.mp hc with z | z
        · rcases List.mem_append.mp z with z | z
          · exact m3 c z
          · exact (tab.sub c1 hc1 c z).1
        · rw [List.mem_singleton.mp z]
          exact hc1
    walk_at "go"
    refine ⟨g, 6, _, rfl, by omega, by omega, p7, by omega, fun z H8 z0 z1 p8 k8 => ?_⟩
    walk_at "go"
    refine for_it (walk_rI (fun i => ((i : Nat) : Int)) (fun k => Int.zero_add _)) (fun j σ H' => ∃ x5, ∃ fd' : List Nat, σ = [some (.ref g.p), some (.ref d), some (.int num), some (.ref q), some (.str (tx fd')), some (.int (i : Nat)), some (.str (tx [c1])), some (.str (tx [c2])), some (.int so), x5] ∧ PenAt g H' (n + 1 + 12 * i + 4 + j) ∧ Keep g.p H H' ∧ H' q = some (.lst (ls.map fun c => V.str (tx [c]))) ∧ fd'.length ≤ 12 * i + j ∧ ∀ c ∈ fd', c ∈ ls) ⟨_, fd, rfl, p8, fun b o hb nb => k8 _ _ (kB _ _ hb nb) nb, k8 _ _ e7 nqp.symm, l3, m3⟩ (fun _ _ _ _ _ => trivial) ?_ ?_
    · rintro j v σ H9 H10 hj ⟨x5, fd', rfl, p9, k9, e9, l9, m9⟩ ⟨rfl, rfl⟩
      have hj6 : j < 6 := by omega
      walk_at "go"
      refine ⟨g, _, q, _, rfl, e9, by omega, by omega, p9, by omega, nqp.symm, fun v3 H11 hv3 p11 k11 => ?_⟩
      obtain ⟨c3, hc3, rfl⟩ := pk v3 hv3
      have l6 : fd'.length + [c3].length ≤ 1000000 := by
        rw [List.length_singleton]
        omega
      walk_at "go"
      refine ⟨_, _, rfl, p11, fun b o hb nb => k11 _ _ (k9 _ _ hb nb) nb, k11 _ _ e9 nqp.symm, ?_, ?_⟩
      · rw [List.length_append, List.length_singleton]
        omega
      · intro c hc
        rcases List.mem_append.mp hc with z | z
        · exact m9 c z
        · rw [List.mem_singleton.mp z]
          exact hc3
    · rintro σ H9 ⟨x5, fd', rfl, p9, k9, e9, l9, m9⟩
      exact ⟨_, _, _, _, _, fd', rfl, p9.mono (by omega), k9, e9, by omega, m9⟩
  rintro σ H3 ⟨x1, x2, x3, x4, x5, fd, rfl, p3, k3, e3, l3, m3⟩
  walk_at "go"
  refine v_slTo (by omega) (by omega) ?_
  refine k _ H3 (fun c hc => m3 c (List.mem_of_mem_take hc)) ?_ (p3.mono (by omega)) k3
  rw [List.length_take]
  omega
end
end
section
open PySem PySem.Spec L2
def spBegun : Sp := fun vs H Q _ => ∃ (g : Pen) (n : Nat) (d : Addr) (ls : List Nat) (f : Nat → List Nat) (num size : Nat), vs = [.ref g.p, .ref d, .int num, .int size] ∧ PenAt g H n ∧ n < 800000 ∧ d ≠ g.p ∧ H d = some (.dK (tabKV ls f)) ∧ Tab ls f ∧ 0 < ls.length ∧ num ≤ 900 ∧ size ≤ 900 ∧
  ∀ (l : List Nat) H', (∀ c ∈ l, c ∈ ls) → l.length ≤ max num size → PenAt g H' (n + 101) → Keep g.p H H' → Q (.str (tx l)) H'
def posV (ls : List Nat) (v : Nat → Int) : Nat → Int := if ∃ x ∈ ls, v x < 0 then fun x => - v x else v
def spPositive : Sp := fun vs H Q _ => ∃ (m : Addr) (ls : List Nat) (v : Nat → Int), vs = [.ref m] ∧ H m = some (.tup (vecV ls v)) ∧ 0 < ls.length ∧ ls.length ≤ 1000 ∧ ∀ p H', Same H H' → H' p = some (.tup (vecV ls (posV ls v))) → Q (.ref p) H'
section
variable {P : Program} {w : World} {K : PySem.W.Frag} {mg : Str → Option Value} {base : Heap} {C R O W : Addr}
abbrev stbegun : Stmt := (top 62)
abbrev Nbegun : List Str := ["_law_pen_here", "_law_table", "_law_number", "_law_size", "_law_found"]
theorem scbegun : FnScope Nbegun ["_law_pen_here", "_law_table", "_law_number", "_law_size"] (defScope stbegun) := ⟨rfl, rfl, rfl, by decide +kernel, rfl, by decide +kernel, by decide +kernel⟩

theorem ok_begun (F : FnAt K mg "_law_begun" stbegun) (D_draw : Def P w K mg base CX0 1 "_law_draw" ["_law_pen_here", "_law_number"] spDraw) (D_walk : Def P w K mg base CX0 3 "_law_walk" ["_law_pen_here", "_law_table", "_law_number"] spWalk) : Def P w K mg base CX0 4 "_law_begun" ["_law_pen_here", "_law_table", "_law_number", "_law_size"] spBegun := by
  refine F.ok scbegun (fun _ _ _ _ _ _ us hl => match us, hl with | [_, _, _, _], _ => rfl) (fun vs H Q E h => ?_) (fun f cdv A outer s H vs Q E hr h => ?_)
  · obtain ⟨g, n, d, ls, f, num, size, rfl, _⟩ := h
    rfl
  obtain ⟨g, n, d, ls, fn, num, size, rfl, hp, hn, hdp, hd, tab, l0, hnum, hsize, k⟩ := h
  have hu := hu_of hr
  have nd := scbegun.nd
  replace D_draw := D_draw.mono (show 1 ≤ 3 by decide)
  refine ⟨_, (pss_cons (ps_set (i := 4) nd rfl (Or.inl rfl) (pe_cd D_walk hr pass0 (pa_cons (pv 0) (pa_cons (pv 1) (pa_cons (pv 2) pa_nil)))))
      (pss_one (ps_ret (pe_ifExp (pt_cmpR op_eq (pe_cd D_draw hr pass0 (pa_cons (pv 0) (pa_cons pe_int pa_nil))) pe_int (nomark _)) (pe_slice sl_S (pe_op op_mulS (pv 4) (pv 3)) po_none (po_some (pv 3))) (pv 4))))), ?_⟩
  refine s_start [some _, some _, some _, some _, none] rfl ?_
  walk_at "go"
  refine ⟨g, n, d, ls, fn, num, rfl, hp, by omega, hdp, hd, tab, l0, by omega, fun l H1 m1 l1 p1 k1 => ?_⟩
  walk_at "go"
  refine ⟨g, 4, _, rfl, by omega, by omega, p1, by omega, fun z H2 z0 z1 p2 k2 => ?_⟩
  walk_at "go"
  refine if_dec (fun c => ?_) (fun c => ?_)
  · walk_at "go"
    have z5 : l.length * ((size : Nat) : Int).toNat ≤ 1000000 := by
      have : ((size : Nat) : Int).toNat = size := rfl
      rw [this]
      exact Nat.le_trans (Nat.mul_le_mul (show l.length ≤ 1000 by omega) (show size ≤ 1000 by omega)) (by decide)
    refine v_mulS (by omega) (by omega) z5 ?_
    have z6 : (List.replicate ((size : Nat) : Int).toNat l).flatten.length ≤ 1000000 := by
      rw [len_rep, Nat.mul_comm]
      exact z5
    walk_at "go"
    refine v_slTo z6 (by omega) ?_
    refine k _ H2 (fun c hc => m1 c (mem_rep (List.mem_of_mem_take hc))) ?_ (p2.mono (by omega)) (k1.trans k2)
    rw [List.length_take]
    omega
  · walk_at "go"
    exact k _ H2 m1 (by omega) (p2.mono (by omega)) (k1.trans k2)
abbrev stpositive : Stmt := (top 70)
abbrev Npositive : List Str := ["_law_mark", "_law_number"]
theorem scpositive : FnScope Npositive ["_law_mark"] (defScope stpositive) := ⟨rfl, rfl, rfl, by decide +kernel, rfl, by decide +kernel, by decide +kernel⟩

theorem ok_positive (F : FnAt K mg "_law_positive" stpositive) (T : TxtV K mg) : Def P w K mg base CX0 1 "_law_positive" ["_law_mark"] spPositive := by
  refine F.ok scpositive (fun _ _ _ _ _ _ us hl => match us, hl with | [_], _ => rfl) (fun vs H Q E h => ?_) (fun f cdv A outer s H vs Q E hr h => ?_)
  · obtain ⟨m, ls, v, rfl, _⟩ := h
    rfl
  obtain ⟨m, ls, v, rfl, hm, l0, l1, k⟩ := h
  have hu := hu_of hr
  have nd := scpositive.nd
  refine ⟨_, (pss_one (ps_ret (pe_ifExp (pt_cmpR op_lt (pe_callB (cr_minK (K := K) rfl rfl) (by rfl) T.min (by decide +kernel) (pa_cons (pe_lc (own := [("_law_number", 1)]) (g := gName 1) (by rfl) nd (pi_tupK (K := K) rfl (pv 0)) (blkOk_by (own := [("_law_number", 1)]) (N := Npositive) (sc := defScope stpositive) (by decide +kernel)) (fun _ _ _ _ _ => (pg_name (i := 1) nd rfl (Or.inl rfl))) (fun _ _ _ _ _ => pts_nil) (fun _ _ _ _ _ => (pe_callTy c_int (by rfl) T.int (by decide +kernel) (pa_cons (pv 1) pa_nil)))) pa_nil)) pe_int (nomark _)) (pe_callTy (c_tupleK (K := K) rfl) (by rfl) T.tuple (by decide +kernel) (pa_cons (pe_lc (own := [("_law_number", 1)]) (g := gName 1) (by rfl) nd (pi_tupK (K := K) rfl (pv 0)) (blkOk_by (own := [("_law_number", 1)]) (N := Npositive) (sc := defScope stpositive) (by decide +kernel)) (fun _ _ _ _ _ => (pg_name (i := 1) nd rfl (Or.inl rfl))) (fun _ _ _ _ _ => pts_nil) (fun _ _ _ _ _ => (pe_un un_neg (pv 1)))) pa_nil)) (pv 0)))), ?_⟩
  refine s_start [some _, none] rfl ?_
  walk_at "go"
  refine v_iT hm ?_
  refine vals_all (ls := ls) (it := fun x => V.int (v x)) (f := fun x => V.int (v x)) (walk_tupM (ls := ls) (f := fun x => V.int (v x))) (fun H' s' => SqT.of (s' _ _ hm)) (by omega) (fun y hy H5 s5 R r => ?_) (fun y hy H5 s5 R r => ?_) (fun D H5 hD s5 e5 => ?_)
  · exact r H5 (Same.refl _)
  · walk_at "go"
    exact r H5 (Same.refl _)
  walk_at "go"
  have e6 : H5 D = some (.lst ((ls.map v).map V.int)) := by
    rw [e5, List.map_map]
    rfl
  refine ⟨D, _, rfl, SqL.of e6, by rw [List.length_map]; exact l0, fun z hz hle => ?_⟩
  walk_at "go"
  have e7 : z < 0 ↔ ∃ x ∈ ls, v x < 0 := by
    refine ⟨fun h => ?_, fun h => ?_⟩
    · obtain ⟨x, hx, e⟩ := List.mem_map.mp hz
      exact ⟨x, hx, by omega⟩
    · obtain ⟨x, hx, e⟩ := h
      have := hle (v x) (List.mem_map.mpr ⟨x, hx, rfl⟩)
      omega
  have hm5 := s5 _ _ hm
  refine if_dec (fun c => ?_) (fun c => ?_)
  · walk_at "go"
    refine v_iT hm5 ?_
    refine vals_all (ls := ls) (it := fun x => V.int (v x)) (f := fun x => V.int (- v x)) (walk_tupM (ls := ls) (f := fun x => V.int (v x))) (fun H' s' => SqT.of (s' _ _ hm5)) (by omega) (fun y hy H6 s6 R r => ?_) (fun y hy H6 s6 R r => ?_) (fun D2 H6 hD2 s6 e6 => ?_)
    · exact r H6 (Same.refl _)
    · walk_at "go"
      exact ⟨_, rfl, r H6 (Same.refl _)⟩
    walk_at "go"
    refine ⟨D2, _, rfl, .inl ⟨SqL.of e6, fun p hp => ?_⟩⟩
    refine k p _ ((s5.trans s6).trans (Same.new hp)) ?_
    unfold posV
    rw [if_pos (e7.mp c), upd_same]
    rfl
  · walk_at "go"
    refine k m H5 s5 ?_
    unfold posV
    rw [if_neg fun z => c (e7.mpr z)]
    exact hm5
end
/-! ### vectors -/
theorem dp_vec {K : PySem.W.Frag} {H : Hp} (v : Nat → Int) : ∀ ls : List Nat, DpAll K H (vecV ls v) ((ls.map v).map PyData.int)
  | [] => .nil
  | n :: r => .cons (.int _) (dp_vec v r)
theorem shaped_intsT (ns : List Int) : SeqAt.shaped (.tuple (ns.map PyData.int)) = true := by
  have h := dep_ints ns
  have h2 : (PyData.tuple (ns.map PyData.int)).depth ≤ 64 := by simp only [PyData.depth]; omega
  have h3 : (PyData.tuple (ns.map PyData.int)).canLay0 = true := by simp only [PyData.canLay0]; exact lay_ints ns
  simp [SeqAt.shaped, h2, h3]
theorem eqvAll_ints : ∀ (a b : List Int), PyData.eqvAll (a.map PyData.int) (b.map PyData.int) = decide (a = b)
  | [], [] => by simp [PyData.eqvAll]
  | [], _ :: _ => by simp [PyData.eqvAll]
  | _ :: _, [] => by simp [PyData.eqvAll]
  | x :: a, y :: b => by
    simp only [List.map_cons, PyData.eqvAll, PyData.eqv, eqvAll_ints a b]
    by_cases e : x = y
    · subst e; simp
    · simp [e]
theorem map_eq {u v : Nat → Int} : ∀ {ls : List Nat}, ls.map u = ls.map v ↔ ∀ x ∈ ls, u x = v x
  | [] => ⟨fun _ _ h => (nomatch h), fun _ => rfl⟩
  | y :: r => by
    rw [List.map_cons, List.map_cons, List.cons.injEq, map_eq]
    exact ⟨fun h x hx => (List.mem_cons.mp hx).elim (fun z => z ▸ h.1) (h.2 x), fun h => ⟨h y (List.mem_cons_self ..), fun x hx => h x (List.mem_cons_of_mem _ hx)⟩⟩
section
variable {H : Hp} {Q : VK} {K : PySem.W.Frag} {p q : Addr} {ls : List Nat} {u v : Nat → Int}
end
end
section
open PySem PySem.Spec L2
/-- the marks of the doors of a way, one after the other -/
def crossedL (f : Nat → List Nat) (nm : List Nat) (n : Nat) : List (Nat → Int) := (List.range n).map fun i => fun x => act f (nm.take i).reverse (unit x) (nm.getD i 0)
structure VecsAt (H : Hp) (D : Addr) (ls : List Nat) (us : List (Nat → Int)) : Prop where
  ex : ∃ As : List Addr, H D = some (.lst (As.map V.ref)) ∧ Paired (fun a u => H a = some (.tup (vecV ls u))) As us
def spCrossed : Sp := fun vs H Q _ => ∃ (d : Addr) (ls : List Nat) (f : Nat → List Nat) (nm : List Nat), vs = [.ref d, .str (tx nm)] ∧ H d = some (.dK (tabKV ls f)) ∧ Tab ls f ∧ (∀ c ∈ nm, c ∈ ls) ∧ nm.length ≤ 100000 ∧ ∀ D H', H D = none → Same H H' → VecsAt H' D ls (crossedL f nm nm.length) → Q (.ref D) H'
theorem paired_imp {α β : Type} {r r' : α → β → Prop} (h : ∀ a b, r a b → r' a b) : ∀ {as : List α} {bs : List β}, Paired r as bs → Paired r' as bs
  | _, _, .nil => .nil
  | _, _, .cons a t => .cons (h _ _ a) (paired_imp h t)
theorem paired_snoc {α β : Type} {r : α → β → Prop} {a : α} {b : β} (h : r a b) : ∀ {as : List α} {bs : List β}, Paired r as bs → Paired r (as ++ [a]) (bs ++ [b])
  | _, _, .nil => .cons h .nil
  | _, _, .cons x t => .cons x (paired_snoc h t)
theorem paired_len {α β : Type} {r : α → β → Prop} : ∀ {as : List α} {bs : List β}, Paired r as bs → as.length = bs.length
  | _, _, .nil => rfl
  | _, _, .cons _ t => by rw [List.length_cons, List.length_cons, paired_len t]
theorem VecsAt.same {H H' : Hp} {D : Addr} {ls : List Nat} {us : List (Nat → Int)} (h : VecsAt H D ls us) (s : Same H H') : VecsAt H' D ls us := by
  obtain ⟨As, e, p⟩ := h.ex
  exact ⟨As, s _ _ e, paired_imp (fun _ _ z => s _ _ z) p⟩
theorem MarksAt.lst {H H' : Hp} {m q : Addr} {ls : List Nat} {M : Nat → Nat → Int} {l : List V} (h : MarksAt H m ls M) (e0 : H q = some (.lst l)) (k : Keep q H H') : MarksAt H' m ls M := by
  obtain ⟨A, a, b⟩ := h.ex
  exact ⟨A, k _ _ a (ne_of a e0 (by intro z; cases z)), fun c hc => k _ _ (b c hc) (ne_of (b c hc) e0 (by intro z; cases z))⟩
/-! ### a vector among vectors -/
theorem op_inDK {X : Cx} {K : PySem.W.Frag} (h : X.K = K) (hu : X.A.units + 65 < cLine) : OpR X (compareOp .In) (rInD K) := h ▸ op_inD hu
theorem op_notInDK {X : Cx} {K : PySem.W.Frag} (h : X.K = K) (hu : X.A.units + 65 < cLine) : OpR X (compareOp .NotIn) (rNotInD K) := h ▸ op_notInD hu
abbrev vecD (ls : List Nat) (u : Nat → Int) : PyData := .tuple ((ls.map u).map PyData.int)
theorem dp_vecs {K : PySem.W.Frag} {H : Hp} {ls : List Nat} : ∀ {As : List Addr} {us : List (Nat → Int)}, Paired (fun a u => H a = some (.tup (vecV ls u))) As us → DpAll K H (As.map V.ref) (us.map (vecD ls))
  | _, _, .nil => .nil
  | _, _, .cons h t => .cons (.tup (SqT.of h) (dp_vec _ _)) (dp_vecs t)
theorem lay_vecs (ls : List Nat) : ∀ us : List (Nat → Int), PyData.canLayAll0 (us.map (vecD ls)) = true
  | [] => rfl
  | u :: r => by
    show (PyData.canLay0 (vecD ls u) && PyData.canLayAll0 (r.map (vecD ls))) = true
    rw [lay_vecs ls r]
    have : PyData.canLay0 (vecD ls u) = true := by simp only [PyData.canLay0]; exact lay_ints _
    rw [this]
    rfl
theorem dep_vecs (ls : List Nat) : ∀ us : List (Nat → Int), PyData.depthAll (us.map (vecD ls)) ≤ 2
  | [] => Nat.zero_le _
  | u :: r => Nat.max_le.mpr ⟨by
      have h := dep_ints (ls.map u)
      show PyData.depth (vecD ls u) ≤ 2
      simp only [PyData.depth]
      omega, dep_vecs ls r⟩
theorem shaped_vecs (ls : List Nat) (us : List (Nat → Int)) : SeqAt.shaped (.list (us.map (vecD ls))) = true := by
  have h := dep_vecs ls us
  have h2 : (PyData.list (us.map (vecD ls))).depth ≤ 64 := by simp only [PyData.depth]; omega
  have h3 : (PyData.list (us.map (vecD ls))).canLay0 = true := by simp only [PyData.canLay0]; exact lay_vecs ls us
  simp [SeqAt.shaped, h2, h3]
theorem eqv_vec {ls : List Nat} {u v : Nat → Int} : PyData.eqv (vecD ls u) (vecD ls v) = decide (∀ x ∈ ls, u x = v x) := by
  show PyData.eqvAll _ _ = _
  rw [eqvAll_ints]
  exact decide_eq_decide.mpr map_eq
section
variable {H : Hp} {Q : VK} {K : PySem.W.Frag} {p D : Addr} {ls : List Nat} {v : Nat → Int} {us : List (Nat → Int)}
theorem v_inV (h1 : H p = some (.tup (vecV ls v))) (h2 : VecsAt H D ls us) (k : Q (.bl (decide (∃ u ∈ us, ∀ x ∈ ls, u x = v x))) H) : rInD K (.ref p) (.ref D) H Q := by
  obtain ⟨As, e, pr⟩ := h2.ex
  refine ⟨vecD ls v, us.map (vecD ls), .tup (SqT.of h1) (dp_vec _ _), .lst (SqL.of e) (dp_vecs pr), shaped_intsT _, shaped_vecs ls us, ?_⟩
  have e2 : ((us.map (vecD ls)).any fun z => PyData.eqv z (vecD ls v)) = decide (∃ u ∈ us, ∀ x ∈ ls, u x = v x) := by
    rw [List.any_map, Bool.eq_iff_iff, List.any_eq_true, decide_eq_true_iff]
    exact ⟨fun ⟨u, hu, h⟩ => ⟨u, hu, by simpa [eqv_vec] using h⟩, fun ⟨u, hu, h⟩ => ⟨u, hu, by simpa [eqv_vec] using h⟩⟩
  rw [e2]
  exact k
end
/-! ### beyond, touches -/
section
variable {P : Program} {w : World} {K : PySem.W.Frag} {mg : Str → Option Value} {base : Heap} {C R O W : Addr}
abbrev stcrossed : Stmt := (top 68)
abbrev Ncrossed : List Str := ["_law_table", "_law_name_here", "_law_marks_here", "_law_found", "_law_item"]
theorem sccrossed : FnScope Ncrossed ["_law_table", "_law_name_here"] (defScope stcrossed) := ⟨rfl, rfl, rfl, by decide +kernel, rfl, by decide +kernel, by decide +kernel⟩

theorem ok_crossed (F : FnAt K mg "_law_crossed" stcrossed) (D_units : Def P w K mg base CX0 1 "_law_units" ["_law_table"] spUnits) (D_through : Def P w K mg base CX0 1 "_law_through" ["_law_table", "_law_marks_here", "_law_door"] spThrough) : Def P w K mg base CX0 2 "_law_crossed" ["_law_table", "_law_name_here"] spCrossed := by
  refine F.ok sccrossed (fun _ _ _ _ _ _ us hl => match us, hl with | [_, _], _ => rfl) (fun vs H Q E h => ?_) (fun f cdv A outer s H vs Q E hr h => ?_)
  · obtain ⟨d, ls, f, w, rfl, _⟩ := h
    rfl
  obtain ⟨d, ls, fn, nm, rfl, hd, tab, hw, hl, k⟩ := h
  have hu := hu_of hr
  have nd := sccrossed.nd
  refine ⟨_, (pss_cons (ps_par (i := 2) (j := 3) (by rfl) nd rfl rfl (by decide) rfl rfl (pa_cons (pe_cd D_units hr pass0 (pa_cons (pv 0) pa_nil)) (pa_cons (pe_lst pa_nil) pa_nil)) (by rfl))
      (pss_cons (ps_for PassesOwn.never rfl (pi_str (pv 1)) (pg_name (i := 4) nd rfl (Or.inl rfl))
      (pss_cons (ps_expr (pe_appK (K := K) rfl (pv 3) (pe_dget hu (pv 2) (pv 4) (fun _ _ => rfl))))
        (pss_one (ps_set (i := 2) nd rfl (Or.inl rfl) (pe_cd D_through hr pass0 (pa_cons (pv 0) (pa_cons (pv 2) (pa_cons (pv 4) pa_nil))))))))
      (pss_one (ps_ret (pv 3))))), ?_⟩
  refine s_start [some _, some _, none, none, none] rfl ?_
  walk_at "go"
  refine ⟨d, ls, fn, rfl, hd, tab, fun m H1 _ m1 s1 => ?_⟩
  walk_at "go"
  intro D H2 hD s2 e2
  have hD0 : H D = none := L2.Same.free s1 hD
  walk_at "go"
  refine for_it (walk_tx nm) (fun i σ H' => ∃ z m As, σ = [some (.ref d), some (.str (tx nm)), some (.ref m), some (.ref D), z] ∧ H' D = some (.lst (As.map V.ref)) ∧ Paired (fun a u => H' a = some (.tup (vecV ls u))) As (crossedL fn nm i) ∧ MarksAt H' m ls (fun c x => act fn (nm.take i).reverse (unit x) c) ∧ Same H H') ⟨_, m, [], rfl, e2, .nil, m1.same s2, s1.trans s2⟩ (fun _ _ _ _ _ => trivial) ?_ ?_
  · rintro i v σ H3 H4 hi ⟨z, m, As, rfl, e3, pr3, m3, s3⟩ ⟨rfl, rfl⟩
    have hc := hw _ (getD_mem hi)
    obtain ⟨A0, a1, a2⟩ := m3.ex
    have la := paired_len pr3
    have lc : (crossedL fn nm i).length = i := by unfold crossedL; rw [List.length_map, List.length_range]
    walk_at "go"
    refine v_dget (marks_get a1 hc) ?_
    walk_at "go"
    refine v_app e3 (by rw [List.length_map]; omega) fun H5 k5 e5 => ?_
    walk_at "go"
    have s5 : Same H H5 := fun b o hb => k5 _ _ (s3 _ _ hb) (ne_of_none hb hD0)
    refine ⟨d, m, ls, fn, _, nm.getD i 0, rfl, s5 _ _ hd, tab, hc, m3.lst e3 k5, fun m' H6 _ m6 s6 => ?_⟩
    refine ⟨_, m', As ++ [A0 (nm.getD i 0)], rfl, ?_, ?_, ?_, s5.trans s6⟩
    · rw [s6 _ _ e5, List.map_append]
      rfl
    · have e7 : crossedL fn nm (i + 1) = crossedL fn nm i ++ [fun x => act fn (nm.take i).reverse (unit x) (nm.getD i 0)] := by
        unfold crossedL
        rw [List.range_succ, List.map_append]
        rfl
      rw [e7]
      refine paired_imp (fun a u h => s6 _ _ (k5 _ _ h (ne_of h e3 (by intro z; cases z)))) (paired_snoc ?_ pr3)
      exact a2 _ hc
    · rw [take_getD hi, List.reverse_append]
      exact m6
  rintro σ H3 ⟨z, m, As, rfl, e3, pr3, m3, s3⟩
  walk_at "go"
  exact k D H3 hD0 s3 ⟨As, e3, pr3⟩
end
/-! ### of a drawn floor -/
section
variable {K : PySem.W.Frag} {H : Hp} {Q : VK} {C R O W r x y : Addr} {a' b' : Addr} {ls : List Nat} {fn : Nat → List Nat} {a b : List Nat} {k : Nat} {E : XK} {m : List Nat}
end
end
section
open PySem PySem.Spec L2
structure TxtO (K : PySem.W.Frag) (mg : Str → Option Value) : Prop where
  sorted : mg "sorted" = none
  len : mg "len" = none
  str : mg "str" = none
def spInOrder : Sp := fun vs H Q _ => ∃ (a : Addr) (ls : List (List Nat)), vs = [.ref a] ∧ H a = some (.lst (ls.map fun l => V.str (tx l))) ∧ (∀ l ∈ ls, l.length ≤ 1000000) ∧ ls.length ≤ 1000000 ∧
  ∀ (ls' : List (List Nat)) p H', H p = none → Same H H' → H' p = some (.lst (ls'.map fun l => V.str (tx l))) → ls'.Perm ls → ls'.Pairwise shortLe → Q (.ref p) H'
theorem walk_txs {K : PySem.W.Frag} {a : Addr} {ws : List (List Nat)} : Walk (Itl K a) ws.length (fun H => SqL K H a (ws.map fun l => V.str (tx l))) (fun k H x H' => H' = H ∧ x = V.str (tx (ws.getD k []))) := by
  have w := walk_list (K := K) (a := a) (xs := ws.map fun l => V.str (tx l))
  rw [List.length_map] at w
  refine w.mono (fun _ z => z) fun i H x H' hi _ y => ?_
  obtain ⟨rfl, e⟩ := y
  refine ⟨rfl, ?_⟩
  rw [List.getElem?_map, List.getElem?_eq_getElem hi] at e
  injection e with e
  rw [List.getD_eq_getElem?_getD, List.getElem?_eq_getElem hi]
  exact e.symm
theorem range_txs (ls : List (List Nat)) : ((List.range ls.length).filter fun _ => true).map (fun k => V.str (tx (ls.getD k []))) = ls.map fun l => V.str (tx l) := by
  rw [List.filter_eq_self.mpr fun _ _ => rfl]
  apply List.ext_getElem
  · simp
  · intro i h1 h2
    simp only [List.getElem_map, List.getElem_range]
    have h3 : i < ls.length := by simpa using h2
    rw [List.getD_eq_getElem?_getD, List.getElem?_eq_getElem h3]
    rfl
section
variable {P : Program} {w : World} {K : PySem.W.Frag} {mg : Str → Option Value} {base : Heap} {C R O W : Addr}
abbrev stin_order : Stmt := (top 23)
abbrev Nin_order : List Str := ["names", "name"]
theorem scin_order : FnScope Nin_order ["names"] (defScope stin_order) := ⟨rfl, rfl, rfl, by decide +kernel, rfl, by decide +kernel, by decide +kernel⟩

theorem ok_in_order (F : FnAt K mg "in_order" stin_order) (T : TxtO K mg) : Def P w K mg base CX0 1 "in_order" ["names"] spInOrder := by
  refine F.ok scin_order (fun _ _ _ _ _ _ us hl => match us, hl with | [_], _ => rfl) (fun vs H Q E h => ?_) (fun f cdv A outer s H vs Q E hr h => ?_)
  · obtain ⟨a, ls, rfl, _⟩ := h
    rfl
  obtain ⟨a, ls, rfl, ha, hz, hl, q⟩ := h
  have hu := hu_of hr
  have nd := scin_order.nd
  refine ⟨_, (pss_one (ps_ret (pe_sortL (K := K) rfl (by rfl) T.sorted (by rfl) T.len (pa_cons (pe_callB (cr_sortedTK (K := K) rfl) (by rfl) T.sorted (by decide +kernel) (pa_cons (pe_lc (own := [("name", 1)]) (g := gName 1) (by rfl) nd (pi_listK (K := K) rfl (pv 0)) (blkOk_by (own := [("name", 1)]) (N := Nin_order) (sc := defScope stin_order) (by decide +kernel)) (fun _ _ _ _ _ => (pg_name (i := 1) nd rfl (Or.inl rfl))) (fun _ _ _ _ _ => pts_nil) (fun _ _ _ _ _ => (pe_callTy c_strS (by rfl) T.str (by decide +kernel) (pa_cons (pv 1) pa_nil)))) pa_nil)) pa_nil)))), ?_⟩
  refine s_start [some _, none] rfl ?_
  walk_at "go"
  refine e_sortL ?_
  walk_at "go"
  refine lc_gen (n := ls.length) (it := fun k => V.str (tx (ls.getD k []))) (b := fun _ => true) (f := fun k => V.str (tx (ls.getD k []))) walk_txs (fun H' s' => SqL.of (s' _ _ ha)) hl (fun k hk H1 s1 R r => ?_) (fun k hk _ H1 s1 R r => ?_) (fun D H1 hD s1 e1 => ?_)
  · exact r H1 (Same.refl _)
  · walk_at "go"
    refine v_strS ?_
    exact r H1 (Same.refl _)
  rw [range_txs] at e1
  walk_at "go"
  refine ⟨D, ls, rfl, SqL.of e1, fun m p hm1 hm2 hp => ?_⟩
  walk_at "go"
  have s2 : Same H1 (upd H1 p (.lst (m.map fun l => V.str (tx l)))) := Same.new hp
  refine ⟨p, m, rfl, SqL.of upd_same, fun l hl => hz l (hm1.mem_iff.mp hl), fun n p2 hn1 hn2 hn3 hp2 => ?_⟩
  obtain ⟨r1, r2⟩ := sorted_twice hm1 hm2 hn1 hn2 hn3
  exact q n p2 _ (L2.Same.free (s1.trans s2) hp2) ((s1.trans s2).trans (Same.new hp2)) upd_same r1 r2
end
/-! ### the walls between two rooms -/
structure WallsAt (W R : Addr) (H : Hp) (p x : Addr) (keys : List (List Nat)) : Prop where
  ex : ∃ As : List Addr, H p = some (.lst (As.map V.ref)) ∧ Paired (fun a key => ∃ r m k, key = m ++ [k] ∧ WallAt W R H a r x k m) As keys
theorem WallsAt.same {W R : Addr} {H H' : Hp} {p x : Addr} {keys : List (List Nat)} (h : WallsAt W R H p x keys) (s : Same H H') : WallsAt W R H' p x keys := by
  obtain ⟨As, e, pr⟩ := h.ex
  exact ⟨As, s _ _ e, paired_imp (fun a key ⟨r, m, k, e, w⟩ => ⟨r, m, k, e, w.same s⟩) pr⟩
def spWallKeys (C : Addr) : Sp := fun vs H Q _ => ∃ (x : Addr) (ls : List Nat) (fn : Nat → List Nat) (m u : List Nat), vs = [.ref x, .str (tx m), .str (tx u)] ∧ PlanAt C H x (ascOf ls) (tabPairs ls fn) ∧ Fl ls fn ∧ NF fn m ∧ (∀ y ∈ m, y ∈ ls) ∧ (∀ y ∈ u, y ∈ ls) ∧ m.length ≤ 5000 ∧ u.length ≤ 5000 ∧
  ∀ (keys : List (List Nat)) p H', H p = none → Same H H' → H' p = some (.lst (keys.map fun l => V.str (tx l))) → keys.Perm (keyI fn m u u.length) → keys.Pairwise shortLe → Q (.ref p) H'
section
variable {P : Program} {w : World} {K : PySem.W.Frag} {mg : Str → Option Value} {base : Heap} {C R O W : Addr}
abbrev stwall_keys : Stmt := (top 39)
abbrev Nwall_keys : List Str := ["plan", "name", "way", "found", "kind"]
theorem scwall_keys : FnScope Nwall_keys ["plan", "name", "way"] (defScope stwall_keys) := ⟨rfl, rfl, rfl, by decide +kernel, rfl, by decide +kernel, by decide +kernel⟩

theorem ok_wall_keys (F : FnAt K mg "wall_keys" stwall_keys) (D_in_order : Def P w K mg base CX0 1 "in_order" ["names"] spInOrder) (D_stepped : Def P w K mg base CX0 1 "stepped" ["plan", "name", "kind"] (spStepped C)) (D_wall_start : Def P w K mg base CX0 4 "wall_start" ["plan", "name", "kind"] (spStart C)) : Def P w K mg base CX0 5 "wall_keys" ["plan", "name", "way"] (spWallKeys C) := by
  refine F.ok scwall_keys (fun _ _ _ _ _ _ us hl => match us, hl with | [_, _, _], _ => rfl) (fun vs H Q E h => ?_) (fun f cdv A outer s H vs Q E hr h => ?_)
  · obtain ⟨x, ls, fn, m, u, rfl, _⟩ := h
    rfl
  obtain ⟨x, ls, fn, m, u, rfl, hp, fl, nm, mm, mu, lm, lu, q⟩ := h
  have hu := hu_of hr
  have nd := scwall_keys.nd
  have ok := fl.ok
  have tl := fl.tab.len
  replace D_in_order := D_in_order.mono (show 1 ≤ 4 by decide)
  replace D_stepped := D_stepped.mono (show 1 ≤ 4 by decide)
  refine ⟨_, (pss_cons (ps_set (i := 3) nd rfl (Or.inl rfl) (pe_lst pa_nil))
      (pss_cons (ps_for PassesOwn.never rfl (pi_str (pv 2)) (pg_name (i := 4) nd rfl (Or.inl rfl))
      (pss_cons (ps_expr (pe_appK (K := K) rfl (pv 3) (pe_op op_addS (pe_cd D_wall_start hr pass0 (pa_cons (pv 0) (pa_cons (pv 1) (pa_cons (pv 4) pa_nil)))) (pv 4))))
        (pss_one (ps_set (i := 1) nd rfl (Or.inl rfl) (pe_cd D_stepped hr pass0 (pa_cons (pv 0) (pa_cons (pv 1) (pa_cons (pv 4) pa_nil))))))))
      (pss_one (ps_ret (pe_cd D_in_order hr pass0 (pa_cons (pv 3) pa_nil)))))), ?_⟩
  refine s_start [some _, some _, some _, none, none] rfl ?_
  walk_at "go"
  intro D H1 hD s1 e1
  have la : (ascOf ls).length ≤ 1000 := by
    have h2 : (ascOf ls).length = ls.length := by rw [asc_self fl]
    omega
  have em : nameOf fn (m ++ u.take 0) = m := by
    rw [List.take_zero, List.append_nil]
    exact (is_NF ok).mpr nm
  walk_at "go"
  refine for_it (walk_tx u) (fun i σ H' => ∃ z, σ = [some (.ref x), some (.str (tx (nameOf fn (m ++ u.take i)))), some (.str (tx u)), some (.ref D), z] ∧ Same H H' ∧ H' D = some (.lst ((keyI fn m u i).map fun l => V.str (tx l)))) ⟨none, by rw [em]; rfl, s1, e1⟩ (fun _ _ _ _ _ => trivial) ?_ ?_
  · rintro i v σ H2 H3 hi ⟨z, rfl, s2, e2⟩ ⟨rfl, rfl⟩
    have hk : u.getD i 0 ∈ ls := mu _ (getD_in hi)
    have ma : ∀ y ∈ m ++ u.take i, y ∈ ls := fun y hy => (List.mem_append.mp hy).elim (mm y) fun z => mu y (List.mem_of_mem_take z)
    have ln : (nameOf fn (m ++ u.take i)).length ≤ (m ++ u.take i).length := name_len fn _
    rw [List.length_append, List.length_take] at ln
    have lst := start_len ok (nameOf fn (m ++ u.take i)) (u.getD i 0)
    have hka : u.getD i 0 ∈ ascOf ls := inAsc (a := [u.getD i 0]) fl.tab (by simpa using hk) _ (by simp)
    have l1 : (startC fn (nameOf fn (m ++ u.take i)) (u.getD i 0)).length + [u.getD i 0].length ≤ 1000000 := by
      rw [List.length_singleton]
      omega
    walk_at "go"
    refine ⟨x, _, _, _, _, rfl, hp.same s2, inAsc fl.tab (memN ma), hka, la, by omega, fun H4 s4 => ?_⟩
    rw [show startOf (ascOf ls) (tabPairs ls fn) (nameOf fn (m ++ u.take i)) (u.getD i 0) = startC fn (nameOf fn (m ++ u.take i)) (u.getD i 0) from start_tab fl ma hk]
    walk_at "go"
    have e4 := s4 _ _ e2
    have li : (keyI fn m u i).length = i := by unfold keyI; rw [List.length_map, List.length_range]
    refine v_app e4 (by rw [List.length_map, li]; omega) fun H5 k5 e5 => ?_
    have s5 : Same H H5 := fun b o hb => k5 _ _ (s4 _ _ (s2 _ _ hb)) (ne_of_none hb hD)
    walk_at "go"
    refine ⟨x, _, _, _, _, rfl, hp.same s5, hka, by omega, ?_⟩
    have e6 : stepOf (crossOf (ascOf ls) (tabPairs ls fn) (u.getD i 0)) (nameOf fn (m ++ u.take i)) (u.getD i 0) = nameOf fn (m ++ u.take (i + 1)) := by
      rw [stepOf_tab fl.tab hk (memN ma), take_getD hi, ← List.append_assoc]
      exact (joinC_app (cr := fn) [] (m ++ u.take i) [u.getD i 0]).symm
    rw [e6]
    refine ⟨_, rfl, s5, ?_⟩
    rw [e5]
    unfold keyI
    rw [List.range_succ, List.map_append, List.map_append]
    rfl
  rintro σ H2 ⟨z, rfl, s2, e2⟩
  walk_at "go"
  refine ⟨D, _, rfl, e2, fun l hl => ?_, ?_, fun keys p H3 hp3 s3 e3 r1 r2 => ?_⟩
  · obtain ⟨a, k, rfl, _, ha⟩ := key_ok ok mm mu (Nat.le_refl _) hl
    rw [List.length_append, List.length_singleton]
    omega
  · unfold keyI
    rw [List.length_map, List.length_range]
    omega
  · exact q keys p H3 (L2.Same.free s2 hp3) (s2.trans s3) e3 r1 r2
/-- rooms of one floor, their plans perhaps made apart -/
def spWallsBetween (C R O W : Addr) : Sp := fun vs H Q _ => ∃ (ra x : Addr) (a : List Nat) (rb y : Addr) (b : List Nat) (ls : List Nat) (fn : Nat → List Nat), vs = [.ref ra, .ref rb] ∧ RoomAt R H ra x a ∧ RoomAt R H rb y b ∧ PlanAt C H x (ascOf ls) (tabPairs ls fn) ∧ PlanAt C H y (ascOf ls) (tabPairs ls fn) ∧ Fl ls fn ∧ NF fn a ∧ NF fn b ∧ (∀ c ∈ a, c ∈ ls) ∧ (∀ c ∈ b, c ∈ ls) ∧ a.length ≤ 600 ∧ b.length ≤ 600 ∧
  ∀ (keys : List (List Nat)) p H', H p = none → Same H H' → WallsAt W R H' p x keys → keys.Perm (keyI fn a (wayC fn a b) (wayC fn a b).length) → keys.Pairwise shortLe → Q (.ref p) H'
theorem way_mem {ls : List Nat} {fn : Nat → List Nat} {m n : List Nat} (mm : ∀ y ∈ m, y ∈ ls) (mn : ∀ y ∈ n, y ∈ ls) : ∀ y ∈ wayC fn m n, y ∈ ls := fun y hy => by
  rcases List.mem_append.mp (name_mem hy) with z | z
  · exact mm y (List.mem_reverse.mp z)
  · exact mn y z
theorem way_le (f : Nat → List Nat) (m n : List Nat) : (wayC f m n).length ≤ m.length + n.length := by
  have h : (wayC f m n).length ≤ (m.reverse ++ n).length := name_len f _
  rw [List.length_append, List.length_reverse] at h
  exact h
theorem v_slInit {H : Hp} {Q : VK} {l : List Nat} {c : Nat} (hl : (l ++ [c]).length ≤ 1000000) (q : Q (.str (tx l)) H) : rSlS (.str (tx (l ++ [c]))) none (some (-1)) H Q := by
  refine ⟨tx (l ++ [c]), rfl, by rw [tx_len]; exact szl hl, ?_⟩
  have e : cutS (tx (l ++ [c])) none (some (-1)) = tx l := by
    have e1 : HT.sIx (tx (l ++ [c])).length (tx (l ++ [c])).length (some (-1)) = l.length := by
      show (if (-1 : Int) < 0 then ((-1 : Int) + ((tx (l ++ [c])).length : Int)).toNat else min (-1 : Int).toNat (tx (l ++ [c])).length) = _
      rw [if_pos (by decide), tx_len, List.length_append, List.length_singleton]
      omega
    unfold cutS
    rw [e1]
    show (⟨(((l ++ [c]).drop 0).take (l.length - 0)).toArray⟩ : Str) = _
    rw [List.drop_zero, Nat.sub_zero, List.take_left]
  rw [e]
  exact q
theorem atI_last {l : List Nat} {c : Nat} : atI (l ++ [c]) (-1) = some c := by
  unfold atI ixN
  rw [if_neg (by decide), if_pos (by rw [List.length_append, List.length_singleton]; omega)]
  show (l ++ [c])[((-1 : Int) + ((l ++ [c]).length : Nat)).toNat]? = _
  rw [List.length_append, List.length_singleton, show ((-1 : Int) + ((l.length + 1 : Nat) : Int)).toNat = l.length by omega, List.getElem?_append_right (Nat.le_refl _), Nat.sub_self]
  rfl
theorem splitA_none' {f : Nat → List Nat} (ok : CrOk f) : ∀ {w free : List Nat}, (∀ t ∈ free, ¬ desc f t w) → splitA f free w = ([], w)
  | [], _, _ => rfl
  | k :: r, free, h => by
    have hk : ¬ k ∈ free := fun z => h k z (.inl rfl)
    rw [splitA_no hk, splitA_none' ok fun t ht z => ?_]
    obtain ⟨h1, h2⟩ := List.mem_filter.mp ht
    exact h t h1 (.inr ⟨ok.sym _ _ (of_decide_eq_true h2), z⟩)
theorem start_self' {f : Nat → List Nat} (ok : CrOk f) {m : List Nat} {s : Nat} (h1 : ¬ desc f s m.reverse) (h2 : ∀ t ∈ f s, ¬ desc f t m.reverse) : startC f m s = m := by
  unfold startC nearC
  rw [if_neg h1, splitA_none' ok h2, List.reverse_reverse]
theorem refs_of {P : Addr → List Nat → Prop} : ∀ {keys : List (List Nat)} {vs : List V}, vs.length = keys.length → (∀ j v, vs[j]? = some v → ∃ a, v = V.ref a ∧ P a (keys.getD j [])) → ∃ As : List Addr, vs = As.map V.ref ∧ Paired P As keys
  | [], [], _, _ => ⟨[], rfl, .nil⟩
  | [], _ :: _, h, _ => by simp at h
  | _ :: _, [], h, _ => by simp at h
  | key :: keys, v :: vs, h, r => by
    obtain ⟨a, rfl, ha⟩ := r 0 v rfl
    obtain ⟨As, e, p⟩ := refs_of (keys := keys) (vs := vs) (by simpa using h) fun j u hj => r (j + 1) u hj
    exact ⟨a :: As, by rw [e]; rfl, .cons ha p⟩
theorem wall_lst {W R : Addr} {H H' : Hp} {a r x q : Addr} {k : Nat} {m : List Nat} {l : List V} (h : WallAt W R H a r x k m) (e0 : H q = some (.lst l)) (kp : Keep q H H') : WallAt W R H' a r x k m := by
  obtain ⟨⟨dx, e⟩, ro⟩ := h
  exact ⟨⟨dx, kp _ _ e (ne_of e e0 (by intro z; cases z))⟩, ro.lst e0 kp⟩
abbrev stwalls_between : Stmt := (top 40)
abbrev Nwalls_between : List Str := ["one", "other", "keys", "key"]
theorem scwalls_between : FnScope Nwalls_between ["one", "other"] (defScope stwalls_between) := ⟨rfl, rfl, rfl, by decide +kernel, rfl, by decide +kernel, by decide +kernel⟩

theorem ok_walls_between (F : FnAt K mg "walls_between" stwalls_between) (T : TxtW K mg C R O W) (D_wall_keys : Def P w K mg base CX0 5 "wall_keys" ["plan", "name", "way"] (spWallKeys C)) (M_Room_way_to : MDef P w K mg base CX0 5 R "way_to" ["self", "other"] (calmOf (spWayTo C R O))) (C_Room : CDef P w K mg base CX0 3 "Room" R (spRoom C R)) (C_Wall : CDef P w K mg base CX0 5 "Wall" W (spWall C R W)) : Def P w K mg base CX0 7 "walls_between" ["one", "other"] (spWallsBetween C R O W) := by
  refine F.ok scwalls_between (fun _ _ _ _ _ _ us hl => match us, hl with | [_, _], _ => rfl) (fun vs H Q E h => ?_) (fun f cdv A outer s H vs Q E hr h => ?_)
  · obtain ⟨ra, x, a, rb, y, b, ls, fn, rfl, _⟩ := h
    rfl
  obtain ⟨ra, x, a, rb, y, b, ls, fn, rfl, h1, h2, p1, p2, fl, na, nb, ma, mb, la, lb, q⟩ := h
  have hu := hu_of hr
  have nd := scwalls_between.nd
  have ok := fl.ok
  have tl := fl.tab.len
  replace D_wall_keys := D_wall_keys.mono (show 5 ≤ 6 by decide)
  replace M_Room_way_to := M_Room_way_to.mono (show 5 ≤ 6 by decide)
  replace C_Room := C_Room.mono (show 3 ≤ 5 by decide)
  refine ⟨_, (pss_cons (ps_set (i := 2) nd rfl (Or.inl rfl) (pe_cd D_wall_keys hr pass0 (pa_cons (pe_flK (K := K) rfl (pv 0) rfl) (pa_cons (pe_flK (K := K) rfl (pv 0) rfl) (pa_cons (pe_md M_Room_way_to T.Room.cl hr pass0 (pv 0) (pa_cons (pv 1) pa_nil)) pa_nil)))))
      (pss_one (ps_ret (pe_lc (own := [("key", 3)]) (g := gName 3) (by rfl) nd (pi_listK (K := K) rfl (pv 2)) (blkOk_by (own := [("key", 3)]) (N := Nwalls_between) (sc := defScope stwalls_between) (by decide +kernel)) (fun _ _ _ _ _ => (pg_name (i := 3) nd rfl (Or.inl rfl))) (fun _ _ _ _ _ => pts_nil) (fun _ _ _ _ _ => (pe_mk C_Wall hr pass0 (pa_cons (pe_mk C_Room hr pass0 (pa_cons (pe_flK (K := K) rfl (pv 0) rfl) (pa_cons (pe_slice sl_S (pv 3) po_none (po_some (pe_un un_neg pe_int))) pa_nil))) (pa_cons (pe_ix ix_str (pv 3) (pe_un un_neg pe_int) (fun _ _ => rfl)) pa_nil)))))))), ?_⟩
  refine s_start [some _, some _, none, none] rfl ?_
  obtain ⟨d1, f1⟩ := h1.ex
  have ps := pairsOf_small (ls.flatMap fun a => (fn a).map fun b => ascOf [a, b])
  have e1 : joinC fn [] a = a := (is_NF ok).mpr na
  have e2 : joinC fn [] b = b := (is_NF ok).mpr nb
  have ew : wayOf (ascOf ls) (tabPairs ls fn) a b = wayC fn a b := by
    have e := way_tab fl ma mb
    rw [e1, e2] at e
    exact e
  have wl := way_le fn a b
  walk_at "go"
  refine v_fld f1 T.Room.cl T.nPl roomF_p ?_
  walk_at "go"
  refine v_fld f1 T.Room.cl T.nNm roomF_n ?_
  walk_at "go"
  refine v_md f1 (roomF_no (by decide +kernel) (by decide +kernel)) ?_
  walk_at "go"
  refine ⟨ra, x, a, rb, y, b, true, _, _, rfl, ⟨h1, h2, ⟨_, _, _, _, p1, p2, ps, ps, (decide_eq_true ⟨rfl, rfl⟩).symm⟩, by omega, by omega⟩, p1, inAsc fl.tab ma, fun _ => inAsc fl.tab mb, fun _ => ?_, fun z => (nomatch z)⟩
  rw [ew]
  walk_at "go"
  refine ⟨x, ls, fn, a, wayC fn a b, rfl, p1, fl, na, ma, way_mem ma mb, by omega, by omega, fun keys kp H1 hk s1 ek r1 r2 => ?_⟩
  walk_at "go"
  have kl : keys.length ≤ 1200 := by
    rw [r1.length_eq]
    unfold keyI
    rw [List.length_map, List.length_range]
    omega
  refine lc_mapA (fun j v H' => ∃ a, v = .ref a ∧ ∃ r m k, keys.getD j [] = m ++ [k] ∧ WallAt W R H' a r x k m) walk_txs (fun H' s' => SqL.of (s' _ _ ek)) (by omega) ?_ ?_ ?_ ?_ ?_
  · rintro j v Ha Hb ⟨a, rfl, r, m, k, e, wa⟩ sb
    exact ⟨a, rfl, r, m, k, e, wa.same sb⟩
  · rintro j v Ha Hb D l ⟨a, rfl, r, m, k, e, wa⟩ eD kD
    exact ⟨a, rfl, r, m, k, e, wall_lst wa eD kD⟩
  · intro j hj Ha sa R' rr
    walk_at "go"
    exact rr Ha (Same.refl _)
  · intro j hj Ha sa R' rr
    have hm : keys.getD j [] ∈ keys := by
      rw [List.getD_eq_getElem?_getD, List.getElem?_eq_getElem hj]
      exact List.getElem_mem hj
    obtain ⟨m, k, e, ko, lm⟩ := key_ok ok ma (way_mem ma mb) (Nat.le_refl _) (r1.mem_iff.mp hm)
    rw [e]
    walk_at "go"
    refine v_fld (sa _ _ (s1 _ _ f1)) T.Room.cl T.nPl roomF_p ?_
    walk_at "go"
    refine ⟨1, rfl, ⟨-1, rfl, ?_⟩⟩
    refine v_slInit (l := m) (c := k) (by rw [List.length_append, List.length_singleton]; omega) ?_
    walk_at "go"
    refine sp_room fl ((p1.same s1).same sa) ko.mem (by omega) fun r Hb hrb sb rob => ?_
    walk_at "go"
    refine ⟨1, rfl, ?_⟩
    refine v_ixS (l := m ++ [k]) (by rw [List.length_append, List.length_singleton]; omega) atI_last ?_
    walk_at "go"
    refine sp_wall fl rob (((p1.same s1).same sa).same sb) ko.mem ko.hk (by omega) fun wl wr Hc hwl sc wa => ?_
    have em : joinC fn [] m = m := (is_NF ok).mpr ko.nf
    have es : startC fn m k = m := start_self' ok ko.td ko.fr
    rw [em, es] at wa
    exact rr _ Hc (sb.trans sc) ⟨wl, rfl, wr, m, k, e, wa⟩
  intro D H2 vs hD s2 e2 lv rel
  obtain ⟨As, rfl, pr⟩ := refs_of (P := fun a key => ∃ r m k, key = m ++ [k] ∧ WallAt W R H2 a r x k m) lv rel
  walk_at "go"
  exact q keys D H2 (L2.Same.free s1 hD) (s1.trans s2) ⟨As, e2, pr⟩ r1 r2
end
end
section
open PySem PySem.Spec L2
theorem units65 {k : Nat} {A : Around} (r : L2.Room k A) : A.units + 65 < cLine := by have := r.un; omega
def alongOf (ks : List Nat) (ps : List (List Nat)) (m : List Nat) (k : Nat) (n : List Nat) : List Nat := (splitA (crossOf ks ps) (crossOf ks ps k) (wayOf ks ps m n)).1
def crossQ (ks : List Nat) (ps : List (List Nat)) (m : List Nat) (k : Nat) (n : List Nat) (j : Nat) : Prop := j ∈ crossOf ks ps k ∧ startOf ks ps (joinOf ks ps m (alongOf ks ps m k n)) j = n
instance (ks : List Nat) (ps : List (List Nat)) (m : List Nat) (k : Nat) (n : List Nat) (j : Nat) : Decidable (crossQ ks ps m k n j) := inferInstanceAs (Decidable (_ ∧ _))
structure Walls2 (C R W : Addr) (H : Hp) (a r x : Addr) (k : Nat) (m : List Nat) (b r' y : Addr) (j : Nat) (n : List Nat) (ks : List Nat) (ps : List (List Nat)) : Prop where
  w1 : WallAt W R H a r x k m
  w2 : WallAt W R H b r' y j n
  p1 : PlanAt C H x ks ps
  p2 : PlanAt C H y ks ps
  ok : PsOk ps
  m1 : ∀ c ∈ m, c ∈ ks
  m2 : ∀ c ∈ n, c ∈ ks
  k1 : k ∈ ks
  k2 : j ∈ ks
  lk : ks.length ≤ 1000
  l1 : m.length ≤ 2000
  l2 : n.length ≤ 2000
theorem Walls2.same {C R W : Addr} {H H' : Hp} {a r x : Addr} {k : Nat} {m : List Nat} {b r' y : Addr} {j : Nat} {n : List Nat} {ks : List Nat} {ps : List (List Nat)} (h : Walls2 C R W H a r x k m b r' y j n ks ps) (s : Same H H') : Walls2 C R W H' a r x k m b r' y j n ks ps :=
  ⟨h.w1.same s, h.w2.same s, h.p1.same s, h.p2.same s, h.ok, h.m1, h.m2, h.k1, h.k2, h.lk, h.l1, h.l2⟩
def spCrosses (C R W : Addr) : Sp := fun vs H Q _ => ∃ (a r x : Addr) (k : Nat) (m : List Nat) (b r' y : Addr) (j : Nat) (n : List Nat) (ks : List Nat) (ps : List (List Nat)), vs = [.ref a, .ref b] ∧ Walls2 C R W H a r x k m b r' y j n ks ps ∧ ∀ H', Same H H' → Q (.bl (decide (crossQ ks ps m k n j))) H'
section
variable {P : Program} {w : World} {K : PySem.W.Frag} {mg : Str → Option Value} {base : Heap} {C R O W : Addr}
abbrev stWall_crosses : Stmt := (inClass (top 38) 3)
abbrev NWall_crosses : List Str := ["self", "other", "partners", "along", "rest", "nearest"]
theorem scWall_crosses : FnScope NWall_crosses ["self", "other"] (defScope stWall_crosses) := ⟨rfl, rfl, rfl, by decide +kernel, rfl, by decide +kernel, by decide +kernel⟩

theorem ok_Wall_crosses (F : MAt K W "crosses" "Wall.crosses" stWall_crosses) (T : TxtW K mg C R O W) (D_need_same : Def P w K mg base CX0 3 "need_same" ["plan", "other"] (calmOf (spNeedSame C O))) (D_way_from : Def P w K mg base CX0 4 "way_from" ["plan", "name", "goal"] (spWayFrom C)) (D_split_ahead : Def P w K mg base CX0 2 "split_ahead" ["plan", "way", "kinds"] (spSplit C)) (D_joined : Def P w K mg base CX0 2 "joined" ["plan", "name", "way"] (spJoined C)) (D_wall_start : Def P w K mg base CX0 4 "wall_start" ["plan", "name", "kind"] (spStart C)) : MDef P w K mg base CX0 5 W "crosses" ["self", "other"] (spCrosses C R W) := by
  refine F.ok scWall_crosses (fun _ _ _ _ _ _ us hl => match us, hl with | [_, _], _ => rfl) (fun vs H Q E h => ?_) (fun f cdv A outer s H vs Q E hr h => ?_)
  · obtain ⟨a, r, x, k, m, b, r', y, j, n, ks, ps, rfl, _⟩ := h
    rfl
  obtain ⟨a, r, x, k, m, b, r', y, j, n, ks, ps, rfl, h, q⟩ := h
  have hu := hu_of hr
  have nd := scWall_crosses.nd
  replace D_need_same := D_need_same.mono (show 3 ≤ 4 by decide)
  replace D_split_ahead := D_split_ahead.mono (show 2 ≤ 4 by decide)
  replace D_joined := D_joined.mono (show 2 ≤ 4 by decide)
  refine ⟨_, (pss_cons (ps_expr (pe_cd D_need_same hr pass0 (pa_cons (pe_flK (K := K) rfl (pv 0) rfl) (pa_cons (pe_flK (K := K) rfl (pv 1) rfl) pa_nil))))
      (pss_cons (ps_set (i := 2) nd rfl (Or.inl rfl) (pe_dget hu (pe_flK (K := K) rfl (pe_flK (K := K) rfl (pv 0) rfl) rfl) (pe_flK (K := K) rfl (pv 0) rfl) (fun _ _ => rfl)))
      (pss_cons (ps_if (pt_cmpR op_notInS (pe_flK (K := K) rfl (pv 1) rfl) (pv 2) (by rfl))
      (pss_one (ps_ret pe_bl))
      pss_nil)
      (pss_cons (ps_asg (pe_cd D_split_ahead hr pass0 (pa_cons (pe_flK (K := K) rfl (pv 0) rfl) (pa_cons (pe_cd D_way_from hr pass0 (pa_cons (pe_flK (K := K) rfl (pv 0) rfl) (pa_cons (pe_flK (K := K) rfl (pe_flK (K := K) rfl (pv 0) rfl) rfl) (pa_cons (pe_flK (K := K) rfl (pe_flK (K := K) rfl (pv 1) rfl) rfl) pa_nil)))) (pa_cons (pv 2) pa_nil)))) (pg_tup rfl (pgs_cons (pg_name (i := 3) nd rfl (Or.inl rfl)) (pgs_cons (pg_name (i := 4) nd rfl (Or.inl rfl)) pgs_nil))))
      (pss_cons (ps_set (i := 5) nd rfl (Or.inl rfl) (pe_cd D_joined hr pass0 (pa_cons (pe_flK (K := K) rfl (pv 0) rfl) (pa_cons (pe_flK (K := K) rfl (pe_flK (K := K) rfl (pv 0) rfl) rfl) (pa_cons (pv 3) pa_nil)))))
      (pss_one (ps_ret (pe_cmpR op_eq (pe_cd D_wall_start hr pass0 (pa_cons (pe_flK (K := K) rfl (pv 0) rfl) (pa_cons (pv 5) (pa_cons (pe_flK (K := K) rfl (pv 1) rfl) pa_nil)))) (pe_flK (K := K) rfl (pe_flK (K := K) rfl (pv 1) rfl) rfl) (nomark _))))))))), ?_⟩
  refine s_start [some _, some _, none, none, none, none] rfl ?_
  obtain ⟨dw, a1⟩ := h.w1.ex
  obtain ⟨dr, a2⟩ := h.w1.ro.ex
  obtain ⟨dw', b1⟩ := h.w2.ex
  obtain ⟨dr', b2⟩ := h.w2.ro.ex
  obtain ⟨dp, t, d, c1, c2, c3⟩ := h.p1.ex
  have l1 := h.l1
  have l2 := h.l2
  have lk := h.lk
  have wl := wayOf_len ks ps m n
  have sl := splitA_len (crossOf ks ps) (wayOf ks ps m n) (crossOf ks ps k)
  have wm : ∀ c ∈ wayOf ks ps m n, c ∈ ks := fun c hc => by
    unfold wayOf at hc
    rcases joinOf_mem hc with z | z
    · exact h.m1 c (backOf_mem z)
    · exact h.m2 c z
  have am : ∀ c ∈ alongOf ks ps m k n, c ∈ ks := fun c hc => wm c (splitA_mem1 _ _ _ c hc)
  have al : (alongOf ks ps m k n).length ≤ 4000 := by
    unfold alongOf
    omega
  have jl := joinOf_len ks ps (alongOf ks ps m k n) m
  walk_at "go"
  refine v_fld a1 T.Wall.cl T.nWp wallF_p ?_
  walk_at "go"
  refine v_fld b1 T.Wall.cl T.nWp wallF_p ?_
  walk_at "go"
  refine ⟨x, y, true, rfl, ⟨ks, ks, ps, ps, h.p1, h.p2, h.ok, h.ok, (decide_eq_true ⟨rfl, rfl⟩).symm⟩, fun _ => ?_, fun z => (nomatch z)⟩
  walk_at "go"
  refine v_fld a1 T.Wall.cl T.nWp wallF_p ?_
  walk_at "go"
  refine v_fld c1 T.Plan.cl T.nO planF_o ?_
  walk_at "go"
  refine v_fld a1 T.Wall.cl T.nWk wallF_k ?_
  walk_at "go"
  refine v_dget (dget_let (g := fun k => V.str (tx (crossOf ks ps k))) c3 h.k1) ?_
  walk_at "go"
  refine v_fld b1 T.Wall.cl T.nWk wallF_k ?_
  walk_at "go"
  refine if_ndec (fun z => ?_) (fun z => ?_)
  · walk_at "go"
    have := q H (Same.refl _)
    rw [decide_eq_false fun w : crossQ ks ps m k n j => z w.1] at this
    exact this
  walk_at "go"
  refine v_fld a1 T.Wall.cl T.nWp wallF_p ?_
  walk_at "go"
  refine v_fld a1 T.Wall.cl T.nWp wallF_p ?_
  walk_at "go"
  refine v_fld a1 T.Wall.cl T.nWr wallF_r ?_
  walk_at "go"
  refine v_fld a2 T.Room.cl T.nNm roomF_n ?_
  walk_at "go"
  refine v_fld b1 T.Wall.cl T.nWr wallF_r ?_
  walk_at "go"
  refine v_fld b2 T.Room.cl T.nNm roomF_n ?_
  walk_at "go"
  refine ⟨x, ks, ps, m, n, rfl, h.p1, h.m1, h.m2, by omega, by omega, ?_⟩
  walk_at "go"
  have cl : (crossOf ks ps k).length ≤ 1000 := Nat.le_trans (List.length_filter_le _ _) lk
  refine ⟨x, ks, ps, _, _, rfl, h.p1, wm, cl, by omega, fun p H2 hp s2 e2 => ?_⟩
  refine v_gTup2 rfl e2 ?_
  have h2 := h.same s2
  walk_at "go"
  refine v_fld (s2 _ _ a1) T.Wall.cl T.nWp wallF_p ?_
  walk_at "go"
  refine v_fld (s2 _ _ a1) T.Wall.cl T.nWr wallF_r ?_
  walk_at "go"
  refine v_fld (s2 _ _ a2) T.Room.cl T.nNm roomF_n ?_
  walk_at "go"
  refine ⟨x, ks, ps, m, alongOf ks ps m k n, rfl, h2.p1, am, by omega, ?_⟩
  walk_at "go"
  refine v_fld (s2 _ _ a1) T.Wall.cl T.nWp wallF_p ?_
  walk_at "go"
  refine v_fld (s2 _ _ b1) T.Wall.cl T.nWk wallF_k ?_
  walk_at "go"
  refine ⟨x, ks, ps, _, j, rfl, h2.p1, fun c hc => (joinOf_mem hc).elim (h.m1 c) (am c), h.k2, lk, by omega, fun H3 s3 => ?_⟩
  walk_at "go"
  refine v_fld (s3 _ _ (s2 _ _ b1)) T.Wall.cl T.nWr wallF_r ?_
  walk_at "go"
  refine v_fld (s3 _ _ (s2 _ _ b2)) T.Room.cl T.nNm roomF_n ?_
  walk_at "go"
  rw [dec_tx]
  have := q H3 (s2.trans s3)
  rw [show decide (crossQ ks ps m k n j) = decide (startOf ks ps (joinOf ks ps m (alongOf ks ps m k n)) j = n) from decide_eq_decide.mpr ⟨fun w => w.2, fun w => ⟨z, w⟩⟩] at this
  exact this
end
end
section
open PySem PySem.Spec L2
theorem sumL_snoc (v : Nat → Int) (z : Nat) : ∀ l : List Nat, sumL (l ++ [z]) v = sumL l v + v z
  | [] => by
    show v z + 0 = 0 + v z
    omega
  | x :: r => by
    show v x + sumL (r ++ [z]) v = v x + sumL r v + v z
    rw [sumL_snoc v z r]
    omega
theorem nd_getD {l : List Nat} (h : l.Nodup) {i j : Nat} (hi : i < l.length) (hj : j < l.length) (ne : i ≠ j) : l.getD i 0 ≠ l.getD j 0 := by
  rw [List.getD_eq_getElem?_getD, List.getElem?_eq_getElem hi, List.getD_eq_getElem?_getD, List.getElem?_eq_getElem hj]
  have h := List.pairwise_iff_getElem.mp h
  show l[i] ≠ l[j]
  rcases Nat.lt_or_gt_of_ne ne with z | z
  · exact h i j hi hj z
  · exact (h j i hj hi z).symm
theorem act_bound {f : Nat → List Nat} {g : Nat → Int} (hg : ∀ e, (g e).natAbs ≤ 1) : ∀ (w : List Nat) (e : Nat), (act f w g e).natAbs ≤ 3 ^ w.length
  | [], e => hg e
  | d :: r, e => by
    have h1 := act_bound (f := f) hg r e
    have h2 := act_bound (f := f) hg r d
    show (thr f d (act f r g) e).natAbs ≤ 3 ^ (r.length + 1)
    rw [Nat.pow_succ]
    unfold thr
    split
    · omega
    · split <;> omega
theorem log_bound {x n : Nat} (h : x ≤ 3 ^ n) : x.log2 ≤ 2 * n := by
  by_cases z : x = 0
  · rw [z]
    simp
  · have h2 : x < 2 ^ (2 * n + 1) := by
      have : (3 : Nat) ^ n ≤ 4 ^ n := Nat.pow_le_pow_left (by decide) n
      have e : (4 : Nat) ^ n = 2 ^ (2 * n) := by rw [Nat.pow_mul]
      have : (2 : Nat) ^ (2 * n) < 2 ^ (2 * n + 1) := Nat.pow_lt_pow_right (by decide) (by omega)
      omega
    have := (Nat.log2_lt z).mpr h2
    omega
theorem pos_log {f : Nat → List Nat} {ls w : List Nat} {s x : Nat} : (posM f ls w s x).natAbs.log2 ≤ 2 * w.length := by
  have h := act_bound (f := f) (g := unit x) (fun e => by unfold unit; split <;> decide) w.reverse s
  rw [List.length_reverse] at h
  refine log_bound ?_
  unfold posM
  split
  · show (- act f w.reverse (unit x) s).natAbs ≤ _
    omega
  · exact h
theorem gd' {l : List Nat} {m : Nat} (h : m < l.length) : l[m]? = some (l.getD m 0) := by
  rw [List.getD_eq_getElem?_getD, List.getElem?_eq_getElem h]
  rfl
theorem at_vec' {ls : List Nat} {v : Nat → Int} {i x : Nat} (h : ls[i]? = some x) : atI (vecV ls v) ((i : Nat) : Int) = some (V.int (v x)) := by
  refine atI_nat ?_
  unfold vecV
  rw [List.getElem?_map, h]
  rfl
def spProduct : Sp := fun vs H Q _ => ∃ (d p q : Addr) (ls : List Nat) (f : Nat → List Nat) (a b : Nat → Int), vs = [.ref d, .ref p, .ref q] ∧ H d = some (.dK (tabKV ls f)) ∧ Tab ls f ∧ CrOk f ∧ H p = some (.tup (vecV ls a)) ∧ H q = some (.tup (vecV ls b)) ∧ (∀ x ∈ ls, (a x).natAbs.log2 ≤ 1000) ∧ (∀ x ∈ ls, (b x).natAbs.log2 ≤ 1000) ∧ ∀ H', Same H H' → Q (.int (prodV f ls a b)) H'
section
variable {P : Program} {w : World} {K : PySem.W.Frag} {mg : Str → Option Value} {base : Heap} {C R O W : Addr}
abbrev stproduct : Stmt := (top 69)
abbrev Nproduct : List Str := ["_law_table", "_law_item", "_law_peer", "_law_letters", "_law_total", "_law_at", "_law_far"]
theorem scproduct : FnScope Nproduct ["_law_table", "_law_item", "_law_peer"] (defScope stproduct) := ⟨rfl, rfl, rfl, by decide +kernel, rfl, by decide +kernel, by decide +kernel⟩

theorem ok_product (F : FnAt K mg "_law_product" stproduct) (T : TxtV K mg) : Def P w K mg base CX0 1 "_law_product" ["_law_table", "_law_item", "_law_peer"] spProduct := by
  refine F.ok scproduct (fun _ _ _ _ _ _ us hl => match us, hl with | [_, _, _], _ => rfl) (fun vs H Q E h => ?_) (fun f cdv A outer s H vs Q E hr h => ?_)
  · obtain ⟨d, p, q, ls, fn, a, b, rfl, _⟩ := h
    rfl
  obtain ⟨d, p, q, ls, fn, a, b, rfl, hd, tab, ok, hp, hq, ba, bb, k⟩ := h
  have hu := hu_of hr
  have nd := scproduct.nd
  have tl := tab.len
  refine ⟨_, (pss_cons (ps_par (i := 3) (j := 4) (by rfl) nd rfl rfl (by decide) rfl rfl (pa_cons (pe_callTy (call_list_dK rfl) (by rfl) T.list (by decide +kernel) (pa_cons (pv 0) pa_nil)) (pa_cons pe_int pa_nil)) (by rfl))
      (pss_cons (ps_for PassesOwn.never rfl (pi_range1 (by rfl) T.range (pa_cons (pe_callB (c_lenK (K := K) rfl) (by rfl) T.len PySem.boot_len (pa_cons (pv 3) pa_nil)) pa_nil)) (pg_name (i := 5) nd rfl (Or.inl rfl))
      (pss_one (ps_for PassesOwn.never rfl (pi_range1 (by rfl) T.range (pa_cons (pe_callB (c_lenK (K := K) rfl) (by rfl) T.len PySem.boot_len (pa_cons (pv 3) pa_nil)) pa_nil)) (pg_name (i := 6) nd rfl (Or.inl rfl))
        (pss_one (ps_if (pt_cmpR op_eq (pv 5) (pv 6) (nomark _))
          (pss_one (ps_set (i := 4) nd rfl (Or.inl rfl) (pe_op op_add (pv 4) (pe_op op_mulW (pe_ix (ix_TK (K := K) rfl) (pv 1) (pv 5) (fun _ _ => rfl)) (pe_ix (ix_TK (K := K) rfl) (pv 2) (pv 6) (fun _ _ => rfl))))))
          (pss_one (ps_if (pt_cmpR op_notInS (pe_ix (ix_LK (K := K) rfl) (pv 3) (pv 6) (fun _ _ => rfl)) (pe_dget hu (pv 0) (pe_ix (ix_LK (K := K) rfl) (pv 3) (pv 5) (fun _ _ => rfl)) (fun _ _ => rfl)) (by rfl))
            (pss_one (ps_set (i := 4) nd rfl (Or.inl rfl) (pe_op op_sub (pv 4) (pe_op op_mulW (pe_ix (ix_TK (K := K) rfl) (pv 1) (pv 5) (fun _ _ => rfl)) (pe_ix (ix_TK (K := K) rfl) (pv 2) (pv 6) (fun _ _ => rfl))))))
            pss_nil)))))))
      (pss_one (ps_ret (pv 4))))), ?_⟩
  refine s_start [some _, some _, some _, none, none, none, none] rfl ?_
  walk_at "go"
  refine v_listD hd fun lt H1 hlt s1 e1 => ?_
  rw [tab_keys] at e1
  have ll : (ls.map fun c => V.str (tx [c])).length = ls.length := List.length_map _
  have d1 := s1 _ _ hd
  have p1 := s1 _ _ hp
  have q1 := s1 _ _ hq
  walk_at "go"
  refine for_it (walk_rI (fun i => ((i : Nat) : Int)) (fun k => Int.zero_add _)) (fun i σ H' => ∃ x5 x6, σ = [some (.ref d), some (.ref p), some (.ref q), some (.ref lt), some (.int (sumL (ls.take i) fun x => a x * sumL ls fun y => b y * bt fn y x)), x5, x6] ∧ H' = H1) ⟨_, _, rfl, rfl⟩ (fun _ _ _ _ _ => trivial) ?_ ?_
  · rintro i v σ H2 H3 hi ⟨x5, x6, rfl, rfl⟩ ⟨rfl, rfl⟩
    have hi : i < ls.length := by omega
    have hx := getD_mem hi
    have gi := gd' hi
    generalize hxx : ls.getD i 0 = x at hx gi
    generalize hT : (sumL (ls.take i) fun x => a x * sumL ls fun y => b y * bt fn y x) = T0
    walk_at "go"
    refine for_it (walk_rI (fun i => ((i : Nat) : Int)) (fun k => Int.zero_add _)) (fun j σ H' => ∃ x6, σ = [some (.ref d), some (.ref p), some (.ref q), some (.ref lt), some (.int (T0 + a x * sumL (ls.take j) fun y => b y * bt fn y x)), some (.int (i : Nat)), x6] ∧ H' = H3) ⟨_, by rw [List.take_zero]; show _ = [_, _, _, _, some (V.int (T0 + a x * 0)), _, _]; rw [Int.mul_zero, Int.add_zero]; rfl, rfl⟩ (fun _ _ _ _ _ => trivial) ?_ ?_
    · rintro j v σ H4 H5 hj ⟨x6, rfl, rfl⟩ ⟨rfl, rfl⟩
      have hj : j < ls.length := by omega
      have hy := getD_mem hj
      have gj := gd' hj
      have tk : sumL (ls.take (j + 1)) (fun y => b y * bt fn y x) = sumL (ls.take j) (fun y => b y * bt fn y x) + b (ls.getD j 0) * bt fn (ls.getD j 0) x := by rw [take_getD hj, sumL_snoc]
      have ne : i ≠ j → x ≠ ls.getD j 0 := fun z => hxx ▸ nd_getD tab.nd hi hj z
      have eqi : i = j → x = ls.getD j 0 := fun z => by rw [← hxx, z]
      generalize ls.getD j 0 = y at hy gj tk ne eqi
      have cm : CMulW (a x) (b y) := by
        have h1 := ba x hx
        have h2 := bb y hy
        show (a x).natAbs.log2 + (b y).natAbs.log2 < 1000000
        omega
      rw [tk]
      generalize sumL (ls.take j) (fun y => b y * bt fn y x) = S at *
      walk_at "go"
      refine if_dec (fun c => ?_) (fun c => ?_)
      · have c : i = j := by
          injection c with c
          omega
        have ex := eqi c
        walk_at "go"
        refine v_ixT p1 (at_vec' gi) ?_
        walk_at "go"
        refine v_ixT q1 (at_vec' gj) ?_
        walk_at "go"
        refine ⟨some (V.int ((j : Nat) : Int)), ?_, rfl⟩
        have e : T0 + a x * S + a x * b y = T0 + a x * (S + b y * bt fn y x) := by
          rw [← ex, bt_self, Int.mul_one, Int.mul_add]
          omega
        rw [e]
        rfl
      · have c : i ≠ j := fun z => c (by rw [z])
        have nxy := ne c
        walk_at "go"
        refine v_ixL e1 (atI_nat (by rw [List.getElem?_map, gj]; rfl)) ?_
        walk_at "go"
        refine v_ixL e1 (atI_nat (by rw [List.getElem?_map, gi]; rfl)) ?_
        walk_at "go"
        refine v_dget (tab_get d1 hx) ?_
        walk_at "go"
        refine if_ndec (fun c2 => ?_) (fun c2 => ?_)
        · walk_at "go"
          refine v_ixT p1 (at_vec' gi) ?_
          walk_at "go"
          refine v_ixT q1 (at_vec' gj) ?_
          walk_at "go"
          refine ⟨some (V.int ((j : Nat) : Int)), ?_, rfl⟩
          have e : T0 + a x * S - a x * b y = T0 + a x * (S + b y * bt fn y x) := by
            rw [bt_out nxy fun z => c2 (ok.sym _ _ z), Int.mul_add, Int.mul_neg, Int.mul_one, Int.mul_neg]
            omega
          rw [e]
          rfl
        · walk_at "go"
          refine ⟨some (V.int ((j : Nat) : Int)), ?_, rfl⟩
          have e : T0 + a x * S = T0 + a x * (S + b y * bt fn y x) := by
            rw [bt_in ok (ok.sym _ _ c2), Int.mul_zero, Int.add_zero]
          rw [← e]
          rfl
    · rintro σ H4 ⟨x6, rfl, rfl⟩
      refine ⟨some (V.int ((i : Nat) : Int)), x6, ?_, rfl⟩
      have e : sumL (ls.take (i + 1)) (fun x => a x * sumL ls fun y => b y * bt fn y x) = T0 + a x * sumL ls fun y => b y * bt fn y x := by
        rw [take_getD hi, sumL_snoc, hT, hxx]
      rw [e]
      have e2 : ls.take ((ls.map fun c => V.str (tx [c])).length : Int).toNat = ls := List.take_of_length_le (by omega)
      rw [e2]
  rintro σ H2 ⟨x5, x6, rfl, rfl⟩
  walk_at "go"
  have e2 : ls.take ((ls.map fun c => V.str (tx [c])).length : Int).toNat = ls := List.take_of_length_le (by omega)
  rw [e2]
  exact k H2 s1
end
end
section
open PySem PySem.Spec L2
section
variable {P : Program} {w : World} {K : PySem.W.Frag} {mg : Str → Option Value} {base : Heap} {C R O W : Addr}
end
/-! ### of a drawn floor -/
section
variable {K : PySem.W.Frag} {H : Hp} {Q : VK} {C R O W r x r' y : Addr} {a' b' : Addr} {ls : List Nat} {fn : Nat → List Nat} {m n : List Nat} {k j : Nat} {E : XK}
theorem firsts_iff (fl : Fl ls fn) {w : List Nat} (hw : ∀ c ∈ w, c ∈ ls) (hk : k ∈ ls) : k ∈ firstsOf (ascOf ls) (tabPairs ls fn) w ↔ desc fn k w := by
  unfold firstsOf
  rw [asc_self fl, List.mem_filter, decide_eq_true_iff, founds_congr (g := fn) fun j hj c hc => ?_, founds_mem fl.ok]
  · exact ⟨fun z => z.2.2, fun z => ⟨hk, hk, z⟩⟩
  · have := cross_tab fl.tab (hw j hj) hc
    rw [asc_self fl] at this
    exact this
theorem way_NF (fl : Fl ls fn) (h : W2 fn ls m k n j) : wayOf (ascOf ls) (tabPairs ls fn) m n = wayC fn m n := by
  have e1 : joinC fn [] m = m := (is_NF fl.ok).mpr h.m1
  have e2 : joinC fn [] n = n := (is_NF fl.ok).mpr h.n1
  have e := way_tab fl h.mm h.mn
  rw [e1, e2] at e
  exact e
theorem cross_iff (fl : Fl ls fn) (h : W2 fn ls m k n j) : crossQ (ascOf ls) (tabPairs ls fn) m k n j ↔ crossP fn m k n j := by
  have e1 : joinC fn [] m = m := (is_NF fl.ok).mpr h.m1
  have ea : alongOf (ascOf ls) (tabPairs ls fn) m k n = (splitA fn (fn k) (wayC fn m n)).1 := by
    unfold alongOf
    rw [way_NF fl h, splitA_congr (g := fn) (free' := fn k) (fun c hc => cross_tab fl.tab h.hs (h.mu c hc)) fun j hj c hc => cross_tab fl.tab (h.mu j hj) (h.mu c hc)]
  have al := splitA_mem1 fn (wayC fn m n) (fn k)
  unfold crossQ crossP
  rw [ea, cross_tab fl.tab h.hs h.ht]
  generalize (splitA fn (fn k) (wayC fn m n)).1 = al' at al
  have mal : ∀ c ∈ al', c ∈ ls := fun c hc => h.mu c (al c hc)
  have e2 : joinOf (ascOf ls) (tabPairs ls fn) m al' = joinC fn [] (m ++ al') := by
    rw [joinOf_tab fl.tab h.mm mal, joinC_app, e1]
  rw [e2, start_tab fl (fun c hc => (List.mem_append.mp hc).elim (h.mm c) (mal c)) h.ht]
theorem walls2 (fl : Fl ls fn) (h : W2 fn ls m k n j) (h1 : WallAt W R H a' r x k m) (h2 : WallAt W R H b' r' y j n) (pl : PlanAt C H x (ascOf ls) (tabPairs ls fn)) (pl' : PlanAt C H y (ascOf ls) (tabPairs ls fn)) (la : m.length ≤ 2000) (lb : n.length ≤ 2000) : Walls2 C R W H a' r x k m b' r' y j n (ascOf ls) (tabPairs ls fn) where
  w1 := h1
  w2 := h2
  p1 := pl
  p2 := pl'
  ok := pairsOf_small (ls.flatMap fun a => (fn a).map fun b => ascOf [a, b])
  m1 := inAsc fl.tab h.mm
  m2 := inAsc fl.tab h.mn
  k1 := inAsc (a := [k]) fl.tab (by simpa using h.hs) k (by simp)
  k2 := inAsc (a := [j]) fl.tab (by simpa using h.ht) j (by simp)
  lk := by
    have := fl.tab.len
    rw [asc_self fl]
    omega
  l1 := la
  l2 := lb
theorem sp_crosses (fl : Fl ls fn) (h : W2 fn ls m k n j) (h1 : WallAt W R H a' r x k m) (h2 : WallAt W R H b' r' y j n) (pl : PlanAt C H x (ascOf ls) (tabPairs ls fn)) (pl' : PlanAt C H y (ascOf ls) (tabPairs ls fn)) (la : m.length ≤ 2000) (lb : n.length ≤ 2000) (q : ∀ H', Same H H' → Q (.bl (decide (crossP fn m k n j))) H') : spCrosses C R W [.ref a', .ref b'] H Q E := by
  refine ⟨a', r, x, k, m, b', r', y, j, n, _, _, rfl, walls2 fl h h1 h2 pl pl' la lb, fun H' s' => ?_⟩
  rw [show decide (crossQ (ascOf ls) (tabPairs ls fn) m k n j) = decide (crossP fn m k n j) from decide_eq_decide.mpr (cross_iff fl h)]
  exact q H' s'
end
end
section
open PySem PySem.Spec L2
section
variable {ls : List Nat} {fn : Nat → List Nat} {m n : List Nat} {k j : Nat}
theorem firsts_sub (fl : Fl ls fn) {w : List Nat} (h : k ∈ firstsOf (ascOf ls) (tabPairs ls fn) w) : k ∈ ls := by
  unfold firstsOf at h
  rw [asc_self fl] at h
  exact (List.mem_filter.mp h).1
theorem firsts_nodup (fl : Fl ls fn) (w : List Nat) : (firstsOf (ascOf ls) (tabPairs ls fn) w).Nodup := by
  unfold firstsOf
  rw [asc_self fl]
  exact fl.tab.nd.sublist (List.filter_sublist)
theorem firsts_len (fl : Fl ls fn) (w : List Nat) : (firstsOf (ascOf ls) (tabPairs ls fn) w).length ≤ 1000 := by
  have h : (firstsOf (ascOf ls) (tabPairs ls fn) w).length ≤ (ascOf ls).length := List.length_filter_le _ _
  have h2 : (ascOf ls).length = ls.length := by rw [asc_self fl]
  have := fl.tab.len
  omega
/-- the kinds that are in front of both -/
def bothOf (ls : List Nat) (fn : Nat → List Nat) (u v : List Nat) : List Nat := (firstsOf (ascOf ls) (tabPairs ls fn) u).filter fun c => decide (c ∈ firstsOf (ascOf ls) (tabPairs ls fn) v)
theorem both_iff (fl : Fl ls fn) {u v : List Nat} (hu : ∀ c ∈ u, c ∈ ls) (hv : ∀ c ∈ v, c ∈ ls) : k ∈ bothOf ls fn u v ↔ k ∈ ls ∧ desc fn k u ∧ desc fn k v := by
  unfold bothOf
  rw [List.mem_filter, decide_eq_true_iff]
  constructor
  · rintro ⟨h1, h2⟩
    have hk := firsts_sub fl h1
    exact ⟨hk, (firsts_iff fl hu hk).mp h1, (firsts_iff fl hv hk).mp h2⟩
  · rintro ⟨hk, h1, h2⟩
    exact ⟨(firsts_iff fl hu hk).mpr h1, (firsts_iff fl hv hk).mpr h2⟩
theorem both_nodup (fl : Fl ls fn) (u v : List Nat) : (bothOf ls fn u v).Nodup := (firsts_nodup fl u).sublist (List.filter_sublist)
end
end
section
open PySem PySem.Spec L2
/-- a def that cuts the first such letter out of a text -/
structure CutDef (P : Program) (w : World) (K : PySem.W.Frag) (mg : Str → Option Value) (base : Heap) (k : Nat) : Prop where
  ex : ∃ f, mg "without_first" = some (.ref f) ∧ PySem.W.keepIn K (.ref f) = true ∧ CutRun P w K mg base CX0 k f
theorem CutRun.mono {P : Program} {w : World} {K : PySem.W.Frag} {mg : Str → Option Value} {base : Heap} {CX : CXT} {j k : Nat} {f : Addr} (R : CutRun P w K mg base CX j f) (h : j ≤ k) : CutRun P w K mg base CX k f := fun A outer s H p q c t u Q E hr => R A outer s H p q c t u Q E (hr.mono h)
theorem CutDef.mono {P : Program} {w : World} {K : PySem.W.Frag} {mg : Str → Option Value} {base : Heap} {j k : Nat} (R : CutDef P w K mg base j) (h : j ≤ k) : CutDef P w K mg base k := by
  obtain ⟨f, a, b, c⟩ := R.ex
  exact ⟨f, a, b, c.mono h⟩
def spInBoth : Sp := fun vs H Q _ => ∃ a b : List Nat, vs = [.str (tx a), .str (tx b)] ∧ a.length ≤ 1000 ∧ b.length ≤ 1000 ∧ ∀ H', Same H H' → Q (.str (tx (a.filter fun c => decide (c ∈ b)))) H'
def spShared (C : Addr) : Sp := fun vs H Q _ => ∃ (x : Addr) (ls : List Nat) (f : Nat → List Nat) (u v : List Nat), vs = [.ref x, .str (tx u), .str (tx v)] ∧ PlanAt C H x (ascOf ls) (tabPairs ls f) ∧ Fl ls f ∧ Red f u ∧ Red f v ∧ (∀ y ∈ u, y ∈ ls) ∧ (∀ y ∈ v, y ∈ ls) ∧ u.length ≤ 10000 ∧ v.length ≤ 10000 ∧
  ∀ fd u' v' H', Same H H' → Share f ls u v fd u' v' → (∀ t ∈ ls, ¬ (desc f t u' ∧ desc f t v')) → Q (.str (tx fd)) H'
section
variable {P : Program} {w : World} {K : PySem.W.Frag} {mg : Str → Option Value} {base : Heap} {C R O : Addr}
abbrev stwithout_first : Stmt := (top 19)
abbrev Nwithout_first : List Str := ["way", "kind"]
theorem scwithout_first : FnScope Nwithout_first ["way", "kind"] (defScope stwithout_first) := ⟨rfl, rfl, rfl, by decide +kernel, rfl, by decide +kernel, by decide +kernel⟩

theorem ok_without_first (F : FnAt K mg "without_first" stwithout_first) : CutDef P w K mg base 1 := by
  obtain ⟨f, fd, hm, F⟩ := F.ex
  exact ⟨f, hm, F.kp, cut_run F scwithout_first rfl rfl (fun _ _ _ _ _ _ us hl => match us, hl with | [_, _], _ => rfl) rfl rfl rfl rfl rfl⟩
abbrev stin_both : Stmt := (top 24)
abbrev Nin_both : List Str := ["kinds", "others", "kind"]
theorem scin_both : FnScope Nin_both ["kinds", "others"] (defScope stin_both) := ⟨rfl, rfl, rfl, by decide +kernel, rfl, by decide +kernel, by decide +kernel⟩

theorem ok_in_both (F : FnAt K mg "in_both" stin_both) : Def P w K mg base CX0 1 "in_both" ["kinds", "others"] spInBoth := by
  refine F.ok scin_both (fun _ _ _ _ _ _ us hl => match us, hl with | [_, _], _ => rfl) (fun vs H Q E h => ?_) (fun f cdv A outer s H vs Q E hr h => ?_)
  · obtain ⟨a, b, rfl, _⟩ := h
    rfl
  obtain ⟨a, b, rfl, la, lb, q⟩ := h
  have hu := hu_of hr
  have nd := scin_both.nd
  refine ⟨_, (pss_one (ps_ret (pe_joinK (K := K) rfl (pe_tx [] (by decide +kernel)) (pe_lc (own := [("kind", 2)]) (g := gName 2) (by rfl) nd (pi_str (pv 0)) (blkOk_by (own := [("kind", 2)]) (N := Nin_both) (sc := defScope stin_both) (by decide +kernel)) (fun _ _ _ _ _ => (pg_name (i := 2) nd rfl (Or.inl rfl))) (fun _ _ _ _ _ => (pts_one (pt_cmpR op_inS (pv 2) (pv 1) (by rfl)))) (fun _ _ _ _ _ => (pv 2)))))), ?_⟩
  refine s_start [some _, some _, none] rfl ?_
  walk_at "go"
  refine v_lcS (l := a) (b := fun c => decide (c ∈ b)) (f := fun c => V.str (tx [c])) (by omega) (fun c _ H1 s1 R r => ?_) (fun c _ _ H1 s1 R r => ?_) (fun D H1 hD s1 e1 => ?_)
  · walk_at "go"
    exact r H1 (Same.refl _)
  · walk_at "go"
    exact r H1 (Same.refl _)
  walk_at "go"
  rw [strs_ones] at e1
  have hl2 := filt_len (p := fun c => decide (c ∈ b)) (l := a)
  refine v_join e1 (by rw [flat_ones]; omega) ?_
  rw [flat_ones]
  exact q H1 s1
abbrev stshared_begin : Stmt := (top 22)
abbrev Nshared_begin : List Str := ["plan", "way", "other", "found", "both", "kind"]
theorem scshared_begin : FnScope Nshared_begin ["plan", "way", "other"] (defScope stshared_begin) := ⟨rfl, rfl, rfl, by decide +kernel, rfl, by decide +kernel, by decide +kernel⟩

theorem ok_shared_begin (F : FnAt K mg "shared_begin" stshared_begin) (D_without_first : CutDef P w K mg base 2) (D_in_both : Def P w K mg base CX0 1 "in_both" ["kinds", "others"] spInBoth) (D_first_kinds : Def P w K mg base CX0 2 "first_kinds" ["plan", "way"] (spFirst C)) : Def P w K mg base CX0 3 "shared_begin" ["plan", "way", "other"] (spShared C) := by
  refine F.ok scshared_begin (fun _ _ _ _ _ _ us hl => match us, hl with | [_, _, _], _ => rfl) (fun vs H Q E h => ?_) (fun f cdv A outer s H vs Q E hr h => ?_)
  · obtain ⟨x, ls, f, u, v, rfl, _⟩ := h
    rfl
  obtain ⟨x, ls, fn, u, v, rfl, hp, fl, ru, rv, mu, mv, lu, lv, q⟩ := h
  have hu := hu_of hr
  have nd := scshared_begin.nd
  have ok := fl.ok
  replace D_in_both := D_in_both.mono (show 1 ≤ 2 by decide)
  obtain ⟨fc, hm, hk, R⟩ := D_without_first.ex
  refine ⟨_, pss_str (i := 3) nd rfl (Or.inl rfl) (psst_cons (PST.of (ps_set (i := 4) nd rfl (Or.inl rfl) (pe_cd D_in_both hr pass0 (pa_cons (pe_cd D_first_kinds hr pass0 (pa_cons (pv 0) (pa_cons (pv 1) pa_nil))) (pa_cons (pe_cd D_first_kinds hr pass0 (pa_cons (pv 0) (pa_cons (pv 2) pa_nil))) pa_nil)))))
    (psst_cons (pst_while PassesOwn.never (pt_cmpR op_ne (pv 4) (pe_tx [] (by decide +kernel)) (nomark _))
      (psst_cons (pst_letters (ix := 5) PassesOwn.never rfl nd rfl rfl (pv 4)
          (psr_cat (ix := 5) (i := 3) (j := 3) nd rfl rfl rfl rfl rfl (Or.inl rfl) (by decide)
            (psr_cut (ix := 5) (i := 1) (j := 1) (E := E0) R hr pass0 rfl hm hk nd rfl rfl rfl rfl rfl (Or.inl rfl) (by decide)
              (psr_cut (ix := 5) (i := 2) (j := 2) (E := E0) R hr pass0 rfl hm hk nd rfl rfl rfl rfl rfl (Or.inl rfl) (by decide)
                (PSsR.of pss_nil)))))
        (PSsT.of (pss_one (ps_set (i := 4) nd rfl (Or.inl rfl) (pe_cd D_in_both hr pass0 (pa_cons (pe_cd D_first_kinds hr pass0 (pa_cons (pv 0) (pa_cons (pv 1) pa_nil))) (pa_cons (pe_cd D_first_kinds hr pass0 (pa_cons (pv 0) (pa_cons (pv 2) pa_nil))) pa_nil))))))))
    (PSsT.of (pss_one (ps_ret (pv 3)))))), ?_⟩
  refine s_start [some _, some _, some _, none, none, none] rfl ?_
  walk_at "go"
  rw [show Str.ofString "" = tx [] from rfl]
  have tl := fl.tab.len
  have la : (ascOf ls).length ≤ 1000 := by
    have h2 : (ascOf ls).length = ls.length := by rw [asc_self fl]
    omega
  refine ⟨x, _, _, u, rfl, hp, inAsc fl.tab mu, la, by omega, fun H1 s1 => ?_⟩
  walk_at "go"
  refine ⟨x, _, _, v, rfl, hp.same s1, inAsc fl.tab mv, la, by omega, fun H2 s2 => ?_⟩
  refine ⟨_, _, rfl, firsts_len fl u, firsts_len fl v, fun H3 s3 => ?_⟩
  walk_at "go"
  have s03 := (s1.trans s2).trans s3
  clear s1 s2 s3
  refine s_while (fun n σ H' => ∃ fd u' v' z, n = u'.length ∧ σ = [some (.ref x), some (.str (tx u')), some (.str (tx v')), some (.str (tx fd)), some (.str (tx (bothOf ls fn u' v'))), z] ∧ Same H H' ∧ Share fn ls u v fd u' v') u.length ⟨[], u, v, _, rfl, rfl, s03, Share.start ru rv mu mv⟩ ?_
  rintro n σ H4 ⟨fd, u', v', z, rfl, rfl, s4, sh⟩
  have lu' := sh.lu
  have lv' := sh.lv
  walk_at "go"
  rw [dec_tx]
  refine if_ndec (fun c => ?_) (fun c => ?_)
  · refine v_turn ?_
    walk_at "go"
    have bn := both_nodup fl u' v'
    have bi := fun k => both_iff (k := k) fl sh.mu sh.mv
    have bp : 0 < (bothOf ls fn u' v').length := by
      cases e : bothOf ls fn u' v' with
      | nil => exact absurd e c
      | cons => simp
    generalize bothOf ls fn u' v' = B at bn bi bp
    refine for_it (walk_tx B) (fun i σ H' => ∃ fd2 u2 v2 z, σ = [some (.ref x), some (.str (tx u2)), some (.str (tx v2)), some (.str (tx fd2)), some (.str (tx B)), z] ∧ H' = H4 ∧ Share fn ls u v fd2 u2 v2 ∧ u2.length + i = u'.length ∧ ∀ t ∈ B.drop i, desc fn t u2 ∧ desc fn t v2) ⟨fd, u', v', _, rfl, rfl, sh, rfl, fun t ht => ((bi t).mp ht).2⟩ (fun _ _ _ _ _ => trivial) ?_ ?_
    · rintro i vv σ H5 H6 hi ⟨fd2, u2, v2, z2, rfl, rfl, sh2, l2, h2⟩ ⟨rfl, rfl⟩
      have dr : B.drop i = B.getD i 0 :: B.drop (i + 1) := by
        rw [List.drop_eq_getElem_cons hi, List.getD_eq_getElem?_getD, List.getElem?_eq_getElem hi]
        rfl
      have hc : B.getD i 0 ∈ ls := ((bi _).mp (getD_mem hi)).1
      rw [dr] at h2
      have bn2 : (B.getD i 0 :: B.drop (i + 1)).Nodup := by
        rw [← dr]
        exact bn.sublist (List.drop_sublist _ _)
      generalize B.getD i 0 = c at hc h2 bn2
      obtain ⟨d1, d2⟩ := h2 c (List.mem_cons_self ..)
      obtain ⟨p1, q1, e1, hp1, r1⟩ := erase_desc ok d1
      obtain ⟨p2, q2, e2, hp2, r2⟩ := erase_desc ok d2
      have sh3 := sh2.step ok hc d1 d2
      have l3 := erase_len d1
      have lu2 := sh2.lu
      have lv2 := sh2.lv
      have la1 : fd2.length + [c].length ≤ 1000000 := by rw [List.length_singleton]; omega
      have np1 : ¬ c ∈ p1 := fun z => ok.irr c (hp1 c z)
      have np2 : ¬ c ∈ p2 := fun z => ok.irr c (hp2 c z)
      walk_at "go"
      refine ⟨p1, q1, c, by rw [e1]; rfl, rfl, np1, by rw [← e1]; omega, ?_⟩
      walk_at "go"
      refine ⟨p2, q2, c, by rw [e2]; rfl, rfl, np2, by rw [← e2]; omega, ?_⟩
      walk_at "go"
      refine ⟨fd2 ++ [c], u2.erase c, v2.erase c, some (V.str (tx [c])), ?_, rfl, sh3, by omega, fun t ht => ?_⟩
      · rw [r1, r2]
        rfl
      · have ne : c ≠ t := fun z => (List.nodup_cons.mp bn2).1 (z ▸ ht)
        obtain ⟨k1, k2⟩ := h2 t (List.mem_cons_of_mem _ ht)
        exact ⟨erase_keep ok d1 ne k1, erase_keep ok d2 ne k2⟩
    rintro σ H5 ⟨fd2, u2, v2, z2, rfl, rfl, sh2, l2, _⟩
    have lu2 := sh2.lu
    have lv2 := sh2.lv
    walk_at "go"
    refine ⟨x, _, _, u2, rfl, hp.same s4, inAsc fl.tab sh2.mu, la, by omega, fun H6 s6 => ?_⟩
    walk_at "go"
    refine ⟨x, _, _, v2, rfl, (hp.same s4).same s6, inAsc fl.tab sh2.mv, la, by omega, fun H7 s7 => ?_⟩
    refine ⟨_, _, rfl, firsts_len fl u2, firsts_len fl v2, fun H8 s8 => ?_⟩
    exact ⟨u2.length, by omega, fd2, u2, v2, z2, rfl, rfl, ((s4.trans s6).trans s7).trans s8, sh2⟩
  · walk_at "go"
    refine q fd u' v' H4 s4 sh fun t ht d => ?_
    have := (both_iff (k := t) fl sh.mu sh.mv).mpr ⟨ht, d⟩
    rw [c] at this
    cases this
end
end
section
open PySem PySem.Spec L2
def spMidName (C : Addr) : Sp := fun vs H Q _ => ∃ (x : Addr) (ls : List Nat) (f : Nat → List Nat) (a b c : List Nat), vs = [.ref x, .str (tx a), .str (tx b), .str (tx c)] ∧ PlanAt C H x (ascOf ls) (tabPairs ls f) ∧ Fl ls f ∧ NF f a ∧ NF f b ∧ NF f c ∧ (∀ y ∈ a, y ∈ ls) ∧ (∀ y ∈ b, y ∈ ls) ∧ (∀ y ∈ c, y ∈ ls) ∧ a.length ≤ 2000 ∧ b.length ≤ 2000 ∧ c.length ≤ 2000 ∧
  ∀ M H', Same H H' → MidX f ls a b c M → M.length ≤ 2 * a.length + b.length → Q (.str (tx M)) H'
/-- three rooms, each with whether its plan is the first one's -/
structure Rooms3 (C R : Addr) (H : Hp) (ra xa : Addr) (a : List Nat) (rb xb : Addr) (b : List Nat) (rc xc : Addr) (c : List Nat) (e2 e3 : Bool) : Prop where
  r1 : RoomAt R H ra xa a
  r2 : RoomAt R H rb xb b
  r3 : RoomAt R H rc xc c
  p2 : Plans2 C H xa xb e2
  p3 : Plans2 C H xa xc e3
section
variable {P : Program} {w : World} {K : PySem.W.Frag} {mg : Str → Option Value} {base : Heap} {C R O : Addr} {ls : List Nat} {fn : Nat → List Nat}
theorem way_NF' (fl : Fl ls fn) {m n : List Nat} (hm : NF fn m) (hn : NF fn n) (mm : ∀ y ∈ m, y ∈ ls) (mn : ∀ y ∈ n, y ∈ ls) : wayOf (ascOf ls) (tabPairs ls fn) m n = wayC fn m n := by
  have e1 : joinC fn [] m = m := (is_NF fl.ok).mpr hm
  have e2 : joinC fn [] n = n := (is_NF fl.ok).mpr hn
  have e := way_tab fl mm mn
  rw [e1, e2] at e
  exact e
abbrev stmiddle_name : Stmt := (top 42)
abbrev Nmiddle_name : List Str := ["plan", "one", "two", "three"]
theorem scmiddle_name : FnScope Nmiddle_name ["plan", "one", "two", "three"] (defScope stmiddle_name) := ⟨rfl, rfl, rfl, by decide +kernel, rfl, by decide +kernel, by decide +kernel⟩

theorem ok_middle_name (F : FnAt K mg "middle_name" stmiddle_name) (D_joined : Def P w K mg base CX0 2 "joined" ["plan", "name", "way"] (spJoined C)) (D_way_from : Def P w K mg base CX0 4 "way_from" ["plan", "name", "goal"] (spWayFrom C)) (D_shared_begin : Def P w K mg base CX0 3 "shared_begin" ["plan", "way", "other"] (spShared C)) : Def P w K mg base CX0 5 "middle_name" ["plan", "one", "two", "three"] (spMidName C) := by
  refine F.ok scmiddle_name (fun _ _ _ _ _ _ us hl => match us, hl with | [_, _, _, _], _ => rfl) (fun vs H Q E h => ?_) (fun f cdv A outer s H vs Q E hr h => ?_)
  · obtain ⟨x, ls, f, a, b, c, rfl, _⟩ := h
    rfl
  obtain ⟨x, ls, fn, a, b, c, rfl, hp, fl, na, nb, nc, ma, mb, mc, la, lb, lc, q⟩ := h
  have hu := hu_of hr
  have nd := scmiddle_name.nd
  have ok := fl.ok
  replace D_joined := D_joined.mono (show 2 ≤ 4 by decide)
  replace D_shared_begin := D_shared_begin.mono (show 3 ≤ 4 by decide)
  refine ⟨_, (pss_one (ps_ret (pe_cd D_joined hr pass0 (pa_cons (pv 0) (pa_cons (pv 1) (pa_cons (pe_cd D_shared_begin hr pass0 (pa_cons (pv 0) (pa_cons (pe_cd D_way_from hr pass0 (pa_cons (pv 0) (pa_cons (pv 1) (pa_cons (pv 2) pa_nil)))) (pa_cons (pe_cd D_way_from hr pass0 (pa_cons (pv 0) (pa_cons (pv 1) (pa_cons (pv 3) pa_nil)))) pa_nil)))) pa_nil)))))), ?_⟩
  refine s_start [some _, some _, some _, some _] rfl ?_
  have w1 := way_le fn a b
  have w2 := way_le fn a c
  walk_at "go"
  refine ⟨x, _, _, a, b, rfl, hp, inAsc fl.tab ma, inAsc fl.tab mb, by omega, by omega, ?_⟩
  rw [way_NF' fl na nb ma mb]
  walk_at "go"
  refine ⟨x, _, _, a, c, rfl, hp, inAsc fl.tab ma, inAsc fl.tab mc, by omega, by omega, ?_⟩
  rw [way_NF' fl na nc ma mc]
  walk_at "go"
  refine ⟨x, ls, fn, _, _, rfl, hp, fl, (name_NF ok _).red, (name_NF ok _).red, way_mem ma mb, way_mem ma mc, by omega, by omega, fun fd u' v' H1 s1 sh hd => ?_⟩
  have lu := sh.lu
  walk_at "go"
  refine ⟨x, _, _, a, fd, rfl, hp.same s1, inAsc fl.tab sh.mf, by omega, ?_⟩
  have e1 : joinC fn [] a = a := (is_NF ok).mpr na
  have e2 : joinOf (ascOf ls) (tabPairs ls fn) a fd = joinC fn [] (a ++ fd) := by rw [joinOf_tab fl.tab ma sh.mf, joinC_app, e1]
  rw [e2]
  have nl : (joinC fn [] (a ++ fd)).length ≤ (a ++ fd).length := name_len fn _
  have lM : (joinC fn [] (a ++ fd)).length ≤ 2 * a.length + b.length := by
    rw [List.length_append] at nl
    omega
  exact q _ H1 s1 (midx_of fl.tab.nd ok ma mb mc sh hd) lM
end
end
local macro_rules | `(tactic| walk_at "ro") => `(tactic| first | assumption | ((apply RoomAt.go (by assumption)); walk_at "ro"))
local macro_rules | `(tactic| walk_at "pl") => `(tactic| first | assumption | ((apply PlanAt.go (by assumption)); walk_at "pl"))
local macro_rules | `(tactic| walk_at "st2") => `(tactic| first
  | (walk_at "st")
  | ((with_reducible refine v_rnameG ?_); refine ⟨_, _, _, (by walk_at "ro"), (by assumption), (by assumption), ?_⟩)
  | ((with_reducible refine v_rplanG ?_); refine ⟨_, _, _, (by walk_at "ro"), (by assumption), (by assumption), ?_⟩)
  | ((with_reducible refine v_rlenG ?_); refine ⟨_, _, (by walk_at "ro"), (by omega), ?_⟩)
  | ((with_reducible refine v_reqG ?_); refine ⟨_, _, _, _, _, (by walk_at "ro"), (by walk_at "ro"), (by walk_at "pl"), (by assumption), (by omega), (by omega), ?_⟩)
  | ((with_reducible refine v_rneG ?_); refine ⟨_, _, _, _, _, (by walk_at "ro"), (by walk_at "ro"), (by walk_at "pl"), (by assumption), (by omega), (by omega), ?_⟩)
  | ((with_reducible refine v_reqTG ?_); refine ⟨_, _, (by walk_at "ro"), ?_⟩)
  | ((with_reducible refine v_peqG ?_); refine ⟨_, _, (by walk_at "pl"), (by assumption), ?_⟩)
  | (with_reducible refine if_nI rfl ?_)
  | (with_reducible refine if_I rfl ?_)
  | ((with_reducible refine v_mdRG ?_); refine ⟨_, _, (by walk_at "ro"), (by decide +kernel), ?_⟩)
  | (with_reducible refine s_asgL ?_) | (with_reducible refine e_MN ?_)
  | (with_reducible refine e_CN ?_) | (refine ⟨rfl, rfl, ?_⟩))
local macro_rules | `(tactic| walk_at "go2") => `(tactic| repeat walk_at "st2")
section
open PySem PySem.Spec L2
/-- two rooms of one floor, their plans perhaps made apart -/
structure Two (C R : Addr) (H : Hp) (ra x : Addr) (a : List Nat) (rb y : Addr) (b : List Nat) (ls : List Nat) (fn : Nat → List Nat) : Prop where
  r1 : RoomAt R H ra x a
  r2 : RoomAt R H rb y b
  p1 : PlanAt C H x (ascOf ls) (tabPairs ls fn)
  p2 : PlanAt C H y (ascOf ls) (tabPairs ls fn)
  fl : Fl ls fn
  na : NF fn a
  nb : NF fn b
  ma : ∀ c ∈ a, c ∈ ls
  mb : ∀ c ∈ b, c ∈ ls
  la : a.length ≤ 200
  lb : b.length ≤ 200
theorem Two.same {C R : Addr} {H H' : Hp} {ra x : Addr} {a : List Nat} {rb y : Addr} {b : List Nat} {ls : List Nat} {fn : Nat → List Nat} (h : Two C R H ra x a rb y b ls fn) (s : Same H H') : Two C R H' ra x a rb y b ls fn :=
  ⟨h.r1.same s, h.r2.same s, h.p1.same s, h.p2.same s, h.fl, h.na, h.nb, h.ma, h.mb, h.la, h.lb⟩
theorem Two.swap {C R : Addr} {H : Hp} {ra x : Addr} {a : List Nat} {rb y : Addr} {b : List Nat} {ls : List Nat} {fn : Nat → List Nat} (h : Two C R H ra x a rb y b ls fn) : Two C R H rb y b ra x a ls fn :=
  ⟨h.r2, h.r1, h.p2, h.p1, h.fl, h.nb, h.na, h.mb, h.ma, h.lb, h.la⟩
theorem Two.ps {C R : Addr} {H : Hp} {ra x : Addr} {a : List Nat} {rb y : Addr} {b : List Nat} {ls : List Nat} {fn : Nat → List Nat} (h : Two C R H ra x a rb y b ls fn) : PsOk (tabPairs ls fn) := pairsOf_small _
theorem pair_at {α β : Type} {R : α → β → Prop} : ∀ {xs : List α} {ys : List β}, Paired R xs ys → ∀ (i : Nat) (y : β), ys[i]? = some y → ∃ x, xs[i]? = some x ∧ R x y
  | _, _, .nil, i, y, h => by simp at h
  | _, _, .cons r _, 0, y, h => ⟨_, rfl, by injection h with h; exact h ▸ r⟩
  | _, _, .cons _ t, i + 1, y, h => pair_at t i y h
/-- a list of walls, gone through -/
theorem walk_walls {W R : Addr} {K : PySem.W.Frag} {H0 : Hp} {p x : Addr} {keys : List (List Nat)} (h : WallsAt W R H0 p x keys) : Walk (Itl K p) keys.length (fun H => Same H0 H) (fun i H v H' => H' = H ∧ ∃ a r m k, v = .ref a ∧ keys.getD i [] = m ++ [k] ∧ WallAt W R H0 a r x k m) := by
  obtain ⟨As, e, pr⟩ := h.ex
  have w := walk_list (K := K) (a := p) (xs := As.map V.ref)
  rw [List.length_map, paired_len pr] at w
  refine w.mono (fun H s => SqL.of (s _ _ e)) fun i H v H' hi _ y => ?_
  obtain ⟨rfl, ev⟩ := y
  obtain ⟨a, ha, r, m, k, ek, wa⟩ := pair_at pr i _ (List.getElem?_eq_getElem hi)
  rw [List.getElem?_map, ha] at ev
  injection ev with ev
  exact ⟨rfl, a, r, m, k, ev.symm, by rw [List.getD_eq_getElem?_getD, List.getElem?_eq_getElem hi]; exact ek, wa⟩
def spCommon (C R : Addr) : Sp := fun vs H Q _ => ∃ (ra x : Addr) (a : List Nat) (rb y : Addr) (b : List Nat) (ls : List Nat) (fn : Nat → List Nat), vs = [.ref ra, .ref rb] ∧ Two C R H ra x a rb y b ls fn ∧
  ∀ r H' M, H r = none → Same H H' → RoomAt R H' r x M → MidX fn ls [] a b M → M.length ≤ a.length → Q (.ref r) H'
def spUncrossed (C R W : Addr) : Sp := fun vs H Q _ => ∃ (p q x : Addr) (l1 l2 : List (List Nat)) (ls : List Nat) (fn : Nat → List Nat) (k1 k2 : List Nat), vs = [.ref p, .ref q] ∧ WallsAt W R H p x l1 ∧ WallsAt W R H q x l2 ∧ PlanAt C H x (ascOf ls) (tabPairs ls fn) ∧ Fl ls fn ∧ (∀ key ∈ l1 ++ l2, ∃ m k, key = m ++ [k] ∧ KeyOk fn ls m k ∧ m.length ≤ 2000) ∧ l1.length ≤ 100000 ∧ l2.length ≤ 100000 ∧
  firstA (apartK fn ls) l1 l2 = some (k1, k2) ∧ ∀ t H' w1 w2, Same H H' → H' t = some (.tup [.ref w1, .ref w2]) → (∃ r m k, k1 = m ++ [k] ∧ WallAt W R H' w1 r x k m) → (∃ r m k, k2 = m ++ [k] ∧ WallAt W R H' w2 r x k m) → Q (.ref t) H'
section
variable {P : Program} {w : World} {K : PySem.W.Frag} {mg : Str → Option Value} {base : Heap} {C R O W NB : Addr}
abbrev stcommon : Stmt := (top 43)
abbrev Ncommon : List Str := ["one", "other"]
theorem sccommon : FnScope Ncommon ["one", "other"] (defScope stcommon) := ⟨rfl, rfl, rfl, by decide +kernel, rfl, by decide +kernel, by decide +kernel⟩

theorem ok_common (F : FnAt K mg "common" stcommon) (T : TxtR K mg C R O) (D_need_same : Def P w K mg base CX0 3 "need_same" ["plan", "other"] (calmOf (spNeedSame C O))) (D_middle_name : Def P w K mg base CX0 5 "middle_name" ["plan", "one", "two", "three"] (spMidName C)) (C_Room : CDef P w K mg base CX0 3 "Room" R (spRoom C R)) : Def P w K mg base CX0 6 "common" ["one", "other"] (spCommon C R) := by
  refine F.ok sccommon (fun _ _ _ _ _ _ us hl => match us, hl with | [_, _], _ => rfl) (fun vs H Q E h => ?_) (fun f cdv A outer s H vs Q E hr h => ?_)
  · obtain ⟨ra, x, a, rb, y, b, ls, fn, rfl, _⟩ := h
    rfl
  obtain ⟨ra, x, a, rb, y, b, ls, fn, rfl, h, q⟩ := h
  have hu := hu_of hr
  have nd := sccommon.nd
  replace D_need_same := D_need_same.mono (show 3 ≤ 5 by decide)
  replace C_Room := C_Room.mono (show 3 ≤ 4 by decide)
  have la := h.la
  have lb := h.lb
  refine ⟨_, (pss_cons (ps_expr (pe_cd D_need_same hr pass0 (pa_cons (pe_flK (K := K) rfl (pv 0) rfl) (pa_cons (pe_flK (K := K) rfl (pv 1) rfl) pa_nil))))
      (pss_one (ps_ret (pe_mk C_Room hr pass0 (pa_cons (pe_flK (K := K) rfl (pv 0) rfl) (pa_cons (pe_cd D_middle_name hr pass0 (pa_cons (pe_flK (K := K) rfl (pv 0) rfl) (pa_cons (pe_tx [] (by decide +kernel)) (pa_cons (pe_flK (K := K) rfl (pv 0) rfl) (pa_cons (pe_flK (K := K) rfl (pv 1) rfl) pa_nil))))) pa_nil)))))), ?_⟩
  refine s_start [some _, some _] rfl ?_
  obtain ⟨d1, f1⟩ := h.r1.ex
  obtain ⟨d2, f2⟩ := h.r2.ex
  walk_at "go"
  refine v_fld f1 T.Room.cl T.nPl roomF_p ?_
  walk_at "go"
  refine v_fld f2 T.Room.cl T.nPl roomF_p ?_
  walk_at "go"
  refine ⟨x, y, true, rfl, ⟨_, _, _, _, h.p1, h.p2, h.ps, h.ps, (decide_eq_true ⟨rfl, rfl⟩).symm⟩, fun _ => ?_, fun z => nomatch z⟩
  walk_at "go"
  refine v_fld f1 T.Room.cl T.nPl roomF_p ?_
  walk_at "go"
  refine v_fld f1 T.Room.cl T.nPl roomF_p ?_
  walk_at "go"
  refine v_fld f1 T.Room.cl T.nNm roomF_n ?_
  walk_at "go"
  refine v_fld f2 T.Room.cl T.nNm roomF_n ?_
  walk_at "go"
  refine ⟨x, ls, fn, [], a, b, rfl, h.p1, h.fl, NF_nil, h.na, h.nb, (fun _ z => nomatch z), h.ma, h.mb, by decide, by omega, by omega, fun M H1 s1 md lM => ?_⟩
  have lM : M.length ≤ a.length := by simpa using lM
  have eM : joinC fn [] M = M := (is_NF h.fl.ok).mpr md.nf
  walk_at "go"
  refine sp_room h.fl (h.p1.same s1) md.mem (by omega) fun r H2 hr2 s2 ro => ?_
  rw [eM] at ro
  walk_at "go"
  exact q r H2 M (L2.Same.free s1 hr2) (s1.trans s2) ro md lM
abbrev stuncrossed : Stmt := (top 44)
abbrev Nuncrossed : List Str := ["walls", "others", "wall", "other"]
theorem scuncrossed : FnScope Nuncrossed ["walls", "others"] (defScope stuncrossed) := ⟨rfl, rfl, rfl, by decide +kernel, rfl, by decide +kernel, by decide +kernel⟩

theorem ok_uncrossed (F : FnAt K mg "uncrossed" stuncrossed) (T : TxtW K mg C R O W) (M_Wall_crosses : MDef P w K mg base CX0 5 W "crosses" ["self", "other"] (spCrosses C R W)) : Def P w K mg base CX0 6 "uncrossed" ["walls", "others"] (spUncrossed C R W) := by
  refine F.ok scuncrossed (fun _ _ _ _ _ _ us hl => match us, hl with | [_, _], _ => rfl) (fun vs H Q E h => ?_) (fun f cdv A outer s H vs Q E hr h => ?_)
  · obtain ⟨p, q, x, l1, l2, ls, fn, k1, k2, rfl, _⟩ := h
    rfl
  obtain ⟨p, q, x, l1, l2, ls, fn, k1, k2, rfl, w1, w2, pl, fl, ko, n1, n2, fa, k⟩ := h
  have hu := hu_of hr
  have nd := scuncrossed.nd
  refine ⟨_, (pss_cons (ps_for PassesOwn.never rfl (pi_listK (K := K) rfl (pv 0)) (pg_name (i := 2) nd rfl (Or.inl rfl))
      (pss_one (ps_for PassesOwn.never rfl (pi_listK (K := K) rfl (pv 1)) (pg_name (i := 3) nd rfl (Or.inl rfl))
        (pss_one (ps_if (pt_not (pt_val (pe_md M_Wall_crosses T.Wall.cl hr pass0 (pv 2) (pa_cons (pv 3) pa_nil))))
          (pss_one (ps_ret (pe_tup (pa_cons (pv 2) (pa_cons (pv 3) pa_nil)))))
          pss_nil)))))
      (pss_one (ps_ret (pe_tup (pa_cons pe_non (pa_cons pe_non pa_nil)))))), ?_⟩
  refine s_start [some _, some _, none, none] rfl ?_
  have mem : ∀ {l : List (List Nat)} {i : Nat}, i < l.length → l.getD i [] ∈ l := fun hi => by
    rw [List.getD_eq_getElem?_getD, List.getElem?_eq_getElem hi]
    exact List.getElem_mem hi
  have hn := fl.tab.nd
  have ok := fl.ok
  have inj : ∀ {m n : List Nat} {j j' : Nat}, m ++ [j] = n ++ [j'] → m = n ∧ j = j' := fun e => by
    have := List.append_inj' e rfl
    exact ⟨this.1, by simpa using this.2⟩
  obtain ⟨As, ea, pa⟩ := w1.ex
  obtain ⟨Bs, eb, pb⟩ := w2.ex
  walk_at "go"
  refine for_it (walk_walls w1) (fun i σ H' => ∃ x2 x3, σ = [some (.ref p), some (.ref q), x2, x3] ∧ Same H H' ∧ ∀ i', i' < i → ∀ b ∈ l2, ¬ apartK fn ls (l1.getD i' []) b) ⟨_, _, rfl, Same.refl _, fun _ h => absurd h (by omega)⟩ (fun i σ H' _ ⟨_, _, _, s, _⟩ => s) ?_ ?_
  · rintro i v σ H1 H2 hi ⟨x2, x3, rfl, s2, nA⟩ ⟨rfl, a, r, m, j, rfl, e1, wa⟩
    have eb2 := s2 _ _ eb
    walk_at "go"
    refine for_it (walk_walls w2) (fun i' σ H' => ∃ x3, σ = [some (.ref p), some (.ref q), some (.ref a), x3] ∧ Same H H' ∧ ∀ j', j' < i' → ¬ apartK fn ls (l1.getD i []) (l2.getD j' [])) ⟨_, rfl, s2, fun _ h => absurd h (by omega)⟩ (fun i σ H' _ ⟨_, _, s, _⟩ => s) ?_ ?_
    · rintro i2 v σ H3 H4 hi2 ⟨x3, rfl, s4, nB⟩ ⟨rfl, b, r', n, j', rfl, e2, wb⟩
      obtain ⟨m0, k0, f0, ko1, lm1⟩ := ko _ (List.mem_append_left _ (mem hi))
      rw [e1] at f0
      obtain ⟨rfl, rfl⟩ := inj f0
      obtain ⟨n0, k0, f0, ko2, lm2⟩ := ko _ (List.mem_append_right _ (mem hi2))
      rw [e2] at f0
      obtain ⟨rfl, rfl⟩ := inj f0
      have cr := apart_iff hn ok ko1 ko2
      have wa4 := wa.same s4
      have wb4 := wb.same s4
      obtain ⟨dx, f1⟩ := wa4.ex
      walk_at "go"
      refine v_md f1 (wallF_no (by decide +kernel) (by decide +kernel) (by decide +kernel)) ?_
      walk_at "go"
      refine sp_crosses fl (ko1.w2 hn ok ko2) wa4 wb4 (pl.same s4) (pl.same s4) lm1 lm2 fun H5 s5 => ?_
      walk_at "go"
      refine if_ndec (fun c => ?_) (fun c => ?_)
      · have fa2 := firstA_at (P := apartK fn ls) hi hi2 nA nB (by rw [e1, e2]; exact cr.mpr c)
        rw [fa] at fa2
        injection fa2 with fa2
        injection fa2 with g1 g2
        walk_at "go"
        intro t H6 ht s6 e6
        have s06 := (s4.trans s5).trans s6
        exact k t H6 a b s06 e6 ⟨r, m, j, by rw [g1, e1], wa.same s06⟩ ⟨r', n, j', by rw [g2, e2], wb.same s06⟩
      · walk_at "go"
        refine ⟨_, rfl, s4.trans s5, fun j2 hj2 => ?_⟩
        by_cases e : j2 < i2
        · exact nB j2 e
        · obtain rfl : j2 = i2 := by omega
          rw [e1, e2]
          exact fun z => (cr.mp z) c
    · rintro σ H3 ⟨x3, rfl, s3, nB⟩
      refine ⟨_, _, rfl, s3, fun i' hi' b hb => ?_⟩
      by_cases e : i' < i
      · exact nA i' e b hb
      · obtain rfl : i' = i := by omega
        obtain ⟨j', hj', rfl⟩ := List.getElem_of_mem hb
        have := nB j' hj'
        rw [List.getD_eq_getElem?_getD (l := l2), List.getElem?_eq_getElem hj'] at this
        exact this
  · rintro σ H1 ⟨x2, x3, rfl, s1, nA⟩
    have fn0 : firstA (apartK fn ls) l1 l2 = none := firstA_none.mpr fun a ha b hb => by
      obtain ⟨i, hi, rfl⟩ := List.getElem_of_mem ha
      have := nA i hi b hb
      rw [List.getD_eq_getElem?_getD, List.getElem?_eq_getElem hi] at this
      exact this
    rw [fn0] at fa
    cases fa
end
end
section
open PySem PySem.Spec L2
theorem lc2_out {te0 t1 te : TE} {tt tt1 : TT} {g g1 : TG} {vs vs1 : List Nat} {σ : L2.St} {H : Hp} {Q : VK} {la : List Nat} (h : ∀ R : VK, R (.str (tx la)) H → te0 σ H R) (q : tLc2 (iStr (tC (.str (tx la)))) g tt (iStr t1) g1 tt1 te vs vs1 σ H Q) : tLc2 (iStr te0) g tt (iStr t1) g1 tt1 te vs vs1 σ H Q := h _ q
theorem flatMap_congr2 {α β : Type} {f g : α → List β} : ∀ {l : List α}, (∀ a ∈ l, f a = g a) → l.flatMap f = l.flatMap g
  | [], _ => rfl
  | a :: r, h => by rw [List.flatMap_cons, List.flatMap_cons, h a (List.mem_cons_self ..), flatMap_congr2 fun b hb => h b (List.mem_cons_of_mem _ hb)]
theorem e_mkO {C : Addr} {sp : Sp} {dvs : List V} {ta : TA} {σ : L2.St} {H : Hp} {Q : XK} (q : ta σ H fun vs H1 => vs.length ≤ 1000 ∧ ∀ a, H1 a = none → sp (.ref a :: (vs ++ dvs)) (upd H1 a (exo a C none))
  (fun v H2 => v = .non ∧ ∃ (d : Addr) (fs : List (Str × V)), H2 a = some (exo a C (some d)) ∧ H2 d = some (exd d fs) ∧ H1 d = none ∧ Q (.ref C) (some d) (upd (del H2 a) d (.xd fs))) (fun _ _ _ => False)) : tMkO C sp dvs ta σ H Q := q
def allX (fn : Nat → List Nat) (u v : List Nat) : Prop := ∀ p ∈ u, ∀ q ∈ v, p ∈ fn q
instance (fn : Nat → List Nat) (u v : List Nat) : Decidable (allX fn u v) := inferInstanceAs (Decidable (∀ p ∈ u, ∀ q ∈ v, p ∈ fn q))
/-- a wall told by its key -/
def WallK (W R : Addr) (H : Hp) (x w : Addr) (key : List Nat) : Prop := ∃ r m k, key = m ++ [k] ∧ WallAt W R H w r x k m
def spBeyondBoth (C R W NB : Addr) : Sp := fun vs H Q E => ∃ (ra x : Addr) (a : List Nat) (rb y : Addr) (b : List Nat) (ls : List Nat) (fn : Nat → List Nat), vs = [.ref ra, .ref rb] ∧ Two C R H ra x a rb y b ls fn ∧
  ∀ M, MidX fn ls [] a b M → M.length ≤ a.length → (allX fn (wayC fn M a) (wayC fn M b) → ∀ r H', Same H H' → RoomAt R H' r x (nameOf fn (a ++ wayC fn M b)) → Q (.ref r) H') ∧
    ∀ l1 l2 k1 k2, l1.Perm (keyI fn M (wayC fn M a) (wayC fn M a).length) → l1.Pairwise shortLe → l2.Perm (keyI fn M (wayC fn M b) (wayC fn M b).length) → l2.Pairwise shortLe → firstA (apartK fn ls) l1 l2 = some (k1, k2) →
      ∀ H' d w1 w2, Same H H' → H' d = some (.xd [("other", .ref w2), ("one", .ref w1)]) → WallK W R H' x w1 k1 → WallK W R H' x w2 k2 → E (.ref NB) (some d) H'
structure TxtQ (K : PySem.W.Frag) (mg : Str → Option Value) (C R O W : Addr) : Prop extends TxtW K mg C R O W where
  Room_sf : PySem.W.selfFirst K R = true
section
variable {P : Program} {w : World} {K : PySem.W.Frag} {mg : Str → Option Value} {base : Heap} {C R O W NB : Addr}
abbrev stbb : Stmt := (top 45)
abbrev Nbb : List Str := ["one", "other", "start", "mine", "way", "first", "second", "step", "kind"]
theorem scbb : FnScope Nbb ["one", "other"] (defScope stbb) := ⟨rfl, rfl, rfl, by decide +kernel, rfl, by decide +kernel, by decide +kernel⟩

theorem ok_beyond_both (F : FnAt K mg "beyond_both" stbb) (T : TxtQ K mg C R O W) (X_NoneBeyond : XDef P w K mg base 1 "NoneBeyond" NB 2 (fun ws => [("other", ws.getD 1 .non), ("one", ws.getD 0 .non)])) (D_common : Def P w K mg base CX0 6 "common" ["one", "other"] (spCommon C R)) (D_uncrossed : Def P w K mg base CX0 6 "uncrossed" ["walls", "others"] (spUncrossed C R W)) (D_walls_between : Def P w K mg base CX0 7 "walls_between" ["one", "other"] (spWallsBetween C R O W)) (M_Room_way_to : MDef P w K mg base CX0 5 R "way_to" ["self", "other"] (calmOf (spWayTo C R O))) (M_Room_add : MDef P w K mg base CX0 5 R "__add__" ["self", "way"] (spRoomAdd C R)) : Def P w K mg base (L2N.CX P w) 8 "beyond_both" ["one", "other"] (spBeyondBoth C R W NB) := by
  refine F.okN scbb (fun _ _ _ _ _ _ us hl => match us, hl with | [_, _], _ => rfl) (fun vs H Q E h => ?_) (fun f cdv A outer s H vs Q E hr h => ?_)
  · obtain ⟨ra, x, a, rb, y, b, ls, fn, rfl, _⟩ := h
    rfl
  obtain ⟨ra, x, a, rb, y, b, ls, fn, rfl, h, k⟩ := h
  have hu := hu_of hr
  have nd := scbb.nd
  replace D_common := D_common.mono (show 6 ≤ 7 by decide)
  replace D_uncrossed := D_uncrossed.mono (show 6 ≤ 7 by decide)
  replace M_Room_way_to := M_Room_way_to.mono (show 5 ≤ 7 by decide)
  replace M_Room_add := M_Room_add.mono (show 5 ≤ 7 by decide)
  replace X_NoneBeyond := X_NoneBeyond.mono (show 1 ≤ 6 by decide)
  have la := h.la
  have lb := h.lb
  have fl := h.fl
  have ok := fl.ok
  have tab := fl.tab
  have hn := tab.nd
  refine ⟨_, (pss_cons (ps_set (i := 2) nd rfl (Or.inl rfl) (pe_cd D_common hr pass0 (pa_cons (pv 0) (pa_cons (pv 1) pa_nil))))
      (pss_cons (ps_set (i := 3) nd rfl (Or.inl rfl) (pe_md M_Room_way_to T.Room.cl hr pass0 (pv 2) (pa_cons (pv 0) pa_nil)))
      (pss_cons (ps_set (i := 4) nd rfl (Or.inr rfl) (pe_md M_Room_way_to T.Room.cl hr pass0 (pv 2) (pa_cons (pv 1) pa_nil)))
      (pss_cons (ps_if (pt_not (pt_val (pe_callB (c_allK (K := K) rfl rfl) (by rfl) T.all (by decide +kernel) (pa_cons (pe_lc2 (own := [("step", 7), ("kind", 8)]) (vs1 := [8]) (by rfl) nd (pi_str (pv 3)) (blkOk_by (own := [("step", 7), ("kind", 8)]) (N := Nbb) (sc := defScope stbb) (by decide +kernel)) (by decide) (fun _ _ _ _ _ => (pg_name (i := 7) nd rfl (Or.inl rfl))) (fun _ _ _ _ _ => pts_nil) (fun _ _ _ _ _ => (pi_str (pv 4))) (fun _ _ _ _ _ => (pg_name (i := 8) nd rfl (Or.inl rfl))) (fun _ _ _ _ _ => pts_nil) (fun _ _ _ _ _ => (pe_cmpR op_inS (pv 8) (pe_dget hu (pe_flK (K := K) rfl (pe_flK (K := K) rfl (pv 0) rfl) rfl) (pv 7) (fun _ _ => rfl)) (by rfl)))) pa_nil))))
      (pss_cons (ps_asg (pe_cd D_uncrossed hr pass0 (pa_cons (pe_cd D_walls_between hr pass0 (pa_cons (pv 2) (pa_cons (pv 0) pa_nil))) (pa_cons (pe_cd D_walls_between hr pass0 (pa_cons (pv 2) (pa_cons (pv 1) pa_nil))) pa_nil))) (pg_tup rfl (pgs_cons (pg_name (i := 5) nd rfl (Or.inl rfl)) (pgs_cons (pg_name (i := 6) nd rfl (Or.inl rfl)) pgs_nil))))
        (pss_one (L2N.ps_raise rfl (L2N.takes_of rfl rfl rfl rfl) (pmkN_E X_NoneBeyond hr (pa_cons (pv 5) (pa_cons (pv 6) pa_nil))))))
      pss_nil)
      (pss_one (ps_ret (pe_op (op_addM M_Room_add T.Room_sf hr pass0) (pv 0) (pv 4)))))))), ?_⟩
  refine s_start [some _, some _, none, none, none, none, none, none, none] rfl ?_
  walk_at "go"
  refine ⟨ra, x, a, rb, y, b, ls, fn, rfl, h, fun rs H1 M hrs s1 ros md lM => ?_⟩
  obtain ⟨ds, fs⟩ := ros.ex
  have h1 := h.same s1
  have ps := h.ps
  have eM : joinC fn [] M = M := (is_NF ok).mpr md.nf
  have ea : joinC fn [] a = a := (is_NF ok).mpr h.na
  have eb : joinC fn [] b = b := (is_NF ok).mpr h.nb
  have ew : wayOf (ascOf ls) (tabPairs ls fn) M a = wayC fn M a := by
    have e := way_tab fl md.mem h.ma
    rw [eM, ea] at e
    exact e
  have ew2 : wayOf (ascOf ls) (tabPairs ls fn) M b = wayC fn M b := by
    have e := way_tab fl md.mem h.mb
    rw [eM, eb] at e
    exact e
  have wl := way_le fn M a
  have wl2 := way_le fn M b
  have mu := way_mem (fn := fn) md.mem h.ma
  have mv := way_mem (fn := fn) md.mem h.mb
  obtain ⟨kq, ke⟩ := k M md lM
  walk_at "go"
  refine v_md fs (roomF_no (by decide +kernel) (by decide +kernel)) ?_
  walk_at "go"
  refine ⟨rs, x, M, ra, x, a, true, _, _, rfl, ⟨ros, h1.r1, ⟨_, _, _, _, h1.p1, h1.p1, ps, ps, (decide_eq_true ⟨rfl, rfl⟩).symm⟩, by omega, by omega⟩, h1.p1, inAsc tab md.mem, fun _ => inAsc tab h.ma, fun _ => ?_, fun z => (nomatch z)⟩
  rw [ew]
  walk_at "go"
  refine v_md fs (roomF_no (by decide +kernel) (by decide +kernel)) ?_
  walk_at "go"
  refine ⟨rs, x, M, rb, y, b, true, _, _, rfl, ⟨ros, h1.r2, ⟨_, _, _, _, h1.p1, h1.p2, ps, ps, (decide_eq_true ⟨rfl, rfl⟩).symm⟩, by omega, by omega⟩, h1.p1, inAsc tab md.mem, fun _ => inAsc tab h.mb, fun _ => ?_, fun z => (nomatch z)⟩
  rw [ew2]
  walk_at "go"
  generalize hu' : wayC fn M a = u at *
  generalize hv' : wayC fn M b = v at *
  have lu8 : u.length ≤ 400 := by omega
  have lv8 : v.length ≤ 400 := by omega
  obtain ⟨da, fa⟩ := h1.r1.ex
  obtain ⟨dx, tp, dd, a1, a2, a3⟩ := h1.p1.ex
  refine lc2_out (la := u) (fun R r => ?_) ?_
  · walk_at "go"
    exact r
  refine v_lc2S (la := u) (lb := v) (b := fun _ _ => true) (f := fun p q => V.bl (decide (q ∈ fn p))) (by decide) (Nat.lt_of_le_of_lt (Nat.mul_le_mul lu8 lv8) (by decide)) (fun c _ Ha sa R r => ?_) (fun c d _ _ Ha sa R r => ?_) (fun c d hc hd _ Ha sa R r => ?_) (fun D H2 hD s2 e2 => ?_)
  · walk_at "go"
    exact r
  · walk_at "go"
    exact r Ha (Same.refl _)
  · have hc' := mu c hc
    have hd' := mv d hd
    walk_at "go"
    refine v_fld (sa _ _ fa) T.Room.cl T.nPl roomF_p ?_
    walk_at "go"
    refine v_fld (sa _ _ a1) T.Plan.cl T.nO planF_o ?_
    walk_at "go"
    refine v_dget (dget_let (g := fun k => V.str (tx (crossOf (ascOf ls) (tabPairs ls fn) k))) (sa _ _ a3) (inAsc (a := [c]) tab (by simpa using hc') c (by simp))) ?_
    walk_at "go"
    have e : decide (d ∈ crossOf (ascOf ls) (tabPairs ls fn) c) = decide (d ∈ fn c) := decide_eq_decide.mpr (cross_tab tab hc' hd')
    rw [e]
    exact r Ha (Same.refl _)
  have e2 : H2 D = some (.lst ((u.flatMap fun p => v.map fun q => decide (q ∈ fn p)).map V.bl)) := by
    rw [e2, List.map_flatMap]
    congr 2
    refine flatMap_congr2 fun c _ => ?_
    rw [filter_yes, List.map_map]
    rfl
  have all0 : (u.flatMap fun p => v.map fun q => decide (q ∈ fn p)).all id = decide (allX fn u v) := by
    rw [Bool.eq_iff_iff, List.all_eq_true, decide_eq_true_iff]
    unfold allX
    constructor
    · intro z p hp q hq
      exact ok.sym _ _ (of_decide_eq_true (z _ (List.mem_flatMap.mpr ⟨p, hp, List.mem_map.mpr ⟨q, hq, rfl⟩⟩)))
    · intro z x hx
      obtain ⟨p, hp, hx⟩ := List.mem_flatMap.mp hx
      obtain ⟨q, hq, rfl⟩ := List.mem_map.mp hx
      exact decide_eq_true (ok.sym _ _ (z p hp q hq))
  walk_at "go"
  refine v_all e2 ?_
  rw [all0]
  have h2 := h1.same s2
  have ro2 := ros.same s2
  walk_at "go"
  refine if_ndec (fun c => ?_) (fun c => ?_)
  · walk_at "go"
    refine ⟨rs, x, M, ra, x, a, ls, fn, rfl, ro2, h2.r1, h2.p1, h2.p1, fl, md.nf, h.na, md.mem, h.ma, by omega, by omega, fun l1 p1 H3 hp1 s3 w1 pm1 pw1 => ?_⟩
    rw [hu'] at pm1
    walk_at "go"
    refine ⟨rs, x, M, rb, y, b, ls, fn, rfl, ro2.same s3, h2.r2.same s3, h2.p1.same s3, h2.p2.same s3, fl, md.nf, h.nb, md.mem, h.mb, by omega, by omega, fun l2 p2 H4 hp2 s4 w2 pm2 pw2 => ?_⟩
    rw [hv'] at pm2
    have kl : ∀ {l w : List (List Nat)}, l.Perm w → w.length ≤ 400 → l.length ≤ 100000 := fun p q => by rw [p.length_eq]; omega
    have k1l : (keyI fn M u u.length).length ≤ 400 := by rw [keyI_len]; exact lu8
    have k2l : (keyI fn M v v.length).length ≤ 400 := by rw [keyI_len]; exact lv8
    have ko : ∀ key ∈ l1 ++ l2, ∃ m k, key = m ++ [k] ∧ KeyOk fn ls m k ∧ m.length ≤ 2000 := fun key hk => by
      rcases List.mem_append.mp hk with z | z
      · obtain ⟨m, k, e, g, l⟩ := key_ok ok md.mem mu (Nat.le_refl _) (pm1.mem_iff.mp z)
        exact ⟨m, k, e, g, by omega⟩
      · obtain ⟨m, k, e, g, l⟩ := key_ok ok md.mem mv (Nat.le_refl _) (pm2.mem_iff.mp z)
        exact ⟨m, k, e, g, by omega⟩
    obtain ⟨⟨k1, k2⟩, fa1⟩ : ∃ z, firstA (apartK fn ls) l1 l2 = some z := by
      cases hf : firstA (apartK fn ls) l1 l2 with
      | some z => exact ⟨z, rfl⟩
      | none =>
        refine absurd ((keys_cross hn ok md.mem mu mv).mp fun p hp q hq => ?_) c
        exact firstA_none.mp hf p (pm1.mem_iff.mpr hp) q (pm2.mem_iff.mpr hq)
    walk_at "go"
    refine ⟨p1, p2, x, l1, l2, ls, fn, k1, k2, rfl, w1.same s4, w2, (h2.p1.same s3).same s4, fl, ko, kl pm1 k1l, kl pm2 k2l, fa1, fun t H5 q1 q2 s5 e5 wk1 wk2 => ?_⟩
    refine v_gTup2 rfl e5 ?_
    walk_at "go"
    refine (e_mkO ?_ : tMkO NB (spE NB 2 (fun ws => [("other", ws.getD 1 .non), ("one", ws.getD 0 .non)])) [] (tCons (tVar 5) (tCons (tVar 6) tNil)) _ H5 fun cls d H' => E cls d H')
    walk_at "go"
    refine v_mkE (n := 2) (ws := [.ref q1, .ref q2]) rfl (by decide) fun d hd => ?_
    have s6 : Same H5 (upd H5 d (.xd [("other", .ref q2), ("one", .ref q1)])) := Same.new hd
    have s16 := (((s1.trans s2).trans s3).trans s4).trans (s5.trans s6)
    obtain ⟨r1, m1, j1, g1, wa1⟩ := wk1
    obtain ⟨r2, m2, j2, g2, wa2⟩ := wk2
    exact ke l1 l2 k1 k2 pm1 pw1 pm2 pw2 fa1 _ d q1 q2 s16 upd_same ⟨r1, m1, j1, g1, wa1.same s6⟩ ⟨r2, m2, j2, g2, wa2.same s6⟩
  · walk_at "go"
    have roa : RoomAt R H2 ra x (joinC fn [] a) := by rw [ea]; exact h2.r1
    refine v_add fl roa h2.p1 h.ma mv (by omega) (by omega) fun r' H3 hr' s3 ro3 => ?_
    exact kq c r' H3 ((s1.trans s2).trans s3) ro3
end
end
section
open PySem PySem.Spec L2
def spNearest : Sp := fun vs H Q _ => ∃ (d : Addr) (ls : List Nat) (f : Nat → List Nat) (w : List Nat) (s : Nat), vs = [.ref d, .str (tx w), .str (tx [s])] ∧ H d = some (.dK (tabKV ls f)) ∧ Fl ls f ∧ (∀ c ∈ w, c ∈ ls) ∧ s ∈ ls ∧ w.length ≤ 2000 ∧ ∀ H', Same H H' → Q (.str (tx (startC f (nameOf f w) s))) H'
def bkN (ls : List Nat) (f : Nat → List Nat) (s : Nat) (w : List Nat) : List Nat := (backs ls (fun c x => act f w.reverse (unit x) c)).filter fun c => decide (c = s ∨ c ∈ f s)
theorem bkN_mem {ls : List Nat} {f : Nat → List Nat} (ok : CrOk f) {s : Nat} {w : List Nat} (mw : ∀ y ∈ w, y ∈ ls) {c : Nat} : c ∈ bkN ls f s w ↔ c ∈ ls ∧ desc f c (nameOf f w).reverse ∧ (c = s ∨ c ∈ f s) := by
  unfold bkN backs
  rw [backs_desc ok mw, List.mem_filter, List.mem_filter, decide_eq_true_iff, decide_eq_true_iff, and_assoc]
section
variable {P : Program} {w : World} {K : PySem.W.Frag} {mg : Str → Option Value} {base : Heap} {C R O W NB : Addr}
abbrev stnearest : Stmt := (top 71)
abbrev Nnearest : List Str := ["_law_table", "_law_walk_here", "_law_door", "_law_marks_here", "_law_found", "_law_backs_here", "_law_item"]
theorem scnearest : FnScope Nnearest ["_law_table", "_law_walk_here", "_law_door"] (defScope stnearest) := ⟨rfl, rfl, rfl, by decide +kernel, rfl, by decide +kernel, by decide +kernel⟩

theorem ok_nearest (F : FnAt K mg "_law_nearest" stnearest) (D_marks : Def P w K mg base CX0 2 "_law_marks" ["_law_table", "_law_walk_here"] spMarks) (D_through : Def P w K mg base CX0 1 "_law_through" ["_law_table", "_law_marks_here", "_law_door"] spThrough) (D_backs : Def P w K mg base CX0 1 "_law_backs" ["_law_marks_here"] spBacks) (D_name : Def P w K mg base CX0 3 "_law_name" ["_law_table", "_law_walk_here"] spName) : Def P w K mg base CX0 4 "_law_nearest" ["_law_table", "_law_walk_here", "_law_door"] spNearest := by
  refine F.ok scnearest (fun _ _ _ _ _ _ us hl => match us, hl with | [_, _, _], _ => rfl) (fun vs H Q E h => ?_) (fun f cdv A outer s H vs Q E hr h => ?_)
  · obtain ⟨d, ls, f, w, s, rfl, _⟩ := h
    rfl
  obtain ⟨d, ls, fn, wk, dr, rfl, hd, fl, hw, hs, lw, k⟩ := h
  have hu := hu_of hr
  have nd := scnearest.nd
  have tab := fl.tab
  have ok := fl.ok
  have tl := tab.len
  have hn := tab.nd
  replace D_marks := D_marks.mono (show 2 ≤ 3 by decide)
  replace D_through := D_through.mono (show 1 ≤ 3 by decide)
  replace D_backs := D_backs.mono (show 1 ≤ 3 by decide)
  have ldr := tab.gl dr hs
  refine ⟨_, (pss_cons (ps_par (i := 3) (j := 4) (by rfl) nd rfl rfl (by decide) rfl rfl (pa_cons (pe_cd D_marks hr pass0 (pa_cons (pv 0) (pa_cons (pv 1) pa_nil))) (pa_cons (pv 1) pa_nil)) (by rfl))
      (pss_cons (ps_setLc (i := 5) (own := [("_law_item", 6)]) (g := gName 6) (by rfl) nd rfl rfl (sw_true rfl rfl rfl (by decide +kernel)) (pi_listK (K := K) rfl (pe_cd D_backs hr pass0 (pa_cons (pv 3) pa_nil))) (blkOk_by (own := [("_law_item", 6)]) (N := Nnearest) (sc := defScope stnearest) (by decide +kernel)) (fun _ _ _ _ _ => (pg_name (i := 6) nd rfl (Or.inl rfl))) (fun _ _ _ _ _ => (pts_one (PW.pt (pw_or (pt_cmpR op_eq (pv 6) (pv 2) (nomark _)) (pw_or1 (pt_cmpR op_inS (pv 6) (pe_dget hu (pv 0) (pv 2) (fun _ _ => rfl)) (by rfl))))))) (fun _ _ _ _ _ => (pv 6)))
      (pss_cutS (ps_while PassesOwn.never (pt_cmpR (op_neDK (K := K) rfl hr.units) (pv 5) (pe_lst pa_nil) (nomark _))
      (pss_cons (ps_par (i := 4) (j := 3) (by rfl) nd rfl rfl (by decide) rfl rfl (pa_cons (pe_op op_addS (pv 4) (pe_ix (ix_LK (K := K) rfl) (pv 5) pe_int (fun _ _ => rfl))) (pa_cons (pe_cd D_through hr pass0 (pa_cons (pv 0) (pa_cons (pv 3) (pa_cons (pe_ix (ix_LK (K := K) rfl) (pv 5) pe_int (fun _ _ => rfl)) pa_nil)))) pa_nil)) (by rfl))
        (pss_one (ps_setLc (i := 5) (own := [("_law_item", 6)]) (g := gName 6) (by rfl) nd rfl rfl (sw_true rfl rfl rfl (by decide +kernel)) (pi_listK (K := K) rfl (pe_cd D_backs hr pass0 (pa_cons (pv 3) pa_nil))) (blkOk_by (own := [("_law_item", 6)]) (N := Nnearest) (sc := defScope stnearest) (by decide +kernel)) (fun _ _ _ _ _ => (pg_name (i := 6) nd rfl (Or.inl rfl))) (fun _ _ _ _ _ => (pts_one (PW.pt (pw_or (pt_cmpR op_eq (pv 6) (pv 2) (nomark _)) (pw_or1 (pt_cmpR op_inS (pv 6) (pe_dget hu (pv 0) (pv 2) (fun _ _ => rfl)) (by rfl))))))) (fun _ _ _ _ _ => (pv 6))))))
      (pss_one (ps_ret (pe_cd D_name hr pass0 (pa_cons (pv 0) (pa_cons (pv 4) pa_nil)))))))), ?_⟩
  refine s_start [some _, some _, some _, none, none, none, none] rfl ?_
  walk_at "go"
  refine ⟨d, ls, fn, _, rfl, hd, tab, hw, fun m H1 m1 s1 => ?_⟩
  walk_at "go"
  refine ⟨m, ls, _, rfl, m1, tl, fun l H2 e2 s2 => ?_⟩
  have hd2 := s2 _ _ (s1 _ _ hd)
  have m2 := m1.same s2
  have lb : (backs ls (fun c x => act fn wk.reverse (unit x) c)).length ≤ 8 := Nat.le_trans (List.length_filter_le _ _) tl
  walk_at "go"
  refine vals_some (ls := backs ls (fun c x => act fn wk.reverse (unit x) c)) (it := fun c => V.str (tx [c])) (f := fun c => V.str (tx [c])) (b := fun c => decide (c = dr ∨ c ∈ fn dr)) (walk_listM (ls := backs ls (fun c x => act fn wk.reverse (unit x) c)) (f := fun c => V.str (tx [c]))) (fun H' s' => SqL.of (s' _ _ e2)) (by omega) (fun c hc Ha sa R r => ?_) (fun c hc _ Ha sa R r => ?_) (fun D H3 hD s3 e3 => ?_)
  · walk_at "go"
    refine if_dec (fun c1 => ?_) (fun c1 => ?_)
    · have e : c = dr := by
        injection c1 with c1
        have := tx_inj.mp c1
        injection this
      rw [decide_eq_true (.inl e)] at r
      exact r Ha (Same.refl _)
    · have ne : c ≠ dr := fun e => c1 (by rw [e])
      walk_at "go"
      refine v_dget (tab_get (sa _ _ hd2) hs) ?_
      walk_at "go"
      rw [show decide (c = dr ∨ c ∈ fn dr) = decide (c ∈ fn dr) from decide_eq_decide.mpr ⟨fun z => z.resolve_left ne, .inr⟩] at r
      exact r Ha (Same.refl _)
  · walk_at "go"
    exact r Ha (Same.refl _)
  walk_at "go"
  have e3 : H3 D = some (.lst ((bkN ls fn dr wk).map fun c => V.str (tx [c]))) := e3
  refine s_cut (fun σ H' => ∃ m l u x6, σ = [some (.ref d), some (.str (tx wk)), some (.str (tx [dr])), some (.ref m), some (.str (tx u)), some (.ref l), x6] ∧ Same H H' ∧ (∀ y ∈ u, y ∈ ls) ∧ u.length ≤ 4000 ∧ startC fn (nameOf fn u) dr = startC fn (nameOf fn wk) dr ∧ bkN ls fn dr u = []) ?_ ?_
  · refine s_while (fun n σ H' => ∃ m l u x6, σ = [some (.ref d), some (.str (tx wk)), some (.str (tx [dr])), some (.ref m), some (.str (tx u)), some (.ref l), x6] ∧ n = (nameOf fn u).length ∧ Same H H' ∧ MarksAt H' m ls (fun c x => act fn u.reverse (unit x) c) ∧ H' l = some (.lst ((bkN ls fn dr u).map fun c => V.str (tx [c]))) ∧ (∀ y ∈ u, y ∈ ls) ∧ u.length + (nameOf fn u).length ≤ 4000 ∧ startC fn (nameOf fn u) dr = startC fn (nameOf fn wk) dr) (nameOf fn wk).length ⟨m, D, wk, _, rfl, rfl, (s1.trans s2).trans s3, m2.same s3, e3, hw, by have := name_len fn wk; omega, rfl⟩ ?_
    rintro n σ H4 ⟨m, l, u, x6, rfl, rfl, s4, m4, e4, mu, lu, eu⟩
    walk_at "go"
    intro q H5 hq s5 e5
    have e4' : H5 l = some (.lst (((bkN ls fn dr u).map fun c => tx [c]).map V.str)) := by
      rw [s5 _ _ e4, List.map_map]
      rfl
    refine v_neNilS e4' (fun x hx => ?_) e5 ?_
    · obtain ⟨y, hy, rfl⟩ := List.mem_map.mp hx
      have := LET_lt (tab.lt y ((bkN_mem ok mu).mp hy).1)
      exact ok_tx fun c hc => by
        rw [List.mem_singleton.mp hc]
        omega
    rw [List.isEmpty_map]
    have e45 := s5 _ _ e4
    have mem := fun c => bkN_mem (ls := ls) (s := dr) ok mu (c := c)
    cases hb : bkN ls fn dr u with
    | nil =>
      walk_at "go"
      exact ⟨m, l, u, x6, rfl, s4.trans s5, mu, by omega, eu, hb⟩
    | cons c t =>
      rw [hb] at e45 mem
      obtain ⟨hc, hdc, hcd⟩ := (mem c).mp (List.mem_cons_self ..)
      walk_at "go"
      refine v_turn ?_
      walk_at "go"
      refine v_ixL e45 (atI_nat (j := 0) rfl) ?_
      have l1 : u.length + [c].length ≤ 1000000 := by rw [List.length_singleton]; omega
      walk_at "go"
      refine v_ixL e45 (atI_nat (j := 0) rfl) ?_
      walk_at "go"
      refine ⟨d, m, ls, fn, _, c, rfl, s5 _ _ (s4 _ _ hd), tab, hc, m4.same s5, fun m' H6 _ m6 s6 => ?_⟩
      have m6 : MarksAt H6 m' ls (fun b x => act fn (u ++ [c]).reverse (unit x) b) := m6.congr fun b _ x _ => by
        rw [List.reverse_append]
        rfl
      have mu' : ∀ y ∈ u ++ [c], y ∈ ls := fun y hy => (List.mem_append.mp hy).elim (mu y) fun z => List.mem_singleton.mp z ▸ hc
      have nl : (nameOf fn (u ++ [c])).length + 1 = (nameOf fn u).length := by
        have := (step_len_desc ok (nameOf fn u) c).1 hdc
        have h2 : nameOf fn (stepOf (fn c) (nameOf fn u) c) = stepOf (fn c) (nameOf fn u) c := (is_NF ok).mpr (NF_step ok (name_NF ok u))
        rw [← name_step ok, h2]
        exact this
      walk_at "go"
      refine ⟨m', ls, _, rfl, m6, tl, fun l' H7 e7 s7 => ?_⟩
      have lb' : (backs ls (fun b x => act fn (u ++ [c]).reverse (unit x) b)).length ≤ 8 := Nat.le_trans (List.length_filter_le _ _) tl
      have s07 := ((s4.trans s5).trans s6).trans s7
      have hd7 := s07 _ _ hd
      walk_at "go"
      refine vals_some (ls := backs ls (fun b x => act fn (u ++ [c]).reverse (unit x) b)) (it := fun c => V.str (tx [c])) (f := fun c => V.str (tx [c])) (b := fun c => decide (c = dr ∨ c ∈ fn dr)) (walk_listM (ls := backs ls (fun b x => act fn (u ++ [c]).reverse (unit x) b)) (f := fun c => V.str (tx [c]))) (fun H' s' => SqL.of (s' _ _ e7)) (by omega) (fun c hc Ha sa R r => ?_) (fun c hc _ Ha sa R r => ?_) (fun D2 H8 hD s8 e8 => ?_)
      · walk_at "go"
        refine if_dec (fun c1 => ?_) (fun c1 => ?_)
        · have e : c = dr := by
            injection c1 with c1
            have := tx_inj.mp c1
            injection this
          rw [decide_eq_true (.inl e)] at r
          exact r Ha (Same.refl _)
        · have ne : c ≠ dr := fun e => c1 (by rw [e])
          walk_at "go"
          refine v_dget (tab_get (sa _ _ hd7) hs) ?_
          walk_at "go"
          rw [show decide (c = dr ∨ c ∈ fn dr) = decide (c ∈ fn dr) from decide_eq_decide.mpr ⟨fun z => z.resolve_left ne, .inr⟩] at r
          exact r Ha (Same.refl _)
      · walk_at "go"
        exact r Ha (Same.refl _)
      walk_at "go"
      refine ⟨(nameOf fn (u ++ [c])).length, by omega, m', D2, u ++ [c], _, rfl, rfl, s07.trans s8, (m6.same s7).same s8, e8, mu', by rw [List.length_append, List.length_singleton]; omega, ?_⟩
      rw [near_step hn ok mu hs hc hcd]
      exact eu
  rintro σ H4 ⟨m, l, u, x6, rfl, s4, mu, lu, eu, eb⟩
  have mem := fun c => bkN_mem (ls := ls) (s := dr) ok mu (c := c)
  rw [eb] at mem
  have e0 : startC fn (nameOf fn u) dr = nameOf fn u := near_end hn ok mu hs (fun z => nomatch (mem dr).mpr ⟨hs, z, .inl rfl⟩) fun t ht z => nomatch (mem t).mpr ⟨(tab.sub dr hs t ht).1, z, .inr ht⟩
  walk_at "go"
  refine ⟨d, ls, fn, u, rfl, s4 _ _ hd, tab, ok, fl.asc, mu, by omega, fun H5 s5 => ?_⟩
  have ej : joinC fn [] u = startC fn (nameOf fn wk) dr := by rw [← eu, e0]
  rw [ej]
  exact k H5 (s4.trans s5)
end
end
section
open PySem PySem.Spec L2
def keyV (A : List Nat → Addr) (ks : List (List Nat)) : List (Key × V) := ks.map fun key => ((Sum.inr (tx key) : Key), V.ref (A key))
theorem keyV_len (A : List Nat → Addr) (ks : List (List Nat)) : (keyV A ks).length = ks.length := List.length_map _
theorem keyV_none {A : List Nat → Addr} {key : List Nat} : ∀ {ks : List (List Nat)}, ¬ key ∈ ks → valV (keyV A ks) (Sum.inr (tx key)) = none
  | [], _ => rfl
  | c :: r, h => by
    unfold keyV
    rw [List.map_cons, valV_neg]
    · exact keyV_none (ks := r) fun z => h (List.mem_cons_of_mem _ z)
    · intro e
      exact h (key_tx.mp e ▸ List.mem_cons_self ..)
theorem keyV_some {A : List Nat → Addr} {key : List Nat} : ∀ {ks : List (List Nat)}, key ∈ ks → valV (keyV A ks) (Sum.inr (tx key)) = some (.ref (A key))
  | [], h => nomatch h
  | c :: r, h => by
    unfold keyV
    rw [List.map_cons]
    by_cases e : c = key
    · rw [valV_pos (by rw [e]), e]
    · rw [valV_neg fun z => e (key_tx.mp z)]
      exact keyV_some (ks := r) ((List.mem_cons.mp h).resolve_left fun z => e z.symm)
/-- pairs of walls' texts and marks -/
structure ShutsAt (H : Hp) (p : Addr) (ls : List Nat) (fn : Nat → List Nat) (keys : List (List Nat)) : Prop where
  ex : ∃ As : List Addr, H p = some (.lst (As.map V.ref)) ∧ Paired (fun a key => ∃ v, H a = some (.tup [.str (tx key), .ref v]) ∧ H v = some (.tup (vecV ls (markK fn key)))) As keys
theorem ShutsAt.same {H H' : Hp} {p : Addr} {ls : List Nat} {fn : Nat → List Nat} {keys : List (List Nat)} (h : ShutsAt H p ls fn keys) (s : Same H H') : ShutsAt H' p ls fn keys := by
  obtain ⟨As, e, pr⟩ := h.ex
  exact ⟨As, s _ _ e, paired_imp (fun a key ⟨v, e1, e2⟩ => ⟨v, s _ _ e1, s _ _ e2⟩) pr⟩
def spShuts : Sp := fun vs H Q _ => ∃ (d : Addr) (ls : List Nat) (f : Nat → List Nat) (m u : List Nat), vs = [.ref d, .str (tx m), .str (tx u)] ∧ H d = some (.dK (tabKV ls f)) ∧ Fl ls f ∧ (∀ c ∈ m, c ∈ ls) ∧ (∀ c ∈ u, c ∈ ls) ∧ Red f u ∧ 0 < ls.length ∧ m.length ≤ 800 ∧ u.length ≤ 800 ∧
  ∀ keys p H', H p = none → Same H H' → keys.Perm (keyI f m u u.length) → keys.Pairwise shortLe → ShutsAt H' p ls f keys → Q (.ref p) H'
structure TxtS (K : PySem.W.Frag) (mg : Str → Option Value) : Prop extends TxtO K mg where
  range : mg "range" = none
section
variable {P : Program} {w : World} {K : PySem.W.Frag} {mg : Str → Option Value} {base : Heap} {C R O W NB : Addr}
abbrev stshuts : Stmt := (top 73)
abbrev Nshuts : List Str := ["_law_table", "_law_walk_here", "_law_behind", "_law_texts", "_law_found", "_law_at", "_law_text"]
theorem scshuts : FnScope Nshuts ["_law_table", "_law_walk_here", "_law_behind"] (defScope stshuts) := ⟨rfl, rfl, rfl, by decide +kernel, rfl, by decide +kernel, by decide +kernel⟩

theorem ok_shuts (F : FnAt K mg "_law_ordered_shuts" stshuts) (T : TxtS K mg) (D_nearest : Def P w K mg base CX0 4 "_law_nearest" ["_law_table", "_law_walk_here", "_law_door"] spNearest) (D_marks : Def P w K mg base CX0 2 "_law_marks" ["_law_table", "_law_walk_here"] spMarks) (D_positive : Def P w K mg base CX0 1 "_law_positive" ["_law_mark"] spPositive) : Def P w K mg base CX0 5 "_law_ordered_shuts" ["_law_table", "_law_walk_here", "_law_behind"] spShuts := by
  refine F.ok scshuts (fun _ _ _ _ _ _ us hl => match us, hl with | [_, _, _], _ => rfl) (fun vs H Q E h => ?_) (fun f cdv A outer s H vs Q E hr h => ?_)
  · obtain ⟨d, ls, f, m, u, rfl, _⟩ := h
    rfl
  obtain ⟨d, ls, fn, m, u, rfl, hd, fl, mm, mu, ru, l0, lm, lu, k⟩ := h
  have hu := hu_of hr
  have nd := scshuts.nd
  have tab := fl.tab
  have ok := fl.ok
  have tl := tab.len
  have hn := tab.nd
  replace D_marks := D_marks.mono (show 2 ≤ 4 by decide)
  replace D_positive := D_positive.mono (show 1 ≤ 4 by decide)
  have knd := keys_nd hn ok ru mm mu
  refine ⟨_, (pss_cons (ps_asg (pe_tup (pa_cons (pe_lst pa_nil) (pa_cons pe_dnewK pa_nil))) (pg_tup rfl (pgs_cons (pg_name (i := 3) nd rfl (Or.inl rfl)) (pgs_cons (pg_name (i := 4) nd rfl (Or.inr rfl)) pgs_nil))))
      (pss_cons (ps_for PassesOwn.never rfl (pi_range1 (by rfl) T.range (pa_cons (pe_callB c_lenS (by rfl) T.len PySem.boot_len (pa_cons (pv 2) pa_nil)) pa_nil)) (pg_name (i := 5) nd rfl (Or.inl rfl))
      (pss_cons (ps_set (i := 6) nd rfl (Or.inl rfl) (pe_op op_addS (pe_cd D_nearest hr pass0 (pa_cons (pv 0) (pa_cons (pe_op op_addS (pv 1) (pe_slice sl_S (pv 2) po_none (po_some (pv 5)))) (pa_cons (pe_ix ix_str (pv 2) (pv 5) (fun _ _ => rfl)) pa_nil)))) (pe_ix ix_str (pv 2) (pv 5) (fun _ _ => rfl))))
        (pss_cons (ps_expr (pe_appK (K := K) rfl (pv 3) (pv 6)))
        (pss_one (ps_dput hu (pv 4) (pv 6) (pe_cd D_positive hr pass0 (pa_cons (pe_dget hu (pe_cd D_marks hr pass0 (pa_cons (pv 0) (pa_cons (pe_op op_addS (pv 1) (pe_slice sl_S (pv 2) po_none (po_some (pv 5)))) pa_nil))) (pe_ix ix_str (pv 2) (pv 5) (fun _ _ => rfl)) (fun _ _ => rfl)) pa_nil)) rfl)))))
      (pss_cons (ps_set (i := 3) nd rfl (Or.inl rfl) (pe_sortL (K := K) rfl (by rfl) T.sorted (by rfl) T.len (pa_cons (pe_callB (cr_sortedTK (K := K) rfl) (by rfl) T.sorted (by decide +kernel) (pa_cons (pe_lc (own := [("_law_text", 6)]) (g := gName 6) (by rfl) nd (pi_listK (K := K) rfl (pv 3)) (blkOk_by (own := [("_law_text", 6)]) (N := Nshuts) (sc := defScope stshuts) (by decide +kernel)) (fun _ _ _ _ _ => (pg_name (i := 6) nd rfl (Or.inl rfl))) (fun _ _ _ _ _ => pts_nil) (fun _ _ _ _ _ => (pe_callTy c_strS (by rfl) T.str (by decide +kernel) (pa_cons (pv 6) pa_nil)))) pa_nil)) pa_nil)))
      (pss_one (ps_ret (pe_lc (own := [("_law_text", 6)]) (g := gName 6) (by rfl) nd (pi_listK (K := K) rfl (pv 3)) (blkOk_by (own := [("_law_text", 6)]) (N := Nshuts) (sc := defScope stshuts) (by decide +kernel)) (fun _ _ _ _ _ => (pg_name (i := 6) nd rfl (Or.inl rfl))) (fun _ _ _ _ _ => pts_nil) (fun _ _ _ _ _ => (pe_tup (pa_cons (pv 6) (pa_cons (pe_dget hu (pv 4) (pv 6) (fun _ _ => rfl)) pa_nil)))))))))), ?_⟩
  refine s_start [some _, some _, some _, none, none, none, none] rfl ?_
  walk_at "go"
  intro tl0 H1 htl s1 e1
  walk_at "go"
  intro fd H2 hfd s2 e2
  walk_at "go"
  intro pt H3 hpt s3 e3
  refine v_gTup2 rfl e3 ?_
  have nft : tl0 ≠ fd := ne_of_none e1 hfd
  have htl0 : H tl0 = none := htl
  have hfd0 : H fd = none := L2.Same.free s1 hfd
  have e1 := s3 _ _ (s2 _ _ e1)
  have e2 := s3 _ _ e2
  have s03 := (s1.trans s2).trans s3
  have kli : ∀ i, (keyI fn m u i).length = i := fun i => by unfold keyI; rw [List.length_map, List.length_range]
  have ksucc : ∀ i, keyI fn m u (i + 1) = keyI fn m u i ++ [startC fn (nameOf fn (m ++ u.take i)) (u.getD i 0) ++ [u.getD i 0]] := fun i => by
    unfold keyI
    rw [List.range_succ, List.map_append]
    rfl
  walk_at "go"
  refine for_it (walk_rI (fun i => ((i : Nat) : Int)) (fun k => Int.zero_add _)) (fun i σ H' => ∃ x5 x6 A, σ = [some (.ref d), some (.str (tx m)), some (.str (tx u)), some (.ref tl0), some (.ref fd), x5, x6] ∧ H' tl0 = some (.lst ((keyI fn m u i).map fun l => V.str (tx l))) ∧ H' fd = some (.dK (keyV A (keyI fn m u i))) ∧ (∀ key ∈ keyI fn m u i, H' (A key) = some (.tup (vecV ls (markK fn key)))) ∧ (∀ b o, H b = some o → H' b = some o)) ⟨_, _, fun _ => 0, rfl, e1, e2, (fun _ z => nomatch z), s03⟩ (fun _ _ _ _ _ => trivial) ?_ ?_
  · rintro i v σ H4 H5 hi ⟨x5, x6, A, rfl, et, ef, eA, kp⟩ ⟨rfl, rfl⟩
    have hi : i < u.length := by omega
    have hk : u.getD i 0 ∈ ls := mu _ (getD_in hi)
    have ma : ∀ y ∈ m ++ u.take i, y ∈ ls := fun y hy => (List.mem_append.mp hy).elim (mm y) fun z => mu y (List.mem_of_mem_take z)
    have gk : u[i]? = some (u.getD i 0) := by
      rw [List.getD_eq_getElem?_getD, List.getElem?_eq_getElem hi]
      rfl
    have lt : (u.take i).length ≤ 800 := by rw [List.length_take]; omega
    have la : (m ++ u.take i).length ≤ 1600 := by rw [List.length_append]; omega
    have sl := start_len ok (nameOf fn (m ++ u.take i)) (u.getD i 0)
    have nl := name_len fn (m ++ u.take i)
    have l1 : m.length + (u.take i).length ≤ 1000000 := by omega
    have l2 : (startC fn (nameOf fn (m ++ u.take i)) (u.getD i 0)).length + [u.getD i 0].length ≤ 1000000 := by rw [List.length_singleton]; omega
    walk_at "go"
    refine v_slTo (by omega) (by omega) ?_
    rw [show ((i : Nat) : Int).toNat = i by omega]
    walk_at "go"
    refine v_ixS (by omega) (atI_nat (j := i) gk) ?_
    walk_at "go"
    refine ⟨d, ls, fn, m ++ u.take i, u.getD i 0, rfl, kp _ _ hd, fl, ma, hk, by omega, fun H6 s6 => ?_⟩
    walk_at "go"
    refine v_ixS (by omega) (atI_nat (j := i) gk) ?_
    walk_at "go"
    have et6 := s6 _ _ et
    have ef6 := s6 _ _ ef
    refine v_app et6 (by rw [List.length_map, kli]; omega) fun H7 k7 e7 => ?_
    have ef7 := k7 _ _ ef6 nft.symm
    have kp7 : ∀ b o, H b = some o → H7 b = some o := fun b o hb => k7 _ _ (s6 _ _ (kp _ _ hb)) (ne_of_none hb htl0)
    walk_at "go"
    refine v_slTo (by omega) (by omega) ?_
    rw [show ((i : Nat) : Int).toNat = i by omega]
    walk_at "go"
    refine ⟨d, ls, fn, m ++ u.take i, rfl, kp7 _ _ hd, tab, ma, fun mk H8 mk8 s8 => ?_⟩
    obtain ⟨A0, em, hA⟩ := mk8.ex
    walk_at "go"
    refine v_ixS (by omega) (atI_nat (j := i) gk) ?_
    walk_at "go"
    refine v_dget (marks_get em hk) ?_
    walk_at "go"
    refine ⟨A0 (u.getD i 0), ls, _, rfl, hA _ hk, l0, by omega, fun pv H9 s9 e9 => ?_⟩
    have ef9 := s9 _ _ (s8 _ _ ef7)
    have e79 := s9 _ _ (s8 _ _ e7)
    have s89 := s8.trans s9
    have nin : ¬ startC fn (nameOf fn (m ++ u.take i)) (u.getD i 0) ++ [u.getD i 0] ∈ keyI fn m u i := by
      have e : keyI fn m u u.length = keyI fn m u (i + 1) ++ ((List.range u.length).drop (i + 1)).map (fun i => startC fn (nameOf fn (m ++ u.take i)) (u.getD i 0) ++ [u.getD i 0]) := by
        unfold keyI
        rw [← List.map_append]
        congr 1
        rw [show List.range (i + 1) = (List.range u.length).take (i + 1) by rw [List.take_range]; congr 1; omega, List.take_append_drop]
      rw [e, ksucc] at knd
      have := (List.nodup_append.mp (List.nodup_append.mp knd).1).2.2
      exact fun z => this _ z _ (List.mem_singleton.mpr rfl) rfl
    walk_at "go"
    have put := DPut.k (k := Sum.inr (tx (startC fn (nameOf fn (m ++ u.take i)) (u.getD i 0) ++ [u.getD i 0]))) (v := V.ref pv) ef9 (by rw [keyV_len, kli]; exact szlt (by omega))
    rw [putK_new (.ref pv) (keyV_none nin)] at put
    refine v_put put fun H10 k10 e10 => ?_
    have pfd : ∀ {b o}, H9 b = some o → (∀ kvs, o ≠ .dK kvs) → b ≠ fd := fun hb n z => by
      rw [z, ef9] at hb
      injection hb with hb
      exact n _ hb.symm
    obtain ⟨A', hA1, hA2⟩ : ∃ A' : List Nat → Addr, A' (startC fn (nameOf fn (m ++ u.take i)) (u.getD i 0) ++ [u.getD i 0]) = pv ∧ ∀ k, k ≠ startC fn (nameOf fn (m ++ u.take i)) (u.getD i 0) ++ [u.getD i 0] → A' k = A k := ⟨fun k => if k = startC fn (nameOf fn (m ++ u.take i)) (u.getD i 0) ++ [u.getD i 0] then pv else A k, if_pos rfl, fun k h => if_neg h⟩
    refine ⟨_, _, A', rfl, ?_, ?_, fun key hkey => ?_, fun b o hb => k10 _ _ (s89 _ _ (kp7 _ _ hb)) (ne_of_none hb hfd0)⟩
    · rw [k10 _ _ e79 nft, ksucc, List.map_append]
      rfl
    · rw [e10, ksucc]
      unfold keyV
      rw [List.map_append, List.map_singleton, hA1]
      congr 3
      exact List.map_congr_left fun key hkey => by rw [hA2 key fun z => nin (z ▸ hkey)]
    · rw [ksucc] at hkey
      by_cases ek : key = startC fn (nameOf fn (m ++ u.take i)) (u.getD i 0) ++ [u.getD i 0]
      · rw [ek, hA1, markK_app]
        have e9' : H9 pv = some (.tup (vecV ls (mark fn (startC fn (nameOf fn (m ++ u.take i)) (u.getD i 0)).reverse (u.getD i 0)))) := by
          rw [e9]
          congr 2
          unfold vecV
          refine List.map_congr_left fun x hx => ?_
          rw [show posV ls (fun x => act fn (m ++ u.take i).reverse (unit x) (u.getD i 0)) x = posM fn ls (m ++ u.take i) (u.getD i 0) x from rfl, pos_start ok ma hk]
        exact k10 _ _ e9' (pfd e9' fun kvs z => by cases z)
      · rw [hA2 key ek]
        have hkey := (List.mem_append.mp hkey).resolve_right fun z => ek (List.mem_singleton.mp z)
        have e4 := eA key hkey
        have nt : A key ≠ tl0 := fun z => by
          rw [z, et] at e4
          injection e4 with e4
          cases e4
        have e9' := s89 _ _ (k7 _ _ (s6 _ _ e4) nt)
        exact k10 _ _ e9' (pfd e9' fun kvs z => by cases z)
  rintro σ H4 ⟨x5, x6, A, rfl, et, ef, eA, kp⟩
  rw [show ((u.length : Nat) : Int).toNat = u.length by omega] at et ef eA
  have kll := kli u.length
  generalize hKI : keyI fn m u u.length = KI at *
  walk_at "go"
  refine e_sortL ?_
  walk_at "go"
  refine lc_gen (n := KI.length) (it := fun k => V.str (tx (KI.getD k []))) (b := fun _ => true) (f := fun k => V.str (tx (KI.getD k []))) walk_txs (fun H' s' => SqL.of (s' _ _ et)) (by omega) (fun k hk H1 s1 R r => ?_) (fun k hk _ H1 s1 R r => ?_) (fun D H5 hD s5 e5 => ?_)
  · exact r H1 (Same.refl _)
  · walk_at "go"
    refine v_strS ?_
    exact r H1 (Same.refl _)
  rw [range_txs] at e5
  walk_at "go"
  refine ⟨D, KI, rfl, SqL.of e5, fun S1 p hm1 hm2 hp => ?_⟩
  walk_at "go"
  have kz : ∀ l ∈ KI, l.length ≤ 1000000 := fun l hl => by
    rw [← hKI] at hl
    obtain ⟨a, k, rfl, _, ha⟩ := key_ok ok mm mu (Nat.le_refl _) hl
    rw [List.length_append, List.length_singleton]
    omega
  refine ⟨p, S1, rfl, SqL.of upd_same, fun l hl => kz l (hm1.mem_iff.mp hl), fun keys p2 hn1 hn2 hn3 hp2 => ?_⟩
  obtain ⟨r1, r2⟩ := sorted_twice hm1 hm2 hn1 hn2 hn3
  have s56 : Same H5 (upd (upd H5 p (.lst (S1.map fun l => V.str (tx l)))) p2 (.lst (keys.map fun l => V.str (tx l)))) := (Same.new hp).trans (Same.new hp2)
  have e6 : upd (upd H5 p (.lst (S1.map fun l => V.str (tx l)))) p2 (.lst (keys.map fun l => V.str (tx l))) p2 = some (.lst (keys.map fun l => V.str (tx l))) := upd_same
  generalize upd (upd H5 p (.lst (S1.map fun l => V.str (tx l)))) p2 (.lst (keys.map fun l => V.str (tx l))) = H6 at s56 e6 ⊢
  have ef6 := s56 _ _ (s5 _ _ ef)
  have s46 := s5.trans s56
  have lk : keys.length = KI.length := r1.length_eq
  walk_at "go"
  refine lc_mapA (fun j v H' => ∃ a, v = .ref a ∧ ∃ q, H' a = some (.tup [.str (tx (keys.getD j [])), .ref q]) ∧ H' q = some (.tup (vecV ls (markK fn (keys.getD j []))))) walk_txs (fun H' s' => SqL.of (s' _ _ e6)) (by omega) ?_ ?_ ?_ ?_ ?_
  · rintro j v Ha Hb ⟨a, rfl, q, e1, e2⟩ sb
    exact ⟨a, rfl, q, sb _ _ e1, sb _ _ e2⟩
  · rintro j v Ha Hb D l ⟨a, rfl, q, e1, e2⟩ eD kD
    exact ⟨a, rfl, q, kD _ _ e1 (ne_of e1 eD (by intro z; cases z)), kD _ _ e2 (ne_of e2 eD (by intro z; cases z))⟩
  · intro j hj Ha sa R' rr
    walk_at "go"
    exact rr Ha (Same.refl _)
  · intro j hj Ha sa R' rr
    have hm : keys.getD j [] ∈ KI := by
      refine r1.mem_iff.mp ?_
      rw [List.getD_eq_getElem?_getD, List.getElem?_eq_getElem hj]
      exact List.getElem_mem hj
    have eg := DGet.k (k := Sum.inr (tx (keys.getD j []))) (sa _ _ ef6)
    rw [keyV_some hm] at eg
    walk_at "go"
    intro t Hb ht sb eb
    have ev := sb _ _ (sa _ _ (s46 _ _ (eA _ hm)))
    exact rr _ Hb sb ⟨t, rfl, _, eb, ev⟩
  intro D2 H7 vs hD2 s7 e7 lv rel
  obtain ⟨As, rfl, pr⟩ := refs_of (P := fun a key => ∃ q, H7 a = some (.tup [.str (tx key), .ref q]) ∧ H7 q = some (.tup (vecV ls (markK fn key)))) lv rel
  walk_at "go"
  have s07 : Same H H7 := fun b o hb => s7 _ _ (s46 _ _ (kp _ _ hb))
  exact k keys D2 H7 (by
    cases z : H D2 with
    | none => rfl
    | some o =>
      have := s46 _ _ (kp _ _ z)
      rw [hD2] at this
      cases this) s07 r1 r2 ⟨As, e7, pr⟩
end
end
section
open PySem PySem.Spec L2
theorem markK_log {f : Nat → List Nat} {ls m : List Nat} {k x : Nat} : (markK f (m ++ [k]) x).natAbs.log2 ≤ 2 * m.length := by
  rw [markK_app]
  have h := pos_log (f := f) (ls := ls) (w := m) (s := k) (x := x)
  have e : (posM f ls m k x).natAbs = (mark f m.reverse k x).natAbs := by
    unfold posM
    split
    · exact Int.natAbs_neg _
    · rfl
  rwa [e] at h
def spApart : Sp := fun vs H Q _ => ∃ (d p q : Addr) (ls : List Nat) (f : Nat → List Nat) (l1 l2 : List (List Nat)), vs = [.ref d, .ref p, .ref q] ∧ H d = some (.dK (tabKV ls f)) ∧ Tab ls f ∧ CrOk f ∧ ShutsAt H p ls f l1 ∧ ShutsAt H q ls f l2 ∧ (∀ key ∈ l1 ++ l2, ∃ m k, key = m ++ [k] ∧ m.length ≤ 500) ∧
  (firstA (apartK f ls) l1 l2 = none → ∀ H', Same H H' → Q .non H') ∧ ∀ k1 k2, firstA (apartK f ls) l1 l2 = some (k1, k2) → ∀ t H', H t = none → Same H H' → H' t = some (.tup [.str (tx k1), .str (tx k2)]) → Q (.ref t) H'
theorem walk_shuts {K : PySem.W.Frag} {H0 : Hp} {p : Addr} {ls : List Nat} {f : Nat → List Nat} {keys : List (List Nat)} (h : ShutsAt H0 p ls f keys) : Walk (Itl K p) keys.length (fun H => Same H0 H) (fun i H v H' => H' = H ∧ ∃ a q, v = .ref a ∧ H0 a = some (.tup [.str (tx (keys.getD i [])), .ref q]) ∧ H0 q = some (.tup (vecV ls (markK f (keys.getD i []))))) := by
  obtain ⟨As, e, pr⟩ := h.ex
  have w := walk_list (K := K) (a := p) (xs := As.map V.ref)
  rw [List.length_map, paired_len pr] at w
  refine w.mono (fun H s => SqL.of (s _ _ e)) fun i H v H' hi _ y => ?_
  obtain ⟨rfl, ev⟩ := y
  obtain ⟨a, ha, q, e1, e2⟩ := pair_at pr i _ (List.getElem?_eq_getElem hi)
  rw [List.getElem?_map, ha] at ev
  injection ev with ev
  have g : keys.getD i [] = keys[i] := by rw [List.getD_eq_getElem?_getD, List.getElem?_eq_getElem hi]; rfl
  exact ⟨rfl, a, q, ev.symm, by rw [g]; exact e1, by rw [g]; exact e2⟩
section
variable {P : Program} {w : World} {K : PySem.W.Frag} {mg : Str → Option Value} {base : Heap} {C R O W NB : Addr}
abbrev stapart : Stmt := (top 74)
abbrev Napart : List Str := ["_law_table", "_law_mine", "_law_yours", "_law_text", "_law_mark", "_law_far_text", "_law_far_mark"]
theorem scapart : FnScope Napart ["_law_table", "_law_mine", "_law_yours"] (defScope stapart) := ⟨rfl, rfl, rfl, by decide +kernel, rfl, by decide +kernel, by decide +kernel⟩

theorem ok_apart (F : FnAt K mg "_law_first_apart" stapart) (D_product : Def P w K mg base CX0 1 "_law_product" ["_law_table", "_law_item", "_law_peer"] spProduct) : Def P w K mg base CX0 2 "_law_first_apart" ["_law_table", "_law_mine", "_law_yours"] spApart := by
  refine F.ok scapart (fun _ _ _ _ _ _ us hl => match us, hl with | [_, _, _], _ => rfl) (fun vs H Q E h => ?_) (fun f cdv A outer s H vs Q E hr h => ?_)
  · obtain ⟨d, p, q, ls, f, l1, l2, rfl, _⟩ := h
    rfl
  obtain ⟨d, p, q, ls, fn, l1, l2, rfl, hd, tab, ok, w1, w2, kl, kn, ks⟩ := h
  have hu := hu_of hr
  have nd := scapart.nd
  have mem : ∀ {l : List (List Nat)} {i : Nat}, i < l.length → l.getD i [] ∈ l := fun hi => by
    rw [List.getD_eq_getElem?_getD, List.getElem?_eq_getElem hi]
    exact List.getElem_mem hi
  have logs : ∀ key ∈ l1 ++ l2, ∀ x ∈ ls, (markK fn key x).natAbs.log2 ≤ 1000 := fun key hk x _ => by
    obtain ⟨m, k, rfl, lm⟩ := kl key hk
    exact Nat.le_trans (markK_log (ls := ls)) (by omega)
  refine ⟨_, (pss_cons (ps_for PassesOwn.never rfl (pi_listK (K := K) rfl (pv 1)) (pg_tup rfl (pgs_cons (pg_name (i := 3) nd rfl (Or.inl rfl)) (pgs_cons (pg_name (i := 4) nd rfl (Or.inl rfl)) pgs_nil)))
      (pss_one (ps_for PassesOwn.never rfl (pi_listK (K := K) rfl (pv 2)) (pg_tup rfl (pgs_cons (pg_name (i := 5) nd rfl (Or.inl rfl)) (pgs_cons (pg_name (i := 6) nd rfl (Or.inl rfl)) pgs_nil)))
        (pss_one (ps_if (pt_cmpR op_ne (pe_cd D_product hr pass0 (pa_cons (pv 0) (pa_cons (pv 4) (pa_cons (pv 6) pa_nil)))) pe_int (nomark _))
          (pss_one (ps_ret (pe_tup (pa_cons (pv 3) (pa_cons (pv 5) pa_nil)))))
          pss_nil)))))
      (pss_one (ps_ret pe_non))), ?_⟩
  refine s_start [some _, some _, some _, none, none, none, none] rfl ?_
  obtain ⟨As, ea, pa⟩ := w1.ex
  obtain ⟨Bs, eb, pb⟩ := w2.ex
  walk_at "go"
  refine for_it (walk_shuts w1) (fun i σ H' => ∃ x3 x4 x5 x6, σ = [some (.ref d), some (.ref p), some (.ref q), x3, x4, x5, x6] ∧ Same H H' ∧ ∀ i', i' < i → ∀ b ∈ l2, ¬ apartK fn ls (l1.getD i' []) b) ⟨_, _, _, _, rfl, Same.refl _, fun _ h => absurd h (by omega)⟩ (fun i σ H' _ ⟨_, _, _, _, _, s, _⟩ => s) ?_ ?_
  · rintro i v σ H1 H2 hi ⟨x3, x4, x5, x6, rfl, s2, nA⟩ ⟨rfl, a, qa, rfl, e1, e2⟩
    refine v_gTup2 rfl (s2 _ _ e1) ?_
    have eb2 := s2 _ _ eb
    walk_at "go"
    refine for_it (walk_shuts w2) (fun i' σ H' => ∃ x5 x6, σ = [some (.ref d), some (.ref p), some (.ref q), some (.str (tx (l1.getD i []))), some (.ref qa), x5, x6] ∧ Same H H' ∧ ∀ j', j' < i' → ¬ apartK fn ls (l1.getD i []) (l2.getD j' [])) ⟨_, _, rfl, s2, fun _ h => absurd h (by omega)⟩ (fun i σ H' _ ⟨_, _, _, s, _⟩ => s) ?_ ?_
    · rintro i2 v σ H3 H4 hi2 ⟨x5, x6, rfl, s4, nB⟩ ⟨rfl, b, qb, rfl, f1, f2⟩
      refine v_gTup2 rfl (s4 _ _ f1) ?_
      walk_at "go"
      refine ⟨d, qa, qb, ls, fn, _, _, rfl, s4 _ _ hd, tab, ok, s4 _ _ e2, s4 _ _ f2, logs _ (List.mem_append_left _ (mem hi)), logs _ (List.mem_append_right _ (mem hi2)), fun H5 s5 => ?_⟩
      walk_at "go"
      have ec : decide (V.int (prodV fn ls (markK fn (l1.getD i [])) (markK fn (l2.getD i2 []))) = V.int 0) = !decide (apartK fn ls (l1.getD i []) (l2.getD i2 [])) := by
        by_cases c : apartK fn ls (l1.getD i []) (l2.getD i2 [])
        · rw [decide_eq_true c, decide_eq_false]
          · rfl
          · intro z
            injection z with z
            exact c z
        · rw [decide_eq_false c, decide_eq_true]
          · rfl
          · rw [Decidable.not_not.mp c]
      rw [ec, Bool.not_not]
      refine if_dec (fun c => ?_) (fun c => ?_)
      · have fa := firstA_at (P := apartK fn ls) hi hi2 nA nB c
        walk_at "go"
        intro t H6 ht s6 e6
        have s06 := (s4.trans s5).trans s6
        exact ks _ _ fa t H6 (L2.Same.free (s4.trans s5) ht) s06 e6
      · walk_at "go"
        refine ⟨_, _, rfl, s4.trans s5, fun j2 hj2 => ?_⟩
        by_cases e : j2 < i2
        · exact nB j2 e
        · obtain rfl : j2 = i2 := by omega
          exact c
    · rintro σ H3 ⟨x5, x6, rfl, s3, nB⟩
      refine ⟨_, _, _, _, rfl, s3, fun i' hi' b hb => ?_⟩
      by_cases e : i' < i
      · exact nA i' e b hb
      · obtain rfl : i' = i := by omega
        obtain ⟨j', hj', rfl⟩ := List.getElem_of_mem hb
        have := nB j' hj'
        rw [List.getD_eq_getElem?_getD (l := l2), List.getElem?_eq_getElem hj'] at this
        exact this
  · rintro σ H1 ⟨x3, x4, x5, x6, rfl, s1, nA⟩
    have fn0 : firstA (apartK fn ls) l1 l2 = none := firstA_none.mpr fun a ha b hb => by
      obtain ⟨i, hi, rfl⟩ := List.getElem_of_mem ha
      have := nA i hi b hb
      rw [List.getD_eq_getElem?_getD, List.getElem?_eq_getElem hi] at this
      exact this
    walk_at "go"
    exact kn fn0 H1 s1
end
/-! ### the deed told -/
def spToldB (C R W : Addr) : Sp := fun vs H Q _ => ∃ (ra x : Addr) (a : List Nat) (rb y : Addr) (b : List Nat) (ls : List Nat) (fn : Nat → List Nat), vs = [.ref ra, .ref rb] ∧ Two C R H ra x a rb y b ls fn ∧
  ∀ M, MidX fn ls [] a b M → M.length ≤ a.length → (allX fn (wayC fn M a) (wayC fn M b) → ∀ r H', Same H H' → RoomAt R H' r x (nameOf fn (a ++ wayC fn M b)) → Q (.ref r) H') ∧
    ∀ l1 l2 k1 k2, l1.Perm (keyI fn M (wayC fn M a) (wayC fn M a).length) → l1.Pairwise shortLe → l2.Perm (keyI fn M (wayC fn M b) (wayC fn M b).length) → l2.Pairwise shortLe → firstA (apartK fn ls) l1 l2 = some (k1, k2) →
      ∀ H' t, Same H H' → H' t = some (.tup [.str (tx k1), .str (tx k2)]) → Q (.ref t) H'
theorem firstA_mem {Pr : List Nat → List Nat → Prop} [∀ a b, Decidable (Pr a b)] {l1 l2 : List (List Nat)} {a b : List Nat} (h : firstA Pr l1 l2 = some (a, b)) : a ∈ l1 ∧ b ∈ l2 := by
  unfold firstA at h
  obtain ⟨x, hx, hy⟩ := List.mem_flatMap.mp (List.mem_of_mem_head? (Option.mem_def.mpr h))
  obtain ⟨z, hz, e⟩ := List.mem_map.mp hy
  cases e
  exact ⟨hx, (List.mem_filter.mp hz).1⟩
theorem keyI_long {fn : Nat → List Nat} (ok : CrOk fn) {M u key : List Nat} (h : key ∈ keyI fn M u u.length) : key.length ≤ M.length + u.length + 1 := by
  unfold keyI at h
  obtain ⟨i, hi, rfl⟩ := List.mem_map.mp h
  have h1 := start_len ok (nameOf fn (M ++ u.take i)) (u.getD i 0)
  have h2 := name_len fn (M ++ u.take i)
  rw [List.length_append, List.length_take] at h2
  rw [List.length_append]
  show _ + 1 ≤ _
  omega
theorem walk_two {K : PySem.W.Frag} {p w1 w2 : Addr} : Walk (Itl K p) 2 (fun H => SqL K H p [.ref w1, .ref w2]) (fun k H x H' => H' = H ∧ x = V.ref ([w1, w2].getD k 0)) := by
  refine (walk_list (K := K) (a := p) (xs := [V.ref w1, V.ref w2])).mono (fun _ z => z) fun i H x H' hi _ y => ?_
  obtain ⟨rfl, e⟩ := y
  have hi' : i < 2 := hi
  rcases (by omega : i = 0 ∨ i = 1) with rfl | rfl
  · exact ⟨rfl, (Option.some.inj e).symm⟩
  · exact ⟨rfl, (Option.some.inj e).symm⟩
structure TxtTo (P : Program) (K : PySem.W.Frag) (mg : Str → Option Value) (C R O W NB G : Addr) (stE : Stmt) : Prop extends TxtQ K mg C R O W where
  NoneBeyond : ExcE P K mg "NoneBeyond" NB "NoneBeyond.__init__" stE
  NoneBeyond_one : PySem.W.findIn K (.ref NB) "one" = some none
  NoneBeyond_other : PySem.W.findIn K (.ref NB) "other" = some none
  FloorError : mg "FloorError" = some (.ref G)
  sub : PySem.W.kitOne K (.ref NB) (.ref G) = some true
  exm : PySem.W.exmOne K (.ref NB) (.ref NB) = some true
section
variable {P : Program} {w : World} {K : PySem.W.Frag} {mg : Str → Option Value} {base : Heap} {C R O W NB G : Addr} {stE : Stmt}
abbrev sttold : Stmt := (top 75)
abbrev Ntold : List Str := ["_law_here", "_law_there", "e", "_law_shuts_here", "_law_shut"]
theorem sctold : FnScope Ntold ["_law_here", "_law_there"] (defScope sttold) := ⟨rfl, rfl, rfl, by decide +kernel, rfl, by decide +kernel, by decide +kernel⟩

theorem ok_toldB (F : FnAt K mg "_law_told" sttold) (T : TxtTo P K mg C R O W NB G stE) (D_beyond_both_0_other_one : DefN P w K mg base (L2N.CX P w) 8 "beyond_both" (spBeyondBoth C R W NB) 0 ["other", "one"] [.kw 1, .kw 0] []) : Def P w K mg base CX0 9 "_law_told" ["_law_here", "_law_there"] (spToldB C R W) := by
  refine F.ok sctold (fun _ _ _ _ _ _ us hl => match us, hl with | [_, _], _ => rfl) (fun vs H Q E h => ?_) (fun f cdv A outer s H vs Q E hr h => ?_)
  · obtain ⟨ra, x, a, rb, y, b, ls, fn, rfl, _⟩ := h
    rfl
  obtain ⟨ra, x, a, rb, y, b, ls, fn, rfl, h, k⟩ := h
  have hu := hu_of hr
  have nd := sctold.nd
  refine ⟨_, (pss_one (ps_tryN (i := 2) (Wout := fun _ _ _ _ => False) rfl rfl nd rfl rfl ⟨rfl, by decide, Or.inl T.NoneBeyond.at⟩ takes0N
      (fun W pn xe tk _ => (pss_one (ps_ret (pe_fN0S D_beyond_both_0_other_one hr (fun σ => L2N.passAt tk σ) (pk_cons (pv 1) (pk_cons (pv 0) pk_nil))))))
      (fun a oe cls d pn hot hz hf => pss_given (q := cls = .ref NB) fun hq => (pss_cons (ps_setLcG (i := 3) (own := [("_law_shut", 4)]) (g := gName 4) hot nd rfl rfl (sw_true rfl rfl rfl (by decide +kernel)) (pi_listGK (K := K) rfl (pe_lst (pa_cons (pe_xf T.NoneBeyond.xf T.NoneBeyond_one hz hf (pv 2)) (pa_cons (pe_xf T.NoneBeyond.xf T.NoneBeyond_other hz hf (pv 2)) pa_nil)))) (blkOk_by (own := [("_law_shut", 4)]) (N := Ntold) (sc := defScope sttold) (by decide +kernel)) (fun _ _ _ _ _ => (pg_name (i := 4) nd rfl (Or.inl rfl))) (fun _ _ _ _ _ => pts_nil) (fun _ _ _ _ _ => (pe_op op_addS (pe_flK (K := K) rfl (pe_flK (K := K) rfl (pv 4) rfl) rfl) (pe_flK (K := K) rfl (pv 4) rfl))))
        (pss_one (ps_ret (pe_ifExp (pt_val (pe_callB (call_isEd T.NoneBeyond.ec hq hz hf) (by rfl) T.isinstance (by decide +kernel) (pa_cons (pv 2) (pa_cons (pe_globC T.FloorError) pa_nil)))) (pe_callTy (c_tupleK (K := K) rfl) (by rfl) T.tuple (by decide +kernel) (pa_cons (pv 3) pa_nil)) pe_non))))))), ?_⟩
  refine s_start [some _, some _, none, none, none] rfl ?_
  walk_at "go"
  refine e_CNS ?_
  walk_at "go"
  refine ⟨rfl, rfl, ra, x, a, rb, y, b, ls, fn, rfl, h, fun M mid hM => ⟨fun al r H' s0 hr0 => ?_, fun l1 l2 k1 k2 p1 o1 p2 o2 fa H' d w1 w2 s0 hd hw1 hw2 => ?_⟩⟩
  · exact (k M mid hM).1 al r H' s0 hr0
  · refine ⟨true, T.exm, fun _ e0 he0 => ?_, fun z => nomatch z⟩
    refine ⟨rfl, ?_⟩
    walk_at "go"
    refine e_xf ?_
    walk_at "go"
    refine ⟨rfl, rfl, d, _, .ref w1, rfl, hd, rfl, ?_⟩
    walk_at "go"
    refine e_xf ?_
    walk_at "go"
    refine ⟨rfl, rfl, d, _, .ref w2, rfl, hd, rfl, ?_⟩
    walk_at "go"
    intro p H2 hp s2 ep
    refine ⟨p, rfl, ⟨_, SqL.of ep⟩, ?_⟩
    obtain ⟨i1, i2⟩ := firstA_mem fa
    have n1 := keyI_long h.fl.ok (p1.mem_iff.mp i1)
    have n2 := keyI_long h.fl.ok (p2.mem_iff.mp i2)
    have n3 : (wayC fn M a).length ≤ M.length + a.length := by have := name_len fn (M.reverse ++ a); rw [List.length_append, List.length_reverse] at this; exact this
    have n4 : (wayC fn M b).length ≤ M.length + b.length := by have := name_len fn (M.reverse ++ b); rw [List.length_append, List.length_reverse] at this; exact this
    have la := h.la
    have lb := h.lb
    have z1 : k1.length ≤ 1000000 := by omega
    have z2 : k2.length ≤ 1000000 := by omega
    obtain ⟨r1, m1, g1, hk1, a1⟩ := hw1
    obtain ⟨r2, m2, g2, hk2, a2⟩ := hw2
    refine lc_gen (n := 2) (it := fun k => V.ref ([w1, w2].getD k 0)) (b := fun _ => true) (f := fun k => V.str (tx ([k1, k2].getD k []))) walk_two (fun H' s' => SqL.of (s' _ _ ep)) (by omega) (fun k hk H1 s1 R r => ?_) (fun k hk _ H1 s1 R r => ?_) (fun D H5 hD s5 e5 => ?_)
    · exact r H1 (Same.refl _)
    · rcases (by omega : k = 0 ∨ k = 1) with rfl | rfl
      · have wa := a1.same (s2.trans s1)
        obtain ⟨⟨dx, e⟩, ro⟩ := wa
        walk_at "go"
        refine v_fld e T.Wall.cl T.nWr wallF_r ?_
        refine v_rname ro T.Room.cl T.nNm ?_
        walk_at "go"
        refine v_fld e T.Wall.cl T.nWk wallF_k ?_
        walk_at "go"
        · subst hk1
          rw [List.length_append] at z1
          exact z1
        · subst hk1
          exact r H1 (Same.refl _)
      · have wa := a2.same (s2.trans s1)
        obtain ⟨⟨dx, e⟩, ro⟩ := wa
        walk_at "go"
        refine v_fld e T.Wall.cl T.nWr wallF_r ?_
        refine v_rname ro T.Room.cl T.nNm ?_
        walk_at "go"
        refine v_fld e T.Wall.cl T.nWk wallF_k ?_
        walk_at "go"
        · subst hk2
          rw [List.length_append] at z2
          exact z2
        · subst hk2
          exact r H1 (Same.refl _)
    · walk_at "go"
      refine ⟨d, _, .ref G, .ref G, true, rfl, s5 _ _ (s2 _ _ hd), rfl, fun u z => z, T.sub, ?_⟩
      walk_at "go"
      refine v_tuple e5 fun t H6 ht s6 e6 => ?_
      walk_at "go"
      exact (k M mid hM).2 l1 l2 k1 k2 p1 o1 p2 o2 fa H6 t ((s0.trans s2).trans (s5.trans s6)) e6
end
end
section
open PySem PySem.Spec L2
structure TxtG (K : PySem.W.Frag) (mg : Str → Option Value) (C R O : Addr) : Prop extends TxtR K mg C R O where
  range : mg "range" = none
def spRooms (C R : Addr) : Sp := fun vs H Q _ => ∃ (g : Pen) (n : Nat) (d q : Addr) (ls : List Nat) (fn : Nat → List Nat) (a b : List Nat), vs = [.ref g.p, .ref d, .ref q] ∧ PenAt g H n ∧ n < 800000 ∧ d ≠ g.p ∧ q ≠ g.p ∧ H d = some (.dK (tabKV ls fn)) ∧ Fl ls fn ∧ H q = some (.lst [.str (tx a), .str (tx b)]) ∧
  (∀ c ∈ a, c ∈ ls) ∧ (∀ c ∈ b, c ∈ ls) ∧ a.length ≤ 200 ∧ b.length ≤ 200 ∧
  ∀ D ra rb x y H', H D = none → H' D = some (.lst [.ref ra, .ref rb]) → Two C R H' ra x (nameOf fn a) rb y (nameOf fn b) ls fn → PenAt g H' (n + 200) → Keep g.p H H' → Q (.ref D) H'
theorem walk_two_s {K : PySem.W.Frag} {p : Addr} {a b : List Nat} : Walk (Itl K p) 2 (fun H => SqL K H p [.str (tx a), .str (tx b)]) (fun k H x H' => H' = H ∧ x = V.str (tx ([a, b].getD k []))) := by
  refine (walk_list (K := K) (a := p) (xs := [V.str (tx a), V.str (tx b)])).mono (fun _ z => z) fun i H x H' hi _ y => ?_
  obtain ⟨rfl, e⟩ := y
  have hi' : i < 2 := hi
  rcases (by omega : i = 0 ∨ i = 1) with rfl | rfl
  · exact ⟨rfl, (Option.some.inj e).symm⟩
  · exact ⟨rfl, (Option.some.inj e).symm⟩
theorem atI_end {α : Type} {l : List α} {c : α} : atI (l ++ [c]) (-1) = some c := by
  unfold atI ixN
  rw [if_neg (by decide), if_pos (by rw [List.length_append, List.length_singleton]; omega)]
  show (l ++ [c])[((-1 : Int) + ((l ++ [c]).length : Nat)).toNat]? = _
  rw [List.length_append, List.length_singleton, show ((-1 : Int) + ((l.length + 1 : Nat) : Int)).toNat = l.length by omega, List.getElem?_append_right (Nat.le_refl _), Nat.sub_self]
  rfl
theorem nm_le (f : Nat → List Nat) (w : List Nat) : (nameOf f w).length ≤ w.length := name_len f w
section
variable {P : Program} {w : World} {K : PySem.W.Frag} {mg : Str → Option Value} {base : Heap} {C R O e0 : Addr}
abbrev strooms : Stmt := (top 77)
abbrev Nrooms : List Str := ["_law_pen_here", "_law_table", "_law_walks", "_law_walk_here"]
theorem scrooms : FnScope Nrooms ["_law_pen_here", "_law_table", "_law_walks"] (defScope strooms) := ⟨rfl, rfl, rfl, by decide +kernel, rfl, by decide +kernel, by decide +kernel⟩

theorem ok_rooms (F : FnAt K mg "_law_rooms" strooms) (T : TxtG K mg C R O) (D_made : Def P w K mg base CX0 5 "_law_made" ["_law_pen_here", "_law_table"] (spMade C)) (C_Room : CDef P w K mg base CX0 3 "Room" R (spRoom C R)) : Def P w K mg base CX0 6 "_law_rooms" ["_law_pen_here", "_law_table", "_law_walks"] (spRooms C R) := by
  refine F.ok scrooms (fun _ _ _ _ _ _ us hl => match us, hl with | [_, _, _], _ => rfl) (fun vs H Q E h => ?_) (fun f cdv A outer s H vs Q E hr h => ?_)
  · obtain ⟨g, n, d, q, ls, fn, a, b, rfl, _⟩ := h
    rfl
  obtain ⟨g, n, d, q, ls, fn, a, b, rfl, p0, hn, ndp, nqp, hd, fl, hq, ma, mb, la, lb, k⟩ := h
  have hu := hu_of hr
  have nd := scrooms.nd
  replace C_Room := C_Room.mono (show 3 ≤ 4 by decide)
  have tab := fl.tab
  refine ⟨_, (pss_one (ps_ret (pe_lc (own := [("_law_walk_here", 3)]) (g := gName 3) (by rfl) nd (pi_listK (K := K) rfl (pv 2)) (blkOk_by (own := [("_law_walk_here", 3)]) (N := Nrooms) (sc := defScope strooms) (by decide +kernel)) (fun _ _ _ _ _ => (pg_name (i := 3) nd rfl (Or.inl rfl))) (fun _ _ _ _ _ => pts_nil) (fun _ _ _ _ _ => (pe_mk C_Room hr pass0 (pa_cons (pe_cd D_made hr pass0 (pa_cons (pv 0) (pa_cons (pv 1) pa_nil))) (pa_cons (pv 3) pa_nil))))))), ?_⟩
  refine s_start [some _, some _, some _, none] rfl ?_
  walk_at "go"
  intro wa hwa
  have hwp := p0.p_ne hwa
  have hwc := p0.cl_ne hwa
  have km : ∀ {j : Nat}, j < 2 → (∀ c ∈ [a, b].getD j [], c ∈ ls) ∧ ([a, b].getD j []).length ≤ 200 := fun {j} hj => by
    rcases (by omega : j = 0 ∨ j = 1) with rfl | rfl
    · exact ⟨ma, la⟩
    · exact ⟨mb, lb⟩
  refine lc_it walk_two_s (fun j H' => ∃ rs : List (Addr × Addr), H' wa = some (.lst (rs.map fun r => V.ref r.1)) ∧ rs.length = j ∧ (∀ i r x, rs[i]? = some (r, x) → RoomAt R H' r x (nameOf fn ([a, b].getD i [])) ∧ PlanAt C H' x (ascOf ls) (tabPairs ls fn)) ∧ PenAt g H' (n + 100 * j) ∧ Keep g.p H H') ⟨[], upd_same, rfl, (fun i r x z => by cases z), p0.same (Same.new hwa), Keep.of (Same.new hwa)⟩ (fun i H' _ ⟨_, _, _, _, _, kp⟩ => SqL.of (kp _ _ hq nqp)) ?_ ?_
  · rintro j v H1 H2 hj ⟨rs, e1, l1, r1, p1, k1⟩ ⟨rfl, rfl⟩
    have hj2 : j < 2 := hj
    obtain ⟨mj, lj⟩ := km hj2
    walk_at "go"
    refine ⟨rfl, ?_⟩
    walk_at "go"
    refine ⟨g, _, d, ls, fn, rfl, p1, by omega, ndp, k1 _ _ hd ndp, tab, fun x H3 hx k3 p3 pl3 _ => ?_⟩
    walk_at "go"
    refine sp_room fl pl3 mj (by omega) fun r H4 hr4 s4 ro4 => ?_
    have k4 := k3.trans (Keep.of s4)
    have e4 := k4 _ _ e1 hwp.symm
    have pl4 := pl3.same s4
    have p4 := p3.same s4
    have pw : Keep wa H4 (upd H4 wa (.lst (rs.map (fun r => V.ref r.1) ++ [.ref r]))) := Keep.put
    refine ⟨_, e4, szlt (by rw [List.length_map]; omega), rs ++ [(r, x)], ?_, by rw [List.length_append, l1]; rfl, ?_, (p4.keep pw hwp hwc).mono (by omega), ?_⟩
    · rw [upd_same, List.map_append]
      rfl
    · intro i r' x' e
      rcases Nat.lt_or_ge i rs.length with c | c
      · rw [List.getElem?_append_left c] at e
        obtain ⟨q1, q2⟩ := r1 i r' x' e
        exact ⟨(q1.pen p1 k4).lst e4 pw, (q2.pen p1 k4).lst e4 pw⟩
      · rw [List.getElem?_append_right c] at e
        have : i = rs.length := by
          rcases Nat.lt_or_ge (i - rs.length) 1 with z | z
          · omega
          · rw [List.getElem?_eq_none (by simpa using z)] at e; cases e
        subst this
        rw [Nat.sub_self] at e
        cases e
        rw [l1]
        exact ⟨ro4.lst e4 pw, pl4.lst e4 pw⟩
    · intro c o hc nc
      have cw : c ≠ wa := ne_of_none hc hwa
      rw [upd_ne cw]
      exact k4 _ _ (k1 _ _ hc nc) nc
  rintro H1 ⟨rs, e1, l1, r1, p1, k1⟩
  obtain ⟨⟨ra, x⟩, ⟨rb, y⟩, rfl⟩ : ∃ u v, rs = [u, v] := by
    match rs, l1 with
    | [u, v], _ => exact ⟨u, v, rfl⟩
  obtain ⟨ro1, pl1⟩ := r1 0 ra x rfl
  obtain ⟨ro2, pl2⟩ := r1 1 rb y rfl
  have n1 := nm_le fn a
  have n2 := nm_le fn b
  walk_at "go"
  exact k wa ra rb x y H1 hwa e1 ⟨ro1, ro2, pl1, pl2, fl, name_NF fl.ok a, name_NF fl.ok b, memN ma, memN mb, by omega, by omega⟩ p1 k1
end
def spPlainRight : Sp := fun vs H Q _ => ∃ (d q : Addr) (ls : List Nat) (a b : List Nat), vs = [.ref d, .ref q] ∧ H d = some (.dK (tabKV ls f0)) ∧ Fl ls f0 ∧ H q = some (.lst [.str (tx a), .str (tx b)]) ∧ (∀ c ∈ a, c ∈ ls) ∧ (∀ c ∈ b, c ∈ ls) ∧ a.length ≤ 200 ∧ b.length ≤ 200 ∧ ∀ H', Same H H' → Q (.bl true) H'
section
variable {P : Program} {w : World} {K : PySem.W.Frag} {mg : Str → Option Value} {base : Heap} {C R O e0 : Addr}
abbrev stplain_right : Stmt := (top 76)
abbrev Nplain_right : List Str := ["_law_bare", "_law_walks", "_law_apart", "_law_names", "_law_alike", "_law_walk_here", "_law_at"]
theorem scplain_right : FnScope Nplain_right ["_law_bare", "_law_walks"] (defScope stplain_right) := ⟨rfl, rfl, rfl, by decide +kernel, rfl, by decide +kernel, by decide +kernel⟩

theorem ok_plain_right (F : FnAt K mg "_law_plain_right" stplain_right) (T : TxtG K mg C R O) (kt : ∀ H : Hp, SeqO K H e0 []) (D_name : Def P w K mg base CX0 3 "_law_name" ["_law_table", "_law_walk_here"] spName) (D_common : Def P w K mg base CX0 6 "common" ["one", "other"] (spCommon C R)) (C_Room : CDef P w K mg base CX0 3 "Room" R (spRoom C R)) (C_Plan_1 : CDefN P w K mg base CX0 3 "Plan" C (spPlan K C) 1 [] [.pos 0, .dfl 0] [.ref e0]) : Def P w K mg base CX0 7 "_law_plain_right" ["_law_bare", "_law_walks"] spPlainRight := by
  refine F.ok scplain_right (fun _ _ _ _ _ _ us hl => match us, hl with | [_, _], _ => rfl) (fun vs H Q E h => ?_) (fun f cdv A outer s H vs Q E hr h => ?_)
  · obtain ⟨d, q, ls, a, b, rfl, _⟩ := h
    rfl
  obtain ⟨d, q, ls, a, b, rfl, hd, fl, hq, ma, mb, la, lb, k⟩ := h
  have hu := hu_of hr
  have nd := scplain_right.nd
  replace D_name := D_name.mono (show 3 ≤ 6 by decide)
  replace C_Room := C_Room.mono (show 3 ≤ 5 by decide)
  replace C_Plan_1 := C_Plan_1.mono (show 3 ≤ 5 by decide)
  have tab := fl.tab
  have ok := fl.ok
  refine ⟨_, (pss_cons (ps_asg (pe_tup (pa_cons (pe_mkN C_Plan_1 hr pass0 (pa_cons (pe_joinD rfl (pe_tx [] (by decide +kernel)) (pv 0)) pa_nil) pk_nil) (pa_cons (pe_lc (own := [("_law_walk_here", 5)]) (g := gName 5) (by rfl) nd (pi_listK (K := K) rfl (pv 1)) (blkOk_by (own := [("_law_walk_here", 5)]) (N := Nplain_right) (sc := defScope stplain_right) (by decide +kernel)) (fun _ _ _ _ _ => (pg_name (i := 5) nd rfl (Or.inl rfl))) (fun _ _ _ _ _ => pts_nil) (fun _ _ _ _ _ => (pe_cd D_name hr pass0 (pa_cons (pv 0) (pa_cons (pv 5) pa_nil))))) pa_nil))) (pg_tup rfl (pgs_cons (pg_name (i := 2) nd rfl (Or.inl rfl)) (pgs_cons (pg_name (i := 3) nd rfl (Or.inr rfl)) pgs_nil))))
      (pss_cons (ps_setLc (i := 4) (own := [("_law_at", 6)]) (g := gName 6) (by rfl) nd rfl rfl (sw_true rfl rfl rfl (by decide +kernel)) (pi_range1 (by rfl) T.range (pa_cons (pe_op op_add (pe_callB c_lenS (by rfl) T.len PySem.boot_len (pa_cons (pe_ix (ix_LK (K := K) rfl) (pv 3) pe_int (fun _ _ => rfl)) pa_nil)) pe_int) pa_nil)) (blkOk_by (own := [("_law_at", 6)]) (N := Nplain_right) (sc := defScope stplain_right) (by decide +kernel)) (fun _ _ _ _ _ => (pg_name (i := 6) nd rfl (Or.inl rfl))) (fun _ _ _ _ _ => (pts_one (pt_cmpR op_eq (pe_slice sl_S (pe_ix (ix_LK (K := K) rfl) (pv 3) pe_int (fun _ _ => rfl)) po_none (po_some (pv 6))) (pe_slice sl_S (pe_ix (ix_LK (K := K) rfl) (pv 3) pe_int (fun _ _ => rfl)) po_none (po_some (pv 6))) (nomark _)))) (fun _ _ _ _ _ => (pv 6)))
      (pss_one (ps_ret (pe_cmpR op_eq (pe_flK (K := K) rfl (pe_cd D_common hr pass0 (pa_cons (pe_mk C_Room hr pass0 (pa_cons (pv 2) (pa_cons (pe_ix (ix_LK (K := K) rfl) (pv 1) pe_int (fun _ _ => rfl)) pa_nil))) (pa_cons (pe_mk C_Room hr pass0 (pa_cons (pv 2) (pa_cons (pe_ix (ix_LK (K := K) rfl) (pv 1) pe_int (fun _ _ => rfl)) pa_nil))) pa_nil))) rfl) (pe_slice sl_S (pe_ix (ix_LK (K := K) rfl) (pv 3) pe_int (fun _ _ => rfl)) po_none (po_some (pe_ix (ix_LK (K := K) rfl) (pv 4) (pe_un un_neg pe_int) (fun _ _ => rfl)))) (nomark _)))))), ?_⟩
  refine s_start [some _, some _, none, none, none, none, none] rfl ?_
  walk_at "go2"
  refine v_joinD (g := fun c => V.str (tx (f0 c))) hd (by have := tab.len; omega) ?_
  walk_at "go2"
  refine ⟨ls, e0, [], rfl, ⟨kt _, by decide, fun _ z => (nomatch z), tab.lt, tab.nd, tab.len⟩, fun z H1 hz s1 plz _ => ?_⟩
  have plz : PlanAt C H1 z (ascOf ls) (tabPairs ls f0) := by
    rw [show f0 = fun _ => [] from rfl, tabPairs_plain]
    have e : prsOf [] = [] := by decide +kernel
    rw [e] at plz
    exact plz
  walk_at "go2"
  have km : ∀ {j : Nat}, j < 2 → (∀ c ∈ [a, b].getD j [], c ∈ ls) ∧ ([a, b].getD j []).length ≤ 200 := fun {j} hj => by
    rcases (by omega : j = 0 ∨ j = 1) with rfl | rfl
    · exact ⟨ma, la⟩
    · exact ⟨mb, lb⟩
  refine lc_gen (n := 2) (it := fun k => V.str (tx ([a, b].getD k []))) (b := fun _ => true) (f := fun k => V.str (tx (nameOf f0 ([a, b].getD k [])))) walk_two_s (fun H' s' => SqL.of (s' _ _ (s1 _ _ hq))) (by omega) (fun j hj H2 s2 R r => ?_) (fun j hj _ H2 s2 R r => ?_) (fun D H2 hD s2 e2 => ?_)
  · walk_at "go2"
    exact r H2 (Same.refl _)
  · obtain ⟨mj, lj⟩ := km hj
    walk_at "go2"
    refine ⟨d, ls, f0, _, rfl, s2 _ _ (s1 _ _ hd), tab, ok, fl.asc, mj, by omega, fun H3 s3 => ?_⟩
    exact r H3 s3
  have e2 : H2 D = some (.lst [.str (tx (nameOf f0 a)), .str (tx (nameOf f0 b))]) := e2
  walk_at "go2"
  intro tp H3 htp s3 e3
  refine v_gTup2 rfl e3 ?_
  have e4 := s3 _ _ e2
  walk_at "go2"
  have n1 := nm_le f0 a
  have n2 := nm_le f0 b
  refine v_ixL e4 (atI_nat (j := 0) rfl) ?_
  walk_at "go2"
  have en : (((nameOf f0 a).length : Int) + 1).toNat = (nameOf f0 a).length + 1 := by omega
  rw [en]
  refine lc_gen (n := (nameOf f0 a).length + 1) (it := fun k => V.int ((k : Nat) : Int)) (b := fun k => decide ((nameOf f0 b).take k = (nameOf f0 a).take k)) (f := fun k => V.int ((k : Nat) : Int)) (walk_rI (fun k => ((k : Nat) : Int)) (fun k => Int.zero_add _)) (fun _ _ => trivial) (by omega) (fun j hj H5 s5 R r => ?_) (fun j hj _ H5 s5 R r => ?_) (fun D2 H5 hD2 s5 e5 => ?_)
  · have e6 := s5 _ _ e4
    walk_at "go2"
    refine v_ixL e6 (atI_nat (j := 1) rfl) ?_
    walk_at "go2"
    refine v_slTo (by omega) (by omega) ?_
    walk_at "go2"
    refine v_ixL e6 (atI_nat (j := 0) rfl) ?_
    walk_at "go2"
    refine v_slTo (by omega) (by omega) ?_
    walk_at "go2"
    rw [Int.toNat_natCast]
    have eb : decide (V.str (tx (List.take j (nameOf f0 b))) = V.str (tx (List.take j (nameOf f0 a)))) = decide ((nameOf f0 b).take j = (nameOf f0 a).take j) := by
      by_cases c : (nameOf f0 b).take j = (nameOf f0 a).take j
      · rw [decide_eq_true c, c, decide_eq_true rfl]
      · rw [decide_eq_false c, decide_eq_false fun z => c (tx_inj.mp (V.str.inj z))]
    rw [eb]
    exact r H5 (Same.refl _)
  · walk_at "go2"
    exact r H5 (Same.refl _)
  · have s1235 := ((s1.trans s2).trans s3).trans s5
    have hq5 := s1235 _ _ hq
    have plz5 := plz.same ((s2.trans s3).trans s5)
    walk_at "go2"
    refine v_ixL hq5 (atI_nat (j := 0) rfl) ?_
    walk_at "go2"
    refine sp_room fl plz5 ma (by omega) fun ra H6 hra s6 ro1 => ?_
    walk_at "go2"
    refine v_ixL (s6 _ _ hq5) (atI_nat (j := 1) rfl) ?_
    walk_at "go2"
    refine sp_room fl (plz5.same s6) mb (by omega) fun rb H7 hrb s7 ro2 => ?_
    have plz7 := (plz5.same s6).same s7
    walk_at "go2"
    refine ⟨ra, z, _, rb, z, _, ls, f0, rfl, ⟨ro1.same s7, ro2, plz7, plz7, fl, name_NF ok a, name_NF ok b, memN ma, memN mb, Nat.le_trans n1 la, Nat.le_trans n2 lb⟩, fun r H8 M hr8 s8 roM md lM => ?_⟩
    obtain ⟨u, v, ea, eb, hd2⟩ := plain_mid tab.nd ok md.toMid (name_NF ok a) (name_NF ok b) (memN ma) (memN mb)
    have ea : nameOf f0 a = M ++ u := ea
    have eb : nameOf f0 b = M ++ v := eb
    have s578 := (s6.trans s7).trans s8
    have e58 := s578 _ _ e5
    have e48 := s578 _ _ (s5 _ _ e4)
    refine v_rname roM T.Room.cl T.nNm ?_
    walk_at "go2"
    refine v_ixL e48 (atI_nat (j := 0) rfl) ?_
    walk_at "go2"
    have em : (((List.range ((nameOf f0 a).length + 1)).filter fun k => decide ((nameOf f0 b).take k = (nameOf f0 a).take k)).map fun k => V.int ((k : Nat) : Int)) = ((List.range M.length).map fun k => V.int ((k : Nat) : Int)) ++ [V.int (M.length : Nat)] := by
      rw [ea, eb]
      have e1 : (List.range ((M ++ u).length + 1)).filter (fun k => decide ((M ++ v).take k = (M ++ u).take k)) = (List.range ((M ++ u).length + 1)).filter fun k => decide (k ≤ M.length) := List.filter_congr fun k hk => by
        have hk : k ≤ (M ++ u).length := Nat.le_of_lt_succ (List.mem_range.mp hk)
        by_cases c : k ≤ M.length
        · rw [decide_eq_true c, decide_eq_true ((take_iff hd2 hk).mpr c)]
        · rw [decide_eq_false c, decide_eq_false fun z => c ((take_iff hd2 hk).mp z)]
      rw [e1, range_upto (by rw [List.length_append]; omega), List.range_succ, List.map_append]
      rfl
    rw [em] at e58
    refine ⟨_, rfl, ?_⟩
    walk_at "go2"
    refine v_ixL e58 (atI_end (l := (List.range M.length).map fun k => V.int ((k : Nat) : Int))) ?_
    walk_at "go2"
    refine v_slTo (l := nameOf f0 a) (n := ((M.length : Nat) : Int)) (Nat.le_trans n1 (by omega)) (Int.natCast_nonneg _) ?_
    rw [Int.toNat_natCast, ea, List.take_left]
    walk_at "go2"
    rw [decide_eq_true rfl]
    exact k H8 (s1235.trans s578)
end
end
section
open PySem PySem.Spec L2
theorem v_eqNil {K : PySem.W.Frag} {H : Hp} {Q : VK} {p q : Addr} {xs : List (List Nat)} (h1 : H p = some (.lst (xs.map fun l => V.str (tx l)))) (hx : ∀ l ∈ xs, ∀ c ∈ l, c < 1000) (h2 : H q = some (.lst [])) (k : Q (.bl xs.isEmpty) H) : rEqD K (.ref p) (.ref q) H Q := by
  have h1' : H p = some (.lst ((xs.map tx).map V.str)) := by
    rw [h1, List.map_map]
    rfl
  refine ⟨.list ((xs.map tx).map PyData.str), .list ((([] : List (List Nat)).map tx).map PyData.str), .lst (SqL.of h1') (dp_strs _), .lst (SqL.of h2) (dp_strs []), shaped_strs _ (ok_strs hx), shaped_strs _ (ok_strs fun _ z => nomatch z), ?_⟩
  have e : PyData.eqv (.list ((xs.map tx).map PyData.str)) (.list ((([] : List (List Nat)).map tx).map PyData.str)) = xs.isEmpty := by
    show PyData.eqvAll _ _ = _
    rw [eqvAll_strs]
    cases xs with
    | nil => rfl
    | cons a r => rfl
  rw [e]
  exact k
def spDrawn : Sp := fun vs H Q _ => ∃ (g : Pen) (n : Nat) (d : Addr) (ls : List Nat) (fn : Nat → List Nat), vs = [.ref g.p, .ref d] ∧ PenAt g H n ∧ n < 800000 ∧ d ≠ g.p ∧ H d = some (.dK (tabKV ls fn)) ∧ Tab ls fn ∧ 0 < ls.length ∧
  ∀ (a b : List Nat) (tp : Addr) H', (∀ c ∈ a, c ∈ ls) → (∀ c ∈ b, c ∈ ls) → a.length ≤ 10 → b.length ≤ 10 → H' tp = some (.tup [.str (tx a), .str (tx b)]) → PenAt g H' (n + 300) → Keep g.p H H' → Q (.ref tp) H'
theorem flat_le {xs : List (List Nat)} (h : ∀ l ∈ xs, l.length ≤ 1) : xs.flatten.length ≤ xs.length := by
  induction xs with
  | nil => simp
  | cons a r ih =>
    have := ih fun l hl => h l (List.mem_cons_of_mem _ hl)
    have := h a (List.mem_cons_self ..)
    rw [List.flatten_cons, List.length_append, List.length_cons]
    omega
section
variable {P : Program} {w : World} {K : PySem.W.Frag} {mg : Str → Option Value} {base : Heap} {C R O e0 : Addr}
abbrev stdrawn : Stmt := (top 78)
abbrev Ndrawn : List Str := ["_law_pen_here", "_law_table", "_law_first", "_law_second", "_law_partners", "_law_each", "_law_own", "_law_k"]
theorem scdrawn : FnScope Ndrawn ["_law_pen_here", "_law_table"] (defScope stdrawn) := ⟨rfl, rfl, rfl, by decide +kernel, rfl, by decide +kernel, by decide +kernel⟩

theorem ok_drawn (F : FnAt K mg "_law_drawn" stdrawn) (T : TxtG K mg C R O) (D_draw : Def P w K mg base CX0 1 "_law_draw" ["_law_pen_here", "_law_number"] spDraw) (D_pick : Def P w K mg base CX0 2 "_law_pick" ["_law_pen_here", "_law_items"] spPick) (D_walk : Def P w K mg base CX0 3 "_law_walk" ["_law_pen_here", "_law_table", "_law_number"] spWalk) : Def P w K mg base CX0 4 "_law_drawn" ["_law_pen_here", "_law_table"] spDrawn := by
  refine F.ok scdrawn (fun _ _ _ _ _ _ us hl => match us, hl with | [_, _], _ => rfl) (fun vs H Q E h => ?_) (fun f cdv A outer s H vs Q E hr h => ?_)
  · obtain ⟨g, n, d, ls, fn, rfl, _⟩ := h
    rfl
  obtain ⟨g, n, d, ls, fn, rfl, p0, hn, ndp, hd, tab, pos, k⟩ := h
  have hu := hu_of hr
  have nd := scdrawn.nd
  replace D_draw := D_draw.mono (show 1 ≤ 3 by decide)
  replace D_pick := D_pick.mono (show 2 ≤ 3 by decide)
  have l8 := tab.len
  refine ⟨_, (pss_cons (ps_asg (pe_tup (pa_cons (pe_cd D_walk hr pass0 (pa_cons (pv 0) (pa_cons (pv 1) (pa_cons pe_int pa_nil)))) (pa_cons (pe_cd D_walk hr pass0 (pa_cons (pv 0) (pa_cons (pv 1) (pa_cons pe_int pa_nil)))) pa_nil))) (pg_tup rfl (pgs_cons (pg_name (i := 2) nd rfl (Or.inr rfl)) (pgs_cons (pg_name (i := 3) nd rfl (Or.inl rfl)) pgs_nil))))
      (pss_cutS (ps_if (pt_cmpR op_gt (pe_cd D_draw hr pass0 (pa_cons (pv 0) (pa_cons pe_int pa_nil))) pe_int (nomark _))
      (pss_cons (ps_set (i := 4) nd rfl (Or.inr rfl) (pe_lock (pe_lc (own := [("_law_each", 5)]) (g := gName 5) (by rfl) nd (pi_keys (pv 1)) (blkOk_by (own := [("_law_each", 5)]) (N := Ndrawn) (sc := defScope stdrawn) (by decide +kernel)) (fun _ _ _ _ _ => (pg_name (i := 5) nd rfl (Or.inr rfl))) (fun _ _ _ _ _ => (pts_one (pt_cmpR (op_eqDK (K := K) rfl hr.units) (pe_lc (own := [("_law_own", 6)]) (g := gName 6) (by rfl) nd (pi_str (pv 2)) (blkOk_by (own := [("_law_own", 6)]) (N := Ndrawn) (sc := { kind := .function, names := [(".0", .local), ("_law_each", .cell), ("_law_first", .cell), ("_law_table", .cell)], isGenerator := false, isCoroutine := false }) (by decide +kernel)) (fun _ _ _ _ _ => (pg_name (i := 6) nd rfl (Or.inl rfl))) (fun _ _ _ _ _ => (pts_one (pt_cmpR op_notInS (pv 6) (pe_dget hu (pv 1) (pv 5) (fun _ _ => rfl)) (by rfl)))) (fun _ _ _ _ _ => (pv 6))) (pe_lst pa_nil) (nomark _)))) (fun _ _ _ _ _ => (pv 5)))))
        (pss_one (ps_set (i := 3) nd rfl (Or.inl rfl) (pe_joinK (K := K) rfl (pe_tx [] (by decide +kernel)) (pe_lc (own := [("_law_k", 7)]) (g := gName 7) (by rfl) nd (pi_range1 (by rfl) T.range (pa_cons (pe_cd D_draw hr pass0 (pa_cons (pv 0) (pa_cons pe_int pa_nil))) pa_nil)) (blkOk_by (own := [("_law_k", 7)]) (N := Ndrawn) (sc := defScope stdrawn) (by decide +kernel)) (fun _ _ _ _ _ => (pg_name (i := 7) nd rfl (Or.inl rfl))) (fun _ _ _ _ _ => pts_nil) (fun _ _ _ _ _ => (pe_cd D_pick hr pass0 (pa_cons (pv 0) (pa_cons (pe_op op_cat1 (pv 4) (pe_lst (pa_cons (pe_tx [] (by decide +kernel)) pa_nil))) pa_nil)))))))))
      pss_nil)
      (pss_one (ps_ret (pe_tup (pa_cons (pv 2) (pa_cons (pv 3) pa_nil))))))), ?_⟩
  refine s_start [some _, some _, none, none, none, none, none, none] rfl ?_
  walk_at "go"
  refine ⟨g, _, d, ls, fn, 10, rfl, p0, by omega, ndp, hd, tab, pos, by omega, fun a H1 ma la p1 k1 => ?_⟩
  walk_at "go"
  refine ⟨g, _, d, ls, fn, 10, rfl, p1, by omega, ndp, k1 _ _ hd ndp, tab, pos, by omega, fun b H2 mb lb p2 k2 => ?_⟩
  replace k2 := k1.trans k2
  walk_at "go"
  intro tp H3 htp s3 e3
  refine v_gTup2 rfl e3 ?_
  have p3 := p2.same s3
  replace k2 := k2.trans (Keep.of s3)
  have d3 := k2 _ _ hd ndp
  clear p2 e3 s3 k1 p1 p0
  refine s_cut (fun σ' H' => ∃ b' x4 x5 x6 x7, σ' = [some (.ref g.p), some (.ref d), some (.str (tx a)), some (.str (tx b')), x4, x5, x6, x7] ∧ (∀ c ∈ b', c ∈ ls) ∧ b'.length ≤ 10 ∧ PenAt g H' (n + 250) ∧ Keep g.p H H') ?_ ?_
  · walk_at "go"
    refine ⟨g, 3, _, rfl, by omega, by omega, p3, by omega, fun z H4 z0 z1 p4 k4 => ?_⟩
    replace k4 := k2.trans k4
    have d4 := k4 _ _ hd ndp
    walk_at "go"
    refine if_dec (fun c => ?_) (fun c => ?_)
    · walk_at "go"
      refine v_lockLc (ls := ls) (g := fun c => V.str (tx (fn c))) (b := fun c => (a.filter fun x => !decide (x ∈ fn c)).isEmpty) (f := fun c => V.str (tx [c])) d4 (by omega) (fun H5 R r => by walk_at "go"; exact r) (fun c hc H5 l5 R r => ?_) (fun c hc _ H5 l5 R r => ?_) (fun D H5 hD s5 e5 => ?_)
      · obtain ⟨od, ed⟩ := l5.at'
        have dg := tab_getF (f := fn) ed hc
        walk_at "go"
        refine v_lcS (l := a) (b := fun x => !decide (x ∈ fn c)) (f := fun x => V.str (tx [x])) (by omega) (fun x hx H6 s6 R2 r2 => ?_) (fun x hx _ H6 s6 R2 r2 => ?_) (fun D2 H6 hD2 s6 e6 => ?_)
        · have dg6 := tab_getF (f := fn) (s6 _ _ ed) hc
          walk_at "go"
          exact r2 H6 (Same.refl _)
        · walk_at "go"
          exact r2 H6 (Same.refl _)
        · walk_at "go"
          intro D3 H7 hD3 s7 e7
          have e6' : H7 D2 = some (.lst (((a.filter fun x => !decide (x ∈ fn c)).map fun x => [x]).map fun l => V.str (tx l))) := by
            rw [s7 _ _ e6, List.map_map]
            rfl
          refine v_eqNil e6' (fun l hl x hx => ?_) e7 ?_
          · obtain ⟨y, hy, rfl⟩ := List.mem_map.mp hl
            rw [List.mem_singleton.mp hx]
            have := LET_lt (tab.lt _ (ma _ (List.mem_filter.mp hy).1))
            omega
          walk_at "go"
          rw [show ((a.filter fun x => !decide (x ∈ fn c)).map fun x => [x]).isEmpty = (a.filter fun x => !decide (x ∈ fn c)).isEmpty by cases a.filter fun x => !decide (x ∈ fn c) <;> rfl]
          exact r H7 (s6.trans s7)
      · walk_at "go"
        exact r H5 (Same.refl _)
      have lG : (ls.filter fun c => (a.filter fun x => !decide (x ∈ fn c)).isEmpty).length ≤ 8 := Nat.le_trans (List.length_filter_le _ _) l8
      have mG : ∀ c ∈ ls.filter fun c => (a.filter fun x => !decide (x ∈ fn c)).isEmpty, c ∈ ls := fun c hc => (List.mem_filter.mp hc).1
      generalize (ls.filter fun c => (a.filter fun x => !decide (x ∈ fn c)).isEmpty) = G at e5 lG mG
      walk_at "go"
      have p5 := p4.same s5
      have k5 := k4.trans (Keep.of s5)
      refine ⟨g, 8, _, rfl, by omega, by omega, p5, by omega, fun m H6 m0 m1 p6 k6 => ?_⟩
      have nDp : D ≠ g.p := (p4.p_ne hD).symm
      have e6 := k6 _ _ e5 nDp
      replace k6 := k5.trans k6
      walk_at "go"
      intro wa hwa
      have hwp := p6.p_ne hwa
      have hwc := p6.cl_ne hwa
      have nDw : D ≠ wa := ne_of_none e6 hwa
      refine lc_it (walk_rI (fun i => ((i : Nat) : Int)) (fun k => Int.zero_add _)) (fun j H' => ∃ xs : List (List Nat), H' wa = some (.lst (xs.map fun l => V.str (tx l))) ∧ xs.length = j ∧ (∀ l ∈ xs, l.length ≤ 1 ∧ ∀ c ∈ l, c ∈ ls) ∧ PenAt g H' (n + 210 + j) ∧ Keep g.p H H' ∧ H' D = some (.lst (G.map fun c => V.str (tx [c])))) ⟨[], upd_same, rfl, (fun _ z => nomatch z), (p6.same (Same.new hwa)).mono (by omega), k6.trans (Keep.of (Same.new hwa)), Same.new hwa _ _ e6⟩ (fun _ _ _ _ => trivial) ?_ ?_
      · rintro j v H8 H9 hj ⟨xs, e8, w8, r8, p8, k8, f8⟩ ⟨rfl, rfl⟩
        have hj8 : j < 8 := by omega
        walk_at "go"
        refine ⟨rfl, ?_⟩
        walk_at "go"
        intro q1 H10 hq1 s10 e10
        refine v_cat (s10 _ _ f8) e10 (by rw [List.length_map]; show G.length + 1 ≤ 1000000; omega) fun q2 H11 hq2 s11 e11 => ?_
        have p11 := (p8.same s10).same s11
        refine ⟨g, _, q2, _, rfl, e11, by rw [List.length_append, List.length_map]; show 0 < G.length + 1; omega, by rw [List.length_append, List.length_map]; show G.length + 1 < 1000000; omega, p11, by omega, ((p8.same s10).p_ne hq2).symm, fun v H12 hv p12 k12 => ?_⟩
        obtain ⟨l, rfl, l1, ml⟩ : ∃ l : List Nat, v = .str (tx l) ∧ l.length ≤ 1 ∧ ∀ c ∈ l, c ∈ ls := by
          rcases List.mem_append.mp hv with z | z
          · obtain ⟨c, hc, rfl⟩ := List.mem_map.mp z
            exact ⟨[c], rfl, Nat.le_refl _, fun x hx => by rw [List.mem_singleton.mp hx]; exact mG c hc⟩
          · rw [List.mem_singleton.mp z]
            exact ⟨[], rfl, Nat.zero_le _, fun _ z => nomatch z⟩
        have k12 := (Keep.of (s10.trans s11)).trans k12
        have eW := k12 _ _ e8 hwp.symm
        refine ⟨_, eW, szlt (by rw [List.length_map]; omega), xs ++ [l], ?_, by rw [List.length_append, w8]; rfl, ?_, ?_, ?_, ?_⟩
        · rw [upd_same, List.map_append]
          rfl
        · intro y hy
          rcases List.mem_append.mp hy with z | z
          · exact r8 y z
          · rw [List.mem_singleton.mp z]
            exact ⟨l1, ml⟩
        · exact (p12.keep Keep.put hwp hwc).mono (by omega)
        · intro b o hb nb
          rw [upd_ne (ne_of_none (k6 _ _ hb nb) hwa)]
          exact k12 _ _ (k8 _ _ hb nb) nb
        · rw [upd_ne nDw]
          exact k12 _ _ f8 nDp
      rintro H8 ⟨xs, e8, w8, r8, p8, k8, f8⟩
      have fl := flat_le fun l hl => (r8 l hl).1
      walk_at "go"
      refine v_join e8 (by omega) ?_
      refine ⟨xs.flatten, _, _, _, _, rfl, fun c hc => ?_, by omega, p8.mono (by omega), k8⟩
      obtain ⟨l, hl, h⟩ := List.mem_flatten.mp hc
      exact (r8 l hl).2 c h
    · walk_at "go"
      exact ⟨b, _, _, _, _, rfl, mb, lb, p4.mono (by omega), k4⟩
  rintro σ' H4 ⟨b', x4, x5, x6, x7, rfl, mb', lb', p4, k4⟩
  walk_at "go"
  intro tp2 H5 htp2 s5 e5
  exact k a b' tp2 H5 ma mb' la lb' e5 ((p4.same s5).mono (by omega)) (k4.trans (Keep.of s5))
end
end
section
open PySem PySem.Spec L2
/-! ### lists of vectors -/
theorem paired_get {α β : Type} {r : α → β → Prop} : ∀ {as : List α} {bs : List β} {k : Nat} (da : α) (db : β), Paired r as bs → k < bs.length → r (as.getD k da) (bs.getD k db)
  | _, _, 0, _, _, .cons h _, _ => h
  | _, _, k + 1, da, db, .cons _ t, hk => paired_get (k := k) da db t (by simpa using hk)
theorem paired_pick {α β : Type} {r : α → β → Prop} {as : List α} {bs : List β} (da : α) (db : β) (h : Paired r as bs) : ∀ (ks : List Nat), (∀ k ∈ ks, k < bs.length) → Paired r (ks.map fun k => as.getD k da) (ks.map fun k => bs.getD k db)
  | [], _ => .nil
  | k :: r', hk => .cons (paired_get da db h (hk k (List.mem_cons_self ..))) (paired_pick da db h r' fun j hj => hk j (List.mem_cons_of_mem _ hj))
theorem filt_range {α : Type} (d : α) (b : α → Bool) (us : List α) : us.filter b = ((List.range us.length).filter fun k => b (us.getD k d)).map fun k => us.getD k d := by
  have e : us = (List.range us.length).map fun k => us.getD k d := by
    apply List.ext_getElem
    · simp
    · intro i h1 h2
      rw [List.getElem_map, List.getElem_range, List.getD_eq_getElem?_getD, List.getElem?_eq_getElem h1]
      rfl
  rw (config := { occs := .pos [1] }) [e]
  rw [List.filter_map]
  rfl
section
variable {K : PySem.W.Frag} {H : Hp} {ls : List Nat} {us : List (Nat → Int)} {As : List Addr} {D0 : Addr} {σ : St} {i : Nat} {tt : TT} {te : TE} {P : Addr → Hp → Prop}
theorem walk_refs (hl : As.length = us.length) : Walk (Itl K D0) us.length (fun H => SqL K H D0 (As.map V.ref)) (YFn fun k => V.ref (As.getD k 0)) := by
  have w := walk_list (K := K) (a := D0) (xs := As.map V.ref)
  rw [List.length_map, hl] at w
  refine w.mono (fun _ z => z) fun k H x H' hk _ y => ?_
  obtain ⟨rfl, e⟩ := y
  refine ⟨rfl, ?_⟩
  rw [List.getElem?_map, List.getElem?_eq_getElem (by omega)] at e
  injection e with e
  show x = V.ref (As.getD k 0)
  rw [← e, List.getD_eq_getElem?_getD, List.getElem?_eq_getElem (by omega)]
  rfl
/-- [u for u in us if b(u)] of vectors -/
theorem filtV (e : H D0 = some (.lst (As.map V.ref))) (pr : Paired (fun a u => H a = some (.tup (vecV ls u))) As us) (hn : us.length ≤ 1000000) (b : (Nat → Int) → Bool)
    (ht : ∀ a u, u ∈ us → H a = some (.tup (vecV ls u)) → ∀ H1, Same H H1 → ∀ R : Bool → Hp → Prop, (∀ H2, Same H1 H2 → R (b u) H2) → tt ((wipe σ [i]).set i (some (.ref a))) H1 R)
    (he : ∀ a H1, ∀ R : VK, R (.ref a) H1 → te ((wipe σ [i]).set i (some (.ref a))) H1 R)
    (q : ∀ D H', H D = none → Same H H' → VecsAt H' D ls (us.filter b) → P D H') :
    ∀ D, H D = none → ∃ W : Nat → Nat → Hp → Prop, (∃ m, W 0 m (upd H D (.lst []))) ∧ ∀ k m H, W k m H →
      ((Itl K D0).stop k H ∧ P D H) ∨ ((Itl K D0).go k H ∧ ∃ Nx : Hp → Prop, (∀ H', Nx H' → ∃ m', m' < m ∧ W (k + 1) m' H') ∧ ∀ x H', (Itl K D0).yld k H x H' → (gName i) x (wipe σ [i]) H' fun s2 H2 => wipe s2 [i] = wipe σ [i] ∧ tt s2 H2 fun c H3 =>
        if c = true then te s2 H3 fun y H4 => ∃ acc, H4 D = some (.lst acc) ∧ acc.length < sizeLine ∧ Nx (upd H4 D (.lst (acc ++ [y]))) else Nx H3) := by
  have hl := paired_len pr
  refine lc_gen (n := us.length) (it := fun k => V.ref (As.getD k 0)) (b := fun k => b (us.getD k fun _ => 0)) (f := fun k => V.ref (As.getD k 0)) (walk_refs hl) (fun H' s' => SqL.of (s' _ _ e)) hn (fun k hk H1 s1 R r => ?_) (fun k hk c H1 s1 R r => ?_) (fun D H' hD s' e' => ?_)
  · have hu : us.getD k (fun _ => 0) ∈ us := by
      rw [List.getD_eq_getElem?_getD, List.getElem?_eq_getElem hk]
      exact List.getElem_mem hk
    exact ht _ _ hu (paired_get 0 (fun _ => 0) pr hk) H1 s1 R r
  · exact he _ H1 R (r H1 (Same.refl _))
  · refine q D H' hD s' ⟨((List.range us.length).filter fun k => b (us.getD k fun _ => 0)).map fun k => As.getD k 0, ?_, ?_⟩
    · rw [e', List.map_map]
      rfl
    · rw [filt_range (fun _ => 0) b us]
      exact paired_imp (fun a u h => s' _ _ h) (paired_pick 0 (fun _ => 0) pr _ fun k hk => List.mem_range.mp (List.mem_filter.mp hk).1)
theorem VecsAt.cat {Q : VK} {D1 D2 : Addr} {vs : List (Nat → Int)} (h1 : VecsAt H D1 ls us) (h2 : VecsAt H D2 ls vs) (hl : us.length + vs.length ≤ 1000000) (q : ∀ D H', H D = none → Same H H' → VecsAt H' D ls (us ++ vs) → Q (.ref D) H') : rCat (.ref D1) (.ref D2) H Q := by
  obtain ⟨As, a1, a2⟩ := h1.ex
  obtain ⟨Bs, b1, b2⟩ := h2.ex
  have la := paired_len a2
  have lb := paired_len b2
  refine v_cat a1 b1 (by rw [List.length_map, List.length_map]; omega) fun D H' hD s' e' => q D H' hD s' ⟨As ++ Bs, by rw [e', List.map_append], ?_⟩
  have app : ∀ {A : List Addr} {U : List (Nat → Int)}, Paired (fun a u => H' a = some (.tup (vecV ls u))) A U → Paired (fun a u => H' a = some (.tup (vecV ls u))) (A ++ Bs) (U ++ vs) := fun {A U} p => by
    induction p with
    | nil => exact paired_imp (fun _ _ h => s' _ _ h) b2
    | cons h _ ih => exact .cons h ih
  exact app (paired_imp (fun _ _ h => s' _ _ h) a2)
theorem v_lenV {Q : VK} {D : Addr} (h : VecsAt H D ls us) (q : Q (.int (us.length : Nat)) H) : rLen K [.ref D] H Q := by
  obtain ⟨As, e, p⟩ := h.ex
  refine v_len e ?_
  rw [List.length_map, paired_len p]
  exact q
theorem v_neNilV {Q : VK} {D q : Addr} (h : VecsAt H D ls us) (hq : H q = some (.lst [])) (k : Q (.bl (!us.isEmpty)) H) : rNeD K (.ref D) (.ref q) H Q := by
  obtain ⟨As, e, p⟩ := h.ex
  refine ⟨.list (us.map (vecD ls)), .list [], .lst (SqL.of e) (dp_vecs p), .lst (SqL.of hq) .nil, shaped_vecs ls us, shaped_nil, ?_⟩
  rw [eqv_nil, List.isEmpty_map]
  exact k
theorem v_notInV {Q : VK} {p D : Addr} {v : Nat → Int} (h1 : H p = some (.tup (vecV ls v))) (h2 : VecsAt H D ls us) (k : Q (.bl (!decide (∃ u ∈ us, ∀ x ∈ ls, u x = v x))) H) : rNotInD K (.ref p) (.ref D) H Q := by
  obtain ⟨As, e, pr⟩ := h2.ex
  refine ⟨vecD ls v, us.map (vecD ls), .tup (SqT.of h1) (dp_vec _ _), .lst (SqL.of e) (dp_vecs pr), shaped_intsT _, shaped_vecs ls us, ?_⟩
  have e2 : ((us.map (vecD ls)).any fun z => PyData.eqv z (vecD ls v)) = decide (∃ u ∈ us, ∀ x ∈ ls, u x = v x) := by
    rw [List.any_map, Bool.eq_iff_iff, List.any_eq_true, decide_eq_true_iff]
    exact ⟨fun ⟨u, hu, h⟩ => ⟨u, hu, by simpa [eqv_vec] using h⟩, fun ⟨u, hu, h⟩ => ⟨u, hu, by simpa [eqv_vec] using h⟩⟩
  rw [e2]
  exact k
theorem VecsAt.pen {D : Addr} {g : Pen} {n : Nat} {H' : Hp} (h : VecsAt H D ls us) (p : PenAt g H n) (kp : Keep g.p H H') : VecsAt H' D ls us := by
  obtain ⟨As, e, pr⟩ := h.ex
  obtain ⟨_, _, h1, _⟩ := p.ex
  exact ⟨As, kp _ _ e (ne_of e h1 (by intro z; cases z)), paired_imp (fun a u z => kp _ _ z (ne_of z h1 (by intro z; cases z))) pr⟩
theorem VecsAt.keep {D p : Addr} {l : List V} {H' : Hp} (h : VecsAt H p ls us) (n : p ≠ D) (e0 : H D = some (.lst l)) (k : Keep D H H') : VecsAt H' p ls us := by
  obtain ⟨As, e, pr⟩ := h.ex
  exact ⟨As, k _ _ e n, paired_imp (fun a u z => k _ _ z (ne_of z e0 (by intro z; cases z))) pr⟩
/-- [crossed(..) for x in ..]: new lists of vectors -/
theorem lc_vecs {J : It} {n : Nat} {G : Hp → Prop} {it : Nat → V} (U : Nat → List (Nat → Int)) (w : Walk J n G (fun k H x H' => H' = H ∧ x = it k)) (hG : ∀ H', Same H H' → G H') (hn : n ≤ 1000000)
    (ht : ∀ k, k < n → ∀ H1, Same H H1 → ∀ R : Bool → Hp → Prop, (∀ H2, Same H1 H2 → R true H2) → tt ((wipe σ [i]).set i (some (it k))) H1 R)
    (he : ∀ k, k < n → ∀ H1, Same H H1 → ∀ R : VK, (∀ p H2, H1 p = none → Same H1 H2 → VecsAt H2 p ls (U k) → R (.ref p) H2) → te ((wipe σ [i]).set i (some (it k))) H1 R)
    (q : ∀ D H' (ps : List Addr), H D = none → Same H H' → H' D = some (.lst (ps.map V.ref)) → ps.length = n → (∀ k p, ps[k]? = some p → VecsAt H' p ls (U k)) → P D H') :
    ∀ D, H D = none → ∃ W : Nat → Nat → Hp → Prop, (∃ m, W 0 m (upd H D (.lst []))) ∧ ∀ k m H, W k m H →
      (J.stop k H ∧ P D H) ∨ (J.go k H ∧ ∃ Nx : Hp → Prop, (∀ H', Nx H' → ∃ m', m' < m ∧ W (k + 1) m' H') ∧ ∀ x H', J.yld k H x H' → (gName i) x (wipe σ [i]) H' fun s2 H2 => wipe s2 [i] = wipe σ [i] ∧ tt s2 H2 fun c H3 =>
        if c = true then te s2 H3 fun y H4 => ∃ acc, H4 D = some (.lst acc) ∧ acc.length < sizeLine ∧ Nx (upd H4 D (.lst (acc ++ [y]))) else Nx H3) := by
  intro D hD
  refine lc_it w (vs := [i]) (σ := σ) (g := gName i) (tt := tt) (te := te) (Qd := fun H' => P D H') (fun k H' => Same H H' ∧ ∃ ps : List Addr, H' D = some (.lst (ps.map V.ref)) ∧ ps.length = k ∧ ∀ j p, ps[j]? = some p → p ≠ D ∧ VecsAt H' p ls (U j))
    ⟨Same.new hD, [], upd_same, rfl, fun j p z => by simp at z⟩ (fun k H' _ p => hG H' p.1) (fun k x H1 H2 hk p y => ?_) (fun H' p => ?_)
  · obtain ⟨p1, ps, p2, p3, p4⟩ := p
    obtain ⟨rfl, rfl⟩ := y
    refine ⟨wipe1, ht k hk _ p1 _ fun H3 s3 => ?_⟩
    rw [if_pos rfl]
    refine he k hk _ (p1.trans s3) _ fun v H4 hv s4 r4 => ?_
    have e3 := s3 _ _ p2
    have e4 := s4 _ _ e3
    have nv : v ≠ D := (ne_of_none e3 hv).symm
    refine ⟨ps.map V.ref, e4, szlt (by rw [List.length_map]; omega), fun a o ha => ?_, ps ++ [v], ?_, by rw [List.length_append, p3]; rfl, fun j u hj => ?_⟩
    · rw [upd_ne (ne_of_none ha hD)]
      exact s4 _ _ (s3 _ _ (p1 _ _ ha))
    · rw [upd_same, List.map_append]
      rfl
    · by_cases c : j < ps.length
      · rw [List.getElem?_append_left c] at hj
        obtain ⟨n1, n2⟩ := p4 j u hj
        exact ⟨n1, ((n2.same s3).same s4).keep n1 e4 Keep.put⟩
      · rw [List.getElem?_append_right (by omega)] at hj
        have hj0 : j - ps.length = 0 := by
          have := (List.getElem?_eq_some_iff.mp hj).1
          simp at this
          omega
        rw [hj0] at hj
        injection hj with hj
        subst hj
        have : j = k := by omega
        subst this
        exact ⟨nv, r4.keep nv e4 Keep.put⟩
  · obtain ⟨p1, ps, p2, p3, p4⟩ := p
    exact q D H' ps hD p1 p2 p3 fun k p hk => (p4 k p hk).2
end
end
section
open PySem PySem.Spec L2
section
variable {P : Program} {w : World} {K : PySem.W.Frag} {mg : Str → Option Value} {base : Heap}
end
section
variable {K : PySem.W.Frag} {H : Hp} {ls : List Nat} {us : List (Nat → Int)} {As : List Addr} {D0 : Addr} {σ : St} {i : Nat} {tt : TT} {te : TE} {P : Addr → Hp → Prop}
/-- [e for x in ..]: e makes a new object each time -/
theorem lc_mapF {J : It} {n : Nat} {G : Hp → Prop} {it : Nat → V} (Rel : Nat → Addr → Hp → Prop) (w : Walk J n G (fun k H x H' => H' = H ∧ x = it k)) (hG : ∀ H', Same H H' → G H') (hn : n ≤ 1000000)
    (m1 : ∀ k p H1 H2, Rel k p H1 → Same H1 H2 → Rel k p H2) (m2 : ∀ k p H1 H2 D l, Rel k p H1 → p ≠ D → H1 D = some (.lst l) → Keep D H1 H2 → Rel k p H2)
    (ht : ∀ k, k < n → ∀ H1, Same H H1 → ∀ R : Bool → Hp → Prop, (∀ H2, Same H1 H2 → R true H2) → tt ((wipe σ [i]).set i (some (it k))) H1 R)
    (he : ∀ k, k < n → ∀ H1, Same H H1 → ∀ R : VK, (∀ p H2, H1 p = none → Same H1 H2 → Rel k p H2 → R (.ref p) H2) → te ((wipe σ [i]).set i (some (it k))) H1 R)
    (q : ∀ D H' (ps : List Addr), H D = none → Same H H' → H' D = some (.lst (ps.map V.ref)) → ps.length = n → (∀ k p, ps[k]? = some p → Rel k p H') → P D H') :
    ∀ D, H D = none → ∃ W : Nat → Nat → Hp → Prop, (∃ m, W 0 m (upd H D (.lst []))) ∧ ∀ k m H, W k m H →
      (J.stop k H ∧ P D H) ∨ (J.go k H ∧ ∃ Nx : Hp → Prop, (∀ H', Nx H' → ∃ m', m' < m ∧ W (k + 1) m' H') ∧ ∀ x H', J.yld k H x H' → (gName i) x (wipe σ [i]) H' fun s2 H2 => wipe s2 [i] = wipe σ [i] ∧ tt s2 H2 fun c H3 =>
        if c = true then te s2 H3 fun y H4 => ∃ acc, H4 D = some (.lst acc) ∧ acc.length < sizeLine ∧ Nx (upd H4 D (.lst (acc ++ [y]))) else Nx H3) := by
  intro D hD
  refine lc_it w (vs := [i]) (σ := σ) (g := gName i) (tt := tt) (te := te) (Qd := fun H' => P D H') (fun k H' => Same H H' ∧ ∃ ps : List Addr, H' D = some (.lst (ps.map V.ref)) ∧ ps.length = k ∧ ∀ j p, ps[j]? = some p → p ≠ D ∧ Rel j p H')
    ⟨Same.new hD, [], upd_same, rfl, fun j p z => by simp at z⟩ (fun k H' _ p => hG H' p.1) (fun k x H1 H2 hk p y => ?_) (fun H' p => ?_)
  · obtain ⟨p1, ps, p2, p3, p4⟩ := p
    obtain ⟨rfl, rfl⟩ := y
    refine ⟨wipe1, ht k hk _ p1 _ fun H3 s3 => ?_⟩
    rw [if_pos rfl]
    refine he k hk _ (p1.trans s3) _ fun v H4 hv s4 r4 => ?_
    have e3 := s3 _ _ p2
    have e4 := s4 _ _ e3
    have nv : v ≠ D := (ne_of_none e3 hv).symm
    refine ⟨ps.map V.ref, e4, szlt (by rw [List.length_map]; omega), fun a o ha => ?_, ps ++ [v], ?_, by rw [List.length_append, p3]; rfl, fun j u hj => ?_⟩
    · rw [upd_ne (ne_of_none ha hD)]
      exact s4 _ _ (s3 _ _ (p1 _ _ ha))
    · rw [upd_same, List.map_append]
      rfl
    · by_cases c : j < ps.length
      · rw [List.getElem?_append_left c] at hj
        obtain ⟨n1, n2⟩ := p4 j u hj
        exact ⟨n1, m2 _ _ _ _ _ _ (m1 _ _ _ _ (m1 _ _ _ _ n2 s3) s4) n1 e4 Keep.put⟩
      · rw [List.getElem?_append_right (by omega)] at hj
        have hj0 : j - ps.length = 0 := by
          have := (List.getElem?_eq_some_iff.mp hj).1
          simp at this
          omega
        rw [hj0] at hj
        injection hj with hj
        subst hj
        have : j = k := by omega
        subst this
        exact ⟨nv, m2 _ _ _ _ _ _ r4 nv e4 Keep.put⟩
  · obtain ⟨p1, ps, p2, p3, p4⟩ := p
    exact q D H' ps hD p1 p2 p3 fun k p hk => (p4 k p hk).2
end
end
section
open PySem PySem.Spec L2
structure TxtJ (K : PySem.W.Frag) (mg : Str → Option Value) (C R O : Addr) : Prop extends TxtG K mg C R O where
  min : mg "min" = none
theorem v_gLst2 {K : PySem.W.Frag} {n i j : Nat} {σ : L2.St} {H : Hp} {Q : L2.St → Hp → Prop} {p : Addr} {a b : V} (hn : n = 2) (h : H p = some (.lst [a, b])) (q : Q ((σ.set i (some a)).set j (some b)) H) : gLst K n (gCons (gName i) (gCons (gName j) gNil)) (.ref p) σ H Q :=
  ⟨p, _, rfl, SqL.of h, hn.symm, a, [b], rfl, b, [], rfl, rfl, q⟩
section
variable {K : PySem.W.Frag} {C R W : Addr} {H H' : Hp} {ls : List Nat} {fn : Nat → List Nat} {Q : VK} {E : XK}
theorem v_sameR {M : List Nat} {r r' x y : Addr} (fl : Fl ls fn) (h1 : RoomAt R H r x M) (h2 : RoomAt R H r' y M) (p1 : PlanAt C H x (ascOf ls) (tabPairs ls fn)) (p2 : PlanAt C H y (ascOf ls) (tabPairs ls fn)) (l : M.length ≤ 2000) (q : Q (.bl true) H) : rM2 R (spRoomEq C R) E (.ref r) (.ref r') H Q := by
  obtain ⟨d1, e1⟩ := h1.ex
  obtain ⟨d2, e2⟩ := h2.ex
  have ps := pairsOf_small (ls.flatMap fun a => (fn a).map fun b => ascOf [a, b])
  refine v_M2 e1 e2 ⟨_, _, _, _, _, _, true, rfl, ⟨h1, h2, ⟨_, _, _, _, p1, p2, ps, ps, (decide_eq_true ⟨rfl, rfl⟩).symm⟩, by omega, by omega⟩, ?_⟩
  rw [Bool.true_and, decide_eq_true rfl]
  exact q
/-- two tuples of the same two texts -/
theorem v_neTup {p q : Addr} {a b : List Nat} (h1 : H p = some (.tup [.str (tx a), .str (tx b)])) (h2 : H q = some (.tup [.str (tx a), .str (tx b)])) (ha : ∀ c ∈ a, c < 1000) (hb : ∀ c ∈ b, c < 1000) (k : Q (.bl false) H) : rNeD K (.ref p) (.ref q) H Q := by
  have h1 : H p = some (.tup (([a, b].map tx).map V.str)) := h1
  have h2 : H q = some (.tup (([a, b].map tx).map V.str)) := h2
  have hx : ∀ l ∈ [a, b], ∀ c ∈ l, c < 1000 := by
    intro l hl
    rcases List.mem_cons.mp hl with rfl | hl
    · exact ha
    · rw [List.mem_singleton.mp hl]
      exact hb
  refine ⟨.tuple (([a, b].map tx).map PyData.str), .tuple (([a, b].map tx).map PyData.str), .tup (SqT.of h1) (dp_strs _), .tup (SqT.of h2) (dp_strs _), shaped_strsT _ (ok_strs hx), shaped_strsT _ (ok_strs hx), ?_⟩
  have e : PyData.eqv (.tuple (([a, b].map tx).map PyData.str)) (.tuple (([a, b].map tx).map PyData.str)) = true := by
    show PyData.eqvAll _ _ = _
    rw [eqvAll_strs, decide_eq_true rfl]
  rw [e]
  exact k
theorem ShutsAt.lst {p D : Addr} {keys : List (List Nat)} {l : List V} (h : ShutsAt H p ls fn keys) (n : p ≠ D) (e : H D = some (.lst l)) (k : Keep D H H') : ShutsAt H' p ls fn keys := by
  obtain ⟨As, e1, pr⟩ := h.ex
  exact ⟨As, k _ _ e1 n, paired_imp (fun a key ⟨v, e2, e3⟩ => ⟨v, k _ _ e2 (ne_of e2 e (by intro z; cases z)), k _ _ e3 (ne_of e3 e (by intro z; cases z))⟩) pr⟩
theorem s_hide2 {t : TS} {D0 : Ends} {σ : L2.St} {H : Hp} (h : ∀ D : Ends, (∀ σ H, D0.nx σ H → D.nx σ H) → (∀ σ H, D0.ct σ H → D.ct σ H) → t D σ H) : t D0 σ H := h D0 (fun _ _ z => z) fun _ _ z => z
theorem s_tail {t u : TS} {D : Ends} {σ : L2.St} {H : Hp} (h : ∀ U : TS, (∀ D σ H, u D σ H → U D σ H) → tSeq t U D σ H) : tSeq t u D σ H := h u fun _ _ _ z => z
theorem crL_len (n : List Nat) : (crL fn n).length = n.length := by
  unfold crL
  rw [List.length_map, List.length_range]
theorem mid_one (ok : CrOk fn) {a b M N : List Nat} (h : MidX fn ls [] a b M) (h' : MidX fn ls [] a b N) : M = N := h.toMid.uniq ok h'.toMid fun z hz s hs => Iff.rfl
theorem mid_swap (ok : CrOk fn) {a b M N : List Nat} (h : MidX fn ls [] b a M) (h' : MidX fn ls [] a b N) : M = N := h.toMid.uniq ok h'.toMid fun z hz s hs => by
  constructor
  · rintro (h | h | h)
    · exact .inr (.inl h)
    · exact .inl h
    · exact .inr (.inr ⟨h.2, h.1⟩)
  · rintro (h | h | h)
    · exact .inr (.inl h)
    · exact .inl h
    · exact .inr (.inr ⟨h.2, h.1⟩)
/-- the sorted keys of the walls of a way -/
def ShutsOf (fn : Nat → List Nat) (ls M u : List Nat) (H : Hp) (p : Addr) : Prop := ∃ keys : List (List Nat), keys.Perm (keyI fn M u u.length) ∧ keys.Pairwise shortLe ∧ ShutsAt H p ls fn keys
end
section
variable {P : Program} {w : World} {K : PySem.W.Frag} {mg : Str → Option Value} {base : Heap} {C R O W e0 : Addr}
abbrev stlaw : Stmt := (top 79)
abbrev Nlaw : List Str := ["_law_script", "_law_pen_here", "_law_again", "_law_table", "_law_begun_here", "_law_first", "_law_second", "_law_here", "_law_there", "_law_sets_here", "_law_both", "_law_start", "_law_found", "_law_ways_on", "_law_mine", "_law_yours", "_law_due", "_law_told_here", "_law_room_here", "_law_mark", "_law_walk_here"]
theorem sclaw : FnScope Nlaw ["_law_script"] (defScope stlaw) := ⟨rfl, rfl, rfl, by decide +kernel, rfl, by decide +kernel, by decide +kernel⟩

theorem ok_law {f : Addr} {fd : FuncData} (F : Fun K "law" "law" stlaw f fd) (T : TxtJ K mg C R O) (D_pen : Def P w K mg base CX0 1 "_law_pen" ["_law_script"] (spPen K)) (D_floor : Def P w K mg base CX0 3 "_law_floor" ["_law_pen_here", "_law_number"] spFloor) (D_begun : Def P w K mg base CX0 4 "_law_begun" ["_law_pen_here", "_law_table", "_law_number", "_law_size"] spBegun) (D_drawn : Def P w K mg base CX0 4 "_law_drawn" ["_law_pen_here", "_law_table"] spDrawn) (D_rooms : Def P w K mg base CX0 6 "_law_rooms" ["_law_pen_here", "_law_table", "_law_walks"] (spRooms C R))
    (D_crossed : Def P w K mg base CX0 2 "_law_crossed" ["_law_table", "_law_name_here"] spCrossed) (D_name : Def P w K mg base CX0 3 "_law_name" ["_law_table", "_law_walk_here"] spName) (D_plain : Def P w K mg base CX0 1 "_law_plain" ["_law_table"] spPlain) (D_common : Def P w K mg base CX0 6 "common" ["one", "other"] (spCommon C R)) (D_common_0_other_one : DefN P w K mg base CX0 6 "common" (spCommon C R) 0 ["other", "one"] [.kw 1, .kw 0] [])
    (D_ordered_shuts : Def P w K mg base CX0 5 "_law_ordered_shuts" ["_law_table", "_law_walk_here", "_law_behind"] spShuts) (D_first_apart : Def P w K mg base CX0 2 "_law_first_apart" ["_law_table", "_law_mine", "_law_yours"] spApart) (D_told : Def P w K mg base CX0 9 "_law_told" ["_law_here", "_law_there"] (spToldB C R W)) (D_plain_right : Def P w K mg base CX0 7 "_law_plain_right" ["_law_bare", "_law_walks"] spPlainRight)
    (M_Room_eq : MDef P w K mg base CX0 2 R "__eq__" ["self", "other"] (spRoomEq C R)) (M_Room_len : MDef P w K mg base CX0 1 R "__len__" ["self"] (spRoomLen R)) : FnOk P w K mg base CX0 10 f fd ["_law_script"] (spLaw K) := by
  refine F.ok sclaw (fun vs H Q E h => ?_) (fun cdv A outer s H vs Q E hr h => ?_)
  · obtain ⟨a, ns, rfl, _⟩ := h
    rfl
  obtain ⟨sc, ns, rfl, ha, hn, k⟩ := h
  have hu := hu_of hr
  have nd := sclaw.nd
  replace D_pen := D_pen.mono (show 1 ≤ 9 by decide)
  replace D_floor := D_floor.mono (show 3 ≤ 9 by decide)
  replace D_begun := D_begun.mono (show 4 ≤ 9 by decide)
  replace D_drawn := D_drawn.mono (show 4 ≤ 9 by decide)
  replace D_rooms := D_rooms.mono (show 6 ≤ 9 by decide)
  replace D_crossed := D_crossed.mono (show 2 ≤ 9 by decide)
  replace D_name := D_name.mono (show 3 ≤ 9 by decide)
  replace D_plain := D_plain.mono (show 1 ≤ 9 by decide)
  replace D_common := D_common.mono (show 6 ≤ 9 by decide)
  replace D_common_0_other_one := D_common_0_other_one.mono (show 6 ≤ 9 by decide)
  replace D_ordered_shuts := D_ordered_shuts.mono (show 5 ≤ 9 by decide)
  replace D_first_apart := D_first_apart.mono (show 2 ≤ 9 by decide)
  replace D_plain_right := D_plain_right.mono (show 7 ≤ 9 by decide)
  replace M_Room_eq := M_Room_eq.mono (show 2 ≤ 9 by decide)
  replace M_Room_len := M_Room_len.mono (show 1 ≤ 8 by decide)
  have clR := T.Room.cl
  have nNm := T.nNm
  have nPl := T.nPl
  refine ⟨_, (pss_cons (ps_set (i := 1) nd rfl (Or.inl rfl) (pe_cd D_pen hr pass0 (pa_cons (pv 0) pa_nil)))
      (pss_cons (ps_for PassesOwn.never rfl (pi_range1 (by rfl) T.range (pa_cons (pe_op op_add pe_int (pe_callB (call_min2 rfl) (by rfl) T.min (by decide +kernel) (pa_cons pe_int (pa_cons (pe_callB (c_lenK (K := K) rfl) (by rfl) T.len PySem.boot_len (pa_cons (pv 0) pa_nil)) pa_nil)))) pa_nil)) (pg_name (i := 2) nd rfl (Or.inl rfl))
      (pss_cons (ps_set (i := 3) nd rfl (Or.inr rfl) (pe_cd D_floor hr pass0 (pa_cons (pv 1) (pa_cons pe_int pa_nil))))
        (pss_cons (ps_set (i := 4) nd rfl (Or.inl rfl) (pe_cd D_begun hr pass0 (pa_cons (pv 1) (pa_cons (pv 3) (pa_cons pe_int (pa_cons pe_int pa_nil))))))
        (pss_cons (ps_asg (pe_cd D_drawn hr pass0 (pa_cons (pv 1) (pa_cons (pv 3) pa_nil))) (pg_tup rfl (pgs_cons (pg_name (i := 5) nd rfl (Or.inl rfl)) (pgs_cons (pg_name (i := 6) nd rfl (Or.inl rfl)) pgs_nil))))
        (pss_cons (ps_asg (pe_cd D_rooms hr pass0 (pa_cons (pv 1) (pa_cons (pv 3) (pa_cons (pe_lst (pa_cons (pe_op op_addS (pv 4) (pv 5)) (pa_cons (pe_op op_addS (pv 4) (pv 6)) pa_nil))) pa_nil)))) (pg_lstK (K := K) rfl rfl (pgs_cons (pg_name (i := 7) nd rfl (Or.inl rfl)) (pgs_cons (pg_name (i := 8) nd rfl (Or.inl rfl)) pgs_nil))))
        (pss_cons (ps_set (i := 9) nd rfl (Or.inr rfl) (pe_lc (own := [("_law_room_here", 18)]) (g := gName 18) (by rfl) nd (pi_listK (K := K) rfl (pe_lst (pa_cons (pv 7) (pa_cons (pv 8) pa_nil)))) (blkOk_by (own := [("_law_room_here", 18)]) (N := Nlaw) (sc := defScope stlaw) (by decide +kernel)) (fun _ _ _ _ _ => (pg_name (i := 18) nd rfl (Or.inl rfl))) (fun _ _ _ _ _ => pts_nil) (fun _ _ _ _ _ => (pe_cd D_crossed hr pass0 (pa_cons (pv 3) (pa_cons (pe_flK (K := K) rfl (pv 18) rfl) pa_nil))))))
        (pss_cons (ps_setLc (i := 10) (own := [("_law_mark", 19)]) (g := gName 19) (by rfl) nd rfl rfl (sw_true rfl rfl rfl (by decide +kernel)) (pi_listK (K := K) rfl (pe_ix (ix_LK (K := K) rfl) (pv 9) pe_int (fun _ _ => rfl))) (blkOk_by (own := [("_law_mark", 19)]) (N := Nlaw) (sc := defScope stlaw) (by decide +kernel)) (fun _ _ _ _ _ => (pg_name (i := 19) nd rfl (Or.inl rfl))) (fun _ _ _ _ _ => (pts_one (pt_cmpR (op_inDK (K := K) rfl (units65 hr)) (pv 19) (pe_ix (ix_LK (K := K) rfl) (pv 9) pe_int (fun _ _ => rfl)) (by rfl)))) (fun _ _ _ _ _ => (pv 19)))
        (pss_cons (ps_set (i := 11) nd rfl (Or.inr rfl) (pe_cd D_common hr pass0 (pa_cons (pv 7) (pa_cons (pv 8) pa_nil))))
        (pss_cons (ps_set (i := 12) nd rfl (Or.inr rfl) (pe_cd D_crossed hr pass0 (pa_cons (pv 3) (pa_cons (pe_flK (K := K) rfl (pv 11) rfl) pa_nil))))
        (pss_cons (ps_if (PW.pt (pw_or (pt_cmpR op_ne (pe_callB (c_lenK (K := K) rfl) (by rfl) T.len PySem.boot_len (pa_cons (pv 12) pa_nil)) (pe_callB (c_lenK (K := K) rfl) (by rfl) T.len PySem.boot_len (pa_cons (pv 10) pa_nil)) (nomark _)) (pw_or1 (pt_cmpR (op_neDK (K := K) rfl hr.units) (pe_lc (own := [("_law_mark", 19)]) (g := gName 19) (by rfl) nd (pi_listK (K := K) rfl (pv 10)) (blkOk_by (own := [("_law_mark", 19)]) (N := Nlaw) (sc := defScope stlaw) (by decide +kernel)) (fun _ _ _ _ _ => (pg_name (i := 19) nd rfl (Or.inl rfl))) (fun _ _ _ _ _ => (pts_one (pt_cmpR (op_notInDK (K := K) rfl (units65 hr)) (pv 19) (pv 12) (by rfl)))) (fun _ _ _ _ _ => (pv 19))) (pe_lst pa_nil) (nomark _)))))
        (pss_one (ps_ret pe_bl))
        pss_nil)
        (pss_cons (ps_setLc (i := 13) (own := [("_law_room_here", 18)]) (g := gName 18) (by rfl) nd rfl rfl (sw_true rfl rfl rfl (by decide +kernel)) (pi_listK (K := K) rfl (pe_lst (pa_cons (pv 7) (pa_cons (pv 8) pa_nil)))) (blkOk_by (own := [("_law_room_here", 18)]) (N := Nlaw) (sc := defScope stlaw) (by decide +kernel)) (fun _ _ _ _ _ => (pg_name (i := 18) nd rfl (Or.inl rfl))) (fun _ _ _ _ _ => pts_nil) (fun _ _ _ _ _ => (pe_cd D_name hr pass0 (pa_cons (pv 3) (pa_cons (pe_op op_addS (pe_revS (pe_flK (K := K) rfl (pv 11) rfl)) (pe_flK (K := K) rfl (pv 18) rfl)) pa_nil)))))
        (pss_cons (ps_asg (pe_lc (own := [("_law_walk_here", 20)]) (g := gName 20) (by rfl) nd (pi_listK (K := K) rfl (pv 13)) (blkOk_by (own := [("_law_walk_here", 20)]) (N := Nlaw) (sc := defScope stlaw) (by decide +kernel)) (fun _ _ _ _ _ => (pg_name (i := 20) nd rfl (Or.inl rfl))) (fun _ _ _ _ _ => pts_nil) (fun _ _ _ _ _ => (pe_cd D_ordered_shuts hr pass0 (pa_cons (pv 3) (pa_cons (pe_flK (K := K) rfl (pv 11) rfl) (pa_cons (pv 20) pa_nil)))))) (pg_lstK (K := K) rfl rfl (pgs_cons (pg_name (i := 14) nd rfl (Or.inl rfl)) (pgs_cons (pg_name (i := 15) nd rfl (Or.inl rfl)) pgs_nil))))
        (pss_cons (ps_par (i := 16) (j := 17) (by rfl) nd rfl rfl (by decide) rfl rfl (pa_cons (pe_cd D_first_apart hr pass0 (pa_cons (pv 3) (pa_cons (pv 14) (pa_cons (pv 15) pa_nil)))) (pa_cons (pe_cd D_told hr pass0 (pa_cons (pv 7) (pa_cons (pv 8) pa_nil))) pa_nil)) (by rfl))
        (pss_cons (ps_if (pt_cmpR op_notN1 (pv 16) pe_non (nomark _))
        (pss_cons (ps_if (pt_cmpR (op_neDK (K := K) rfl hr.units) (pv 17) (pv 16) (nomark _))
          (pss_one (ps_ret pe_bl))
          pss_nil)
          (pss_one ps_continue))
        pss_nil)
        (pss_cons (ps_if (PW.pt (pw_or (pt_not (pt_val (pe_callB (c_isiK (K := K) rfl) (by rfl) T.isinstance (by decide +kernel) (pa_cons (pv 17) (pa_cons (pe_globC T.Room.at) pa_nil))))) (pw_or1 (pt_cmpR op_ne (pe_callB (c_lenM M_Room_len hr pass0) (by rfl) T.len PySem.boot_len (pa_cons (pv 17) pa_nil)) (pe_op op_add (pe_op op_add (pe_callB (c_lenK (K := K) rfl) (by rfl) T.len PySem.boot_len (pa_cons (pv 10) pa_nil)) (pe_callB (c_lenK (K := K) rfl) (by rfl) T.len PySem.boot_len (pa_cons (pv 14) pa_nil))) (pe_callB (c_lenK (K := K) rfl) (by rfl) T.len PySem.boot_len (pa_cons (pv 15) pa_nil))) (nomark _)))))
        (pss_one (ps_ret pe_bl))
        pss_nil)
        (pss_cons (ps_set (i := 12) nd rfl (Or.inr rfl) (pe_cd D_crossed hr pass0 (pa_cons (pv 3) (pa_cons (pe_flK (K := K) rfl (pv 17) rfl) pa_nil))))
        (pss_cons (ps_if (pt_cmpR (op_neDK (K := K) rfl hr.units) (pe_lc (own := [("_law_mark", 19)]) (g := gName 19) (by rfl) nd (pi_listK (K := K) rfl (pe_op op_cat1 (pe_ix (ix_LK (K := K) rfl) (pv 9) pe_int (fun _ _ => rfl)) (pe_ix (ix_LK (K := K) rfl) (pv 9) pe_int (fun _ _ => rfl)))) (blkOk_by (own := [("_law_mark", 19)]) (N := Nlaw) (sc := defScope stlaw) (by decide +kernel)) (fun _ _ _ _ _ => (pg_name (i := 19) nd rfl (Or.inl rfl))) (fun _ _ _ _ _ => (pts_one (pt_cmpR (op_notInDK (K := K) rfl (units65 hr)) (pv 19) (pv 12) (by rfl)))) (fun _ _ _ _ _ => (pv 19))) (pe_lst pa_nil) (nomark _))
        (pss_one (ps_ret pe_bl))
        pss_nil)
        (pss_cons (ps_if (pt_not (pt_cmpR (op_cmpM (op := .Eq) (fun _ _ => rfl) M_Room_eq hr pass0) (pe_fN0 D_common_0_other_one hr pass0 (pk_cons (pv 7) (pk_cons (pv 8) pk_nil))) (pv 11) (nomark _)))
        (pss_one (ps_ret pe_bl))
        pss_nil)
        (pss_cons (ps_if (pt_not (pt_val (pe_cd D_plain_right hr pass0 (pa_cons (pe_cd D_plain hr pass0 (pa_cons (pv 3) pa_nil)) (pa_cons (pe_lst (pa_cons (pe_op op_addS (pv 4) (pv 5)) (pa_cons (pe_op op_addS (pv 4) (pv 6)) pa_nil))) pa_nil)))))
        (pss_one (ps_ret pe_bl))
        pss_nil)
        (pss_one (ps_if (PW.pt (pw_or (pt_not (pt_cmpR (op_cmpM (op := .Eq) (fun _ _ => rfl) M_Room_eq hr pass0) (pe_cd D_common hr pass0 (pa_cons (pv 7) (pa_cons (pv 8) pa_nil))) (pv 11) (nomark _))) (pw_or1 (pt_not (pt_cmpR (op_cmpM (op := .Eq) (fun _ _ => rfl) M_Room_eq hr pass0) (pe_cd D_told hr pass0 (pa_cons (pv 7) (pa_cons (pv 8) pa_nil))) (pv 17) (nomark _))))))
        (pss_one (ps_ret pe_bl))
        pss_nil)))))))))))))))))))))
      (pss_one (ps_ret pe_bl)))), ?_⟩
  refine s_start [some _, none, none, none, none, none, none, none, none, none, none, none, none, none, none, none, none, none, none, none, none] rfl ?_
  walk_at "go"
  refine ⟨sc, ns, rfl, ha, hn, fun g H1 p1 s1 hg => ?_⟩
  walk_at "go"
  refine ⟨sc, _, rfl, .inl (sqL_same ha s1), ?_⟩
  walk_at "go"
  refine ⟨_, _, rfl, ?_⟩
  walk_at "go"
  have hm : (3 + (if ((ns.map V.int).length : Int) < 4 then ((ns.map V.int).length : Int) else 4)).toNat ≤ 7 := by split <;> omega
  refine for_it (walk_rI (fun i => ((i : Nat) : Int)) (fun k => Int.zero_add _)) (fun i σ H' => ∃ x2 x3 x4 x5 x6 x7 x8 x9 x10 x11 x12 x13 x14 x15 x16 x17, σ = [some (.ref sc), some (.ref g.p), x2, x3, x4, x5, x6, x7, x8, x9, x10, x11, x12, x13, x14, x15, x16, x17, none, none, none] ∧ PenAt g H' (5000 * i)) ⟨_, _, _, _, _, _, _, _, _, _, _, _, _, _, _, _, rfl, p1⟩ (fun _ _ _ _ _ => trivial) ?_ ?_
  · rintro i v σ H2 H3 hi ⟨x2, x3, x4, x5, x6, x7, x8, x9, x10, x11, x12, x13, x14, x15, x16, x17, rfl, p3⟩ ⟨rfl, rfl⟩
    refine g_nm ?_
    refine s_hide2 fun Dn hDn hCt => ?_
    refine s_tail fun U1 g1 => ?_
    walk_at "go"
    refine ⟨g, 5000 * i, 6, rfl, by omega, by omega, p3, by omega, fun d ls rel H4 hd flr e4 p4 k4 => ?_⟩
    have fl := flr.fl
    have ndp : d ≠ g.p := by
      obtain ⟨a, b, h1, _⟩ := p3.ex
      exact (ne_of_none h1 hd).symm
    generalize crossBy ls rel = fn at fl e4
    have tab := fl.tab
    have ok := fl.ok
    have l8 := tab.len
    clear flr
    refine g1 _ _ _ ?_
    refine s_tail fun U2 g2 => ?_
    walk_at "go"
    refine ⟨g, _, d, ls, fn, 14, 60, rfl, p4, by omega, ndp, e4, tab, fl.pos, by omega, by omega, fun w0 H5 m0 l0 p5 k5 => ?_⟩
    have l0 : w0.length ≤ 60 := l0
    have d5 := k5 _ _ e4 ndp
    clear e4 p4 k4
    refine g2 _ _ _ ?_
    refine s_tail fun U3 g3 => ?_
    walk_at "go"
    refine ⟨g, _, d, ls, fn, rfl, p5, by omega, ndp, d5, tab, fl.pos, fun a b tp H6 ma mb la lb e6 p6 k6 => ?_⟩
    refine v_gTup2 rfl e6 ?_
    have d6 := k6 _ _ d5 ndp
    clear d5 p5 k5 e6
    have mwa : ∀ c ∈ w0 ++ a, c ∈ ls := fun c hc => (List.mem_append.mp hc).elim (m0 c) (ma c)
    have mwb : ∀ c ∈ w0 ++ b, c ∈ ls := fun c hc => (List.mem_append.mp hc).elim (m0 c) (mb c)
    have lwa : (w0 ++ a).length ≤ 200 := by rw [List.length_append]; omega
    have lwb : (w0 ++ b).length ≤ 200 := by rw [List.length_append]; omega
    have lA : w0.length + a.length ≤ 1000000 := by omega
    have lB : w0.length + b.length ≤ 1000000 := by omega
    refine g3 _ _ _ ?_
    refine s_tail fun U4 g4 => ?_
    walk_at "go2"
    intro q1 H7 hq1 s7 e7
    refine ⟨g, _, d, q1, ls, fn, w0 ++ a, w0 ++ b, rfl, p6.same s7, by omega, ndp, (p6.p_ne hq1).symm, s7 _ _ d6, fl, e7, mwa, mwb, lwa, lwb, fun D ra rb x y H8 hD e8 two p8 k8 => ?_⟩
    have d8 := k8 _ _ (s7 _ _ d6) ndp
    refine v_gLst2 rfl e8 ?_
    clear d6 p6 k6 e7 e8 s7 k8
    obtain ⟨na, ena⟩ : ∃ na, nameOf fn (w0 ++ a) = na := ⟨_, rfl⟩
    obtain ⟨nb, enb⟩ : ∃ nb, nameOf fn (w0 ++ b) = nb := ⟨_, rfl⟩
    rw [ena, enb] at two
    clear ena enb
    refine g4 _ _ _ ?_
    refine (show tSeq _ _ _ [some (.ref sc), some (.ref g.p), some (.int (i : Nat)), some (.ref d), some (.str (tx w0)), some (.str (tx a)), some (.str (tx b)), some (.ref ra), some (.ref rb), x9, x10, x11, x12, x13, x14, x15, x16, x17, none, none, none] _ from ?_)
    refine s_tail fun U5 g5 => ?_
    walk_at "go2"
    intro q2 H9 hq2 s9 e9
    walk_at "go2"
    refine lc_vecs (ls := ls) (fun j => crL fn ([na, nb].getD j [])) (walk_refs (As := [ra, rb]) (us := [fun _ => 0, fun _ => 0]) rfl) (fun H' s' => SqL.of (s' _ _ e9)) (by show 2 ≤ 1000000; decide) ?_ ?_ ?_
    · intro j hj H1 s1 R' r
      walk_at "go2"
      exact r H1 (Same.refl _)
    · intro j hj H1 s1 R' r
      have hj : j < 2 := hj
      obtain ⟨xj, roj, mj, lj⟩ : ∃ xj, RoomAt R H1 ([ra, rb].getD j 0) xj ([na, nb].getD j []) ∧ (∀ c ∈ [na, nb].getD j [], c ∈ ls) ∧ ([na, nb].getD j []).length ≤ 200 := by
        have t1 := (two.same s9).same s1
        rcases (by omega : j = 0 ∨ j = 1) with rfl | rfl
        · exact ⟨x, t1.r1, t1.ma, t1.la⟩
        · exact ⟨y, t1.r2, t1.mb, t1.lb⟩
      walk_at "go2"
      refine ⟨d, ls, fn, _, rfl, s1 _ _ (s9 _ _ d8), tab, mj, by omega, fun D' H2 hD' s2 vD => ?_⟩
      exact r D' H2 hD' s2 vD
    intro S H10 ps hS s10 e10 l10 rel
    obtain ⟨A, B, rfl⟩ : ∃ A B, ps = [A, B] := by
      match ps, l10 with
      | [A, B], _ => exact ⟨A, B, rfl⟩
    have vA : VecsAt H10 A ls (crL fn na) := rel 0 A rfl
    have vB : VecsAt H10 B ls (crL fn nb) := rel 1 B rfl
    have e10 : H10 S = some (.lst [.ref A, .ref B]) := e10
    clear rel l10
    have s910 := s9.trans s10
    replace two := two.same s910
    have d10 := s910 _ _ d8
    have p10 := p8.same s910
    clear s910 s9 s10 d8 p8 e9
    have cA : (crL fn na).length ≤ 200 := by rw [crL_len]; exact two.la
    have cB : (crL fn nb).length ≤ 200 := by rw [crL_len]; exact two.lb
    obtain ⟨As, eA, pA⟩ := vA.ex
    refine g5 _ _ _ ?_
    refine s_tail fun U6 g6 => ?_
    walk_at "go2"
    refine v_ixL e10 (atI_nat (j := 0) rfl) ?_
    walk_at "go2"
    refine filtV eA pA (by omega) (fun u => decide (∃ v ∈ crL fn nb, ∀ x ∈ ls, v x = u x)) (fun p u hu' hp H2 s2 R' r => ?_) (fun p H2 R' r => ?_) (fun Bo H11 hBo s11 vBo => ?_)
    · walk_at "go2"
      refine v_ixL (s2 _ _ e10) (atI_nat (j := 1) rfl) ?_
      refine v_inV (s2 _ _ hp) (vB.same s2) ?_
      walk_at "go2"
      exact r H2 (Same.refl _)
    · walk_at "go2"
      exact r
    clear eA pA
    refine g6 _ _ _ ?_
    refine s_tail fun U7 g7 => ?_
    walk_at "go2"
    refine ⟨ra, x, na, rb, y, nb, ls, fn, rfl, two.same s11, fun st H12 M hst s12 roM md lM => ?_⟩
    have mM := md.mem
    have s112 := s11.trans s12
    replace two := two.same s112
    have lM2 : M.length ≤ 200 := Nat.le_trans lM two.la
    refine g7 _ _ _ ?_
    refine (show tSeq _ _ _ [some (.ref sc), some (.ref g.p), some (.int (i : Nat)), some (.ref d), some (.str (tx w0)), some (.str (tx a)), some (.str (tx b)), some (.ref ra), some (.ref rb), some (.ref S), some (.ref Bo), some (.ref st), x12, x13, x14, x15, x16, x17, none, none, none] _ from ?_)
    refine s_tail fun U8 g8 => ?_
    walk_at "go2"
    refine ⟨d, ls, fn, M, rfl, s112 _ _ d10, tab, md.mem, by omega, fun Fo H13 hFo s13 vF => ?_⟩
    have vF : VecsAt H13 Fo ls (crL fn M) := vF
    obtain ⟨du1, du2⟩ := both_due tab.nd ok md.toMid two.na two.nb two.ma two.mb
    have s1013 := s112.trans s13
    have d13 := s1013 _ _ d10
    have e13 := s1013 _ _ e10
    have p13 := p10.same s1013
    have vA13 := vA.same s1013
    have vB13 := vB.same s1013
    have vBo13 := vBo.same (s12.trans s13)
    replace two := two.same s13
    replace roM := roM.same s13
    clear d10 e10 p10 vA vB vBo s1013 s112 s11 s12 s13
    refine g8 _ _ _ ?_
    refine s_tail fun U9 g9 => ?_
    walk_at "go2"
    refine v_lenV vF ?_
    walk_at "go2"
    refine v_lenV vBo13 ?_
    rw [du1]
    walk_at "go2"
    obtain ⟨Bs, eB, pB⟩ := vBo13.ex
    have cBo : ((crL fn na).filter fun u => decide (∃ v ∈ crL fn nb, ∀ x ∈ ls, v x = u x)).length ≤ 200 := Nat.le_trans (List.length_filter_le _ _) cA
    walk_at "go2"
    refine filtV eB pB (by omega) (fun u => !decide (∃ v ∈ crL fn M, ∀ x ∈ ls, v x = u x)) (fun p u hu' hp H2 s2 R' r => ?_) (fun p H2 R' r => ?_) (fun N H14 hN s14 vN => ?_)
    · walk_at "go2"
      refine v_notInV (s2 _ _ hp) (vF.same s2) ?_
      walk_at "go2"
      exact r H2 (Same.refl _)
    · walk_at "go2"
      exact r
    rw [du2] at vN
    clear eB pB du2
    walk_at "go2"
    intro nl H15 hnl s15 e15
    refine v_neNilV (vN.same s15) e15 ?_
    rw [show (!([] : List (Nat → Int)).isEmpty) = false from rfl]
    walk_at "go2"
    refine g9 _ _ _ ?_
    refine s_tail fun U10 g10 => ?_
    walk_at "go2"
    intro q3 H16 hq3 s16 e16
    walk_at "go2"
    have s1316 := (s14.trans s15).trans s16
    have d16 := s1316 _ _ d13
    have e16s := s1316 _ _ e13
    have p16 := p13.same s1316
    have vA16 := vA13.same s1316
    have vB16 := vB13.same s1316
    have vBo16 := vBo13.same s1316
    replace two := two.same s1316
    replace roM := roM.same s1316
    clear d13 e13 p13 vA13 vB13 vBo13 vF vN s14 s15 s16 s1316 e15
    have wA : M.length + (wayC fn M na).length ≤ 200 := by
      have := md.ab
      unfold Btw at this
      rw [way_nil, way_nil, show nameOf fn na = na from (is_NF ok).mpr two.na, show nameOf fn M = M from (is_NF ok).mpr md.nf] at this
      have := two.la
      omega
    have wB : M.length + (wayC fn M nb).length ≤ 200 := by
      have := md.ac
      unfold Btw at this
      rw [way_nil, way_nil, show nameOf fn nb = nb from (is_NF ok).mpr two.nb, show nameOf fn M = M from (is_NF ok).mpr md.nf] at this
      have := two.lb
      omega
    refine lc_gen (n := 2) (it := fun k => V.ref ([ra, rb].getD k 0)) (b := fun _ => true) (f := fun k => V.str (tx (wayC fn M ([na, nb].getD k [])))) (walk_refs (As := [ra, rb]) (us := [fun _ => 0, fun _ => 0]) rfl) (fun H' s' => SqL.of (s' _ _ e16)) (by decide) (fun j hj H2 s2 R' r => ?_) (fun j hj _ H2 s2 R' r => ?_) (fun G H17 hG s17 e17 => ?_)
    · walk_at "go2"
      exact r H2 (Same.refl _)
    · have hj : j < 2 := hj
      obtain ⟨xj, roj, mj, lj⟩ : ∃ xj, RoomAt R H2 ([ra, rb].getD j 0) xj ([na, nb].getD j []) ∧ (∀ c ∈ [na, nb].getD j [], c ∈ ls) ∧ ([na, nb].getD j []).length ≤ 200 := by
        have t1 := two.same s2
        rcases (by omega : j = 0 ∨ j = 1) with rfl | rfl
        · exact ⟨x, t1.r1, t1.ma, t1.la⟩
        · exact ⟨y, t1.r2, t1.mb, t1.lb⟩
      have roM2 := roM.same s2
      have l2 : M.reverse.length + ([na, nb].getD j []).length ≤ 1000000 := by rw [List.length_reverse]; omega
      walk_at "go2"
      refine ⟨d, ls, fn, _, rfl, s2 _ _ d16, tab, ok, fl.asc, fun c hc => (List.mem_append.mp hc).elim (fun z => mM c (List.mem_reverse.mp z)) (mj c), by rw [List.length_append, List.length_reverse]; omega, fun H3 s3 => ?_⟩
      exact r H3 s3
    have e17 : H17 G = some (.lst [.str (tx (wayC fn M na)), .str (tx (wayC fn M nb))]) := e17
    obtain ⟨u, hu'⟩ : ∃ u, wayC fn M na = u := ⟨_, rfl⟩
    obtain ⟨v, hv'⟩ : ∃ v, wayC fn M nb = v := ⟨_, rfl⟩
    have mu : ∀ c ∈ u, c ∈ ls := hu' ▸ wayC_mem mM two.ma
    have mv : ∀ c ∈ v, c ∈ ls := hv' ▸ wayC_mem mM two.mb
    have ru : Red fn u := hu' ▸ (name_NF ok _).red
    have rv : Red fn v := hv' ▸ (name_NF ok _).red
    have lu : M.length + u.length ≤ 200 := hu' ▸ wA
    have lv : M.length + v.length ≤ 200 := hv' ▸ wB
    rw [hu', hv'] at e17
    have d17 := s17 _ _ d16
    have roM17 := roM.same s17
    refine g10 _ _ _ ?_
    refine s_tail fun U11 g11 => ?_
    walk_at "go2"
    refine lc_mapF (fun j p H' => ShutsOf fn ls M ([u, v].getD j []) H' p) (walk_two_s (a := u) (b := v)) (fun H' s' => SqL.of (s' _ _ e17)) (by decide) ?_ ?_ ?_ ?_ ?_
    · rintro j p Ha Hb ⟨keys, h1, h2, h3⟩ s
      exact ⟨keys, h1, h2, h3.same s⟩
    · rintro j p Ha Hb D' l ⟨keys, h1, h2, h3⟩ n e k
      exact ⟨keys, h1, h2, h3.lst n e k⟩
    · intro j hj H2 s2 R' r
      walk_at "go2"
      exact r H2 (Same.refl _)
    · intro j hj H2 s2 R' r
      have hj : j < 2 := hj
      obtain ⟨mj, rj, lj⟩ : (∀ c ∈ [u, v].getD j [], c ∈ ls) ∧ Red fn ([u, v].getD j []) ∧ M.length + ([u, v].getD j []).length ≤ 200 := by
        rcases (by omega : j = 0 ∨ j = 1) with rfl | rfl
        · exact ⟨mu, ru, lu⟩
        · exact ⟨mv, rv, lv⟩
      have roM2 := roM17.same s2
      walk_at "go2"
      refine ⟨d, ls, fn, M, _, rfl, s2 _ _ d17, fl, mM, mj, rj, fl.pos, by omega, by omega, fun keys p H3 hp s3 pk sk sh => ?_⟩
      exact r p H3 hp s3 ⟨keys, pk, sk, sh⟩
    intro L3 H18 ps hL s18 e18 l18 rel
    obtain ⟨P1, P2, rfl⟩ : ∃ A B, ps = [A, B] := by
      match ps, l18 with
      | [A, B], _ => exact ⟨A, B, rfl⟩
    obtain ⟨keys1, pk1, sk1, sh1⟩ : ShutsOf fn ls M u H18 P1 := rel 0 P1 rfl
    obtain ⟨keys2, pk2, sk2, sh2⟩ : ShutsOf fn ls M v H18 P2 := rel 1 P2 rfl
    refine v_gLst2 rfl e18 ?_
    have s1618 := s17.trans s18
    have d18 := s1618 _ _ d16
    have e18s := s1618 _ _ e16s
    have p18 := p16.same s1618
    have vA18 := vA16.same s1618
    have vB18 := vB16.same s1618
    have vBo18 := vBo16.same s1618
    replace two := two.same s1618
    replace roM := roM.same s1618
    clear d16 e16s p16 vA16 vB16 vBo16 s17 s18 s1618 e16 e17 e18 rel l18 d17 roM17 wA wB
    have k1l : keys1.length = u.length := pk1.length_eq.trans keyI_len
    have k2l : keys2.length = v.length := pk2.length_eq.trans keyI_len
    have lng : ∀ key ∈ keys1 ++ keys2, ∃ m k, key = m ++ [k] ∧ m.length ≤ 500 := fun key hk => by
      have h1 : ∃ i w, (w = u ∨ w = v) ∧ key = startC fn (nameOf fn (M ++ w.take i)) (w.getD i 0) ++ [w.getD i 0] := by
        rcases List.mem_append.mp hk with z | z
        · obtain ⟨i, _, e⟩ := List.mem_map.mp (pk1.mem_iff.mp z)
          exact ⟨i, u, .inl rfl, e.symm⟩
        · obtain ⟨i, _, e⟩ := List.mem_map.mp (pk2.mem_iff.mp z)
          exact ⟨i, v, .inr rfl, e.symm⟩
      obtain ⟨i, w, hw, e⟩ := h1
      refine ⟨_, _, e, ?_⟩
      have h1 := start_len ok (nameOf fn (M ++ w.take i)) (w.getD i 0)
      have h2 := name_len fn (M ++ w.take i)
      rw [List.length_append, List.length_take] at h2
      have : M.length + w.length ≤ 200 := by rcases hw with rfl | rfl <;> assumption
      omega
    have small : ∀ key ∈ keys1 ++ keys2, ∀ c ∈ key, c < 1000 := fun key hk => by
      have h1 : ∃ (i : Nat) (w : List Nat), (∀ c ∈ w, c ∈ ls) ∧ i < w.length ∧ key = startC fn (nameOf fn (M ++ w.take i)) (w.getD i 0) ++ [w.getD i 0] := by
        rcases List.mem_append.mp hk with z | z
        · obtain ⟨i, hi, e⟩ := List.mem_map.mp (pk1.mem_iff.mp z)
          exact ⟨i, u, mu, List.mem_range.mp hi, e.symm⟩
        · obtain ⟨i, hi, e⟩ := List.mem_map.mp (pk2.mem_iff.mp z)
          exact ⟨i, v, mv, List.mem_range.mp hi, e.symm⟩
      obtain ⟨i, w, hw, hi, rfl⟩ := h1
      intro c hc
      have hcl : c ∈ ls := by
        rcases List.mem_append.mp hc with z | z
        · rcases start_mem z with z | z
          · exact z ▸ hw _ (getD_mem hi)
          rcases List.mem_append.mp (name_mem z) with z | z
          · exact mM c z
          · exact hw c (List.mem_of_mem_take z)
        · rw [List.mem_singleton.mp z]
          exact hw _ (getD_mem hi)
      have := LET_lt (tab.lt c hcl)
      omega
    have noneOf : allX fn u v → firstA (apartK fn ls) keys1 keys2 = none := fun al => firstA_none.mpr fun a ha b hb => (keys_cross tab.nd ok mM mu mv).mpr al a (pk1.mem_iff.mp ha) b (pk2.mem_iff.mp hb)
    refine g11 _ _ _ ?_
    refine (show tSeq _ _ _ [some (.ref sc), some (.ref g.p), some (.int (i : Nat)), some (.ref d), some (.str (tx w0)), some (.str (tx a)), some (.str (tx b)), some (.ref ra), some (.ref rb), some (.ref S), some (.ref Bo), some (.ref st), some (.ref Fo), some (.ref G), some (.ref P1), some (.ref P2), x16, x17, none, none, none] _ from ?_)
    refine s_tail fun U12 g12 => ?_
    walk_at "go2"
    refine ⟨d, P1, P2, ls, fn, keys1, keys2, rfl, d18, tab, ok, sh1, sh2, lng, fun hN H19 s19 => ?_, fun k1 k2 hS tq H19 htq s19 e19 => ?_⟩
    rotate_left
    · walk_at "go2"
      refine ⟨ra, x, na, rb, y, nb, ls, fn, rfl, two.same s19, fun M' md' lM' => ?_⟩
      obtain rfl : M' = M := mid_one ok md' md
      rw [hu', hv']
      refine ⟨fun al r H20 s20 roT => ?_, fun l1 l2 k1' k2' a1 a2 a3 a4 e' H20 t2 s20 e20 => ?_⟩
      · rw [noneOf al] at hS
        cases hS
      obtain rfl : l1 = keys1 := short_uniq (a1.trans pk1.symm) a2 sk1
      obtain rfl : l2 = keys2 := short_uniq (a3.trans pk2.symm) a4 sk2
      rw [hS] at e'
      cases e'
      have e19' := s20 _ _ e19
      have s1820 := s19.trans s20
      have p20 := p18.same s1820
      clear d18 e18s p18 vA18 vB18 vBo18 two roM sh1 sh2 pk1 pk2 md
      walk_at "go2"
      refine g12 _ _ _ ?_
      refine s_tail fun V1 v1 => ?_
      walk_at "go2"
      refine ⟨rfl, ?_⟩
      rw [show (!decide (V.ref tq = V.non)) = true by rw [decide_eq_false (show ¬ V.ref tq = V.non from fun z => nomatch z)]; rfl]
      refine ⟨true, rfl, ?_⟩
      walk_at "go2"
      have k1c : ∀ c ∈ k1, c < 1000 := small k1 (List.mem_append_left _ (firstA_mem hS).1)
      have k2c : ∀ c ∈ k2, c < 1000 := small k2 (List.mem_append_right _ (firstA_mem hS).2)
      refine v_neTup e20 e19' k1c k2c ?_
      walk_at "go2"
      refine s_cont ?_
      exact hCt _ _ ⟨_, _, _, _, _, _, _, _, _, _, _, _, _, _, _, _, rfl, p20.mono (by omega)⟩
    walk_at "go2"
    refine ⟨ra, x, na, rb, y, nb, ls, fn, rfl, two.same s19, fun M' md' lM' => ?_⟩
    obtain rfl : M' = M := mid_one ok md' md
    have bx := both_x tab.nd ok md two.na two.nb two.ma two.mb
    rw [hu', hv'] at bx ⊢
    refine ⟨fun al rt H20 s20 roT => ?_, fun l1 l2 k1' k2' a1 a2 a3 a4 e' H20 t2 s20 e20 => ?_⟩
    rotate_left
    · obtain rfl : l1 = keys1 := short_uniq (a1.trans pk1.symm) a2 sk1
      obtain rfl : l2 = keys2 := short_uniq (a3.trans pk2.symm) a4 sk2
      rw [hN] at e'
      cases e'
    replace bx := bx al
    have s1820 := s19.trans s20
    have d20 := s1820 _ _ d18
    have e20s := s1820 _ _ e18s
    have p20 := p18.same s1820
    have vA20 := vA18.same s1820
    have vB20 := vB18.same s1820
    have vBo20 := vBo18.same s1820
    replace two := two.same s1820
    replace roM := roM.same s1820
    replace sh1 := sh1.same s1820
    replace sh2 := sh2.same s1820
    obtain ⟨A1, eA1, pA1⟩ := sh1.ex
    obtain ⟨A2, eA2, pA2⟩ := sh2.ex
    have lA1 : A1.length = u.length := (paired_len pA1).trans k1l
    have lA2 : A2.length = v.length := (paired_len pA2).trans k2l
    clear d18 e18s p18 vA18 vB18 vBo18 s19 s20 s1820 noneOf lng
    walk_at "go2"
    refine g12 _ _ _ ?_
    refine s_tail fun U13 g13 => ?_
    walk_at "go2"
    refine ⟨rfl, ?_⟩
    rw [show (!decide (V.non = V.non)) = false by rw [decide_eq_true rfl]; rfl]
    refine ⟨false, rfl, ?_⟩
    obtain ⟨dT, eT⟩ := roT.ex
    have bl := bx.len
    have ba := bx.ina
    have bb := bx.inb
    rw [hu', hv'] at bl
    rw [hv'] at ba bb
    have lT : (nameOf fn (na ++ v)).length ≤ 1000 := by omega
    walk_at "go2"
    refine g13 _ _ _ ?_
    refine s_tail fun U14 g14 => ?_
    walk_at "go2"
    refine v_isiC T.Room eT ?_
    walk_at "go2"
    refine v_lenV vBo20 ?_
    walk_at "go2"
    refine if_nI (congrArg V.int ?_) ?_
    · rw [← du1, crL_len, List.length_map, List.length_map, lA1, lA2, bl]
      omega
    have mT : ∀ c ∈ nameOf fn (na ++ v), c ∈ ls := fun c hc => (List.mem_append.mp (name_mem hc)).elim (two.ma c) (mv c)
    walk_at "go2"
    refine g14 _ _ _ ?_
    refine s_tail fun U15 g15 => ?_
    walk_at "go2"
    refine ⟨d, ls, fn, _, rfl, d20, tab, mT, by omega, fun F2 H21 hF2 s21 vF2 => ?_⟩
    have vF2 : VecsAt H21 F2 ls (crL fn (nameOf fn (na ++ v))) := vF2
    refine g15 _ _ _ ?_
    refine s_tail fun U16 g16 => ?_
    walk_at "go2"
    refine v_ixL (s21 _ _ e20s) (atI_nat (j := 0) rfl) ?_
    walk_at "go2"
    refine v_ixL (s21 _ _ e20s) (atI_nat (j := 1) rfl) ?_
    refine VecsAt.cat (vA20.same s21) (vB20.same s21) (by omega) fun ev H22 hev s22 vE => ?_
    obtain ⟨Es, eE, pE⟩ := vE.ex
    walk_at "go2"
    refine filtV eE pE (by rw [List.length_append]; omega) (fun u => !decide (∃ w ∈ crL fn (nameOf fn (na ++ v)), ∀ x ∈ ls, w x = u x)) (fun p u hu' hp H2 s2 R' r => ?_) (fun p H2 R' r => ?_) (fun N H23 hN s23 vN => ?_)
    · walk_at "go2"
      refine v_notInV (s2 _ _ hp) ((vF2.same s22).same s2) ?_
      walk_at "go2"
      exact r H2 (Same.refl _)
    · walk_at "go2"
      exact r
    have e0 : ((crL fn na ++ crL fn nb).filter fun u => !decide (∃ w ∈ crL fn (nameOf fn (na ++ v)), ∀ x ∈ ls, w x = u x)) = [] := by
      rw [List.filter_eq_nil_iff]
      intro z hz c
      rw [Bool.not_eq_true', decide_eq_false_iff_not] at c
      exact c ((List.mem_append.mp hz).elim (ba z) (bb z))
    rw [e0] at vN
    walk_at "go2"
    intro n2 H24 hn2 s24 e24
    refine v_neNilV (vN.same s24) e24 ?_
    rw [show (!([] : List (Nat → Int)).isEmpty) = false from rfl]
    have s2024 := ((s21.trans s22).trans s23).trans s24
    replace d20 := s2024 _ _ d20
    replace p20 := p20.same s2024
    replace two := two.same s2024
    replace roM := roM.same s2024
    replace roT := roT.same s2024
    clear vA20 vB20 vBo20 e20s eE pE vE vF2 vN e0 e24 s21 s22 s23 s24 s2024 eT eA1 eA2 pA1 pA2 sh1 sh2 bl ba bb bx
    walk_at "go2"
    refine g16 _ _ _ ?_
    refine s_tail fun U17 g17 => ?_
    walk_at "go2"
    show spCommon C R [.ref rb, .ref ra] _ _ _
    refine ⟨rb, y, nb, ra, x, na, ls, fn, rfl, two.swap, fun r2 H25 M2 hr2 s25 ro2 md2 lM2' => ?_⟩
    obtain rfl : M2 = M' := mid_swap ok md2 md
    walk_at "go2"
    refine v_sameR fl ro2 (roM.same s25) (two.p2.same s25) (two.p1.same s25) (by omega) ?_
    walk_at "go2"
    refine g17 _ _ _ ?_
    refine s_tail fun U18 g18 => ?_
    walk_at "go2"
    refine ⟨d, ls, fn, rfl, s25 _ _ d20, tab, fun d2 H26 hd2 s26 e26 => ?_⟩
    walk_at "go2"
    intro q4 H27 hq4 s27 e27
    refine ⟨d2, q4, ls, w0 ++ a, w0 ++ b, rfl, s27 _ _ e26, fl.plain, e27, mwa, mwb, lwa, lwb, fun H28 s28 => ?_⟩
    have s2428 := ((s25.trans s26).trans s27).trans s28
    replace p20 := p20.same s2428
    replace two := two.same s2428
    replace roM := roM.same s2428
    replace roT := roT.same s2428
    clear d20 ro2 e26 e27 s25 s26 s27 s28 s2428
    walk_at "go2"
    refine g18 _ _ _ ?_
    walk_at "go2"
    refine ⟨ra, x, na, rb, y, nb, ls, fn, rfl, two, fun r3 H29 M3 hr3 s29 ro3 md3 lM3 => ?_⟩
    obtain rfl : M3 = M2 := mid_one ok md3 md
    replace p20 := p20.same s29
    replace two := two.same s29
    replace roM := roM.same s29
    replace roT := roT.same s29
    walk_at "go2"
    refine v_sameR fl ro3 roM two.p1 two.p1 (by omega) ?_
    clear ro3 roM s29
    walk_at "go2"
    refine ⟨ra, x, na, rb, y, nb, ls, fn, rfl, two, fun M4 md4 lM4 => ?_⟩
    obtain rfl : M4 = M3 := mid_one ok md4 md
    rw [hu', hv']
    refine ⟨fun al2 r4 H30 s30 ro4 => ?_, fun l1 l2 k1' k2' a1 a2 a3 a4 e' H30 t2 s30 e30 => ?_⟩
    rotate_left
    · obtain rfl : l1 = keys1 := short_uniq (a1.trans pk1.symm) a2 sk1
      obtain rfl : l2 = keys2 := short_uniq (a3.trans pk2.symm) a4 sk2
      rw [hN] at e'
      cases e'
    walk_at "go2"
    refine v_sameR fl ro4 (roT.same s30) (two.p1.same s30) (two.p1.same s30) (by omega) ?_
    walk_at "go2"
    exact hDn _ _ ⟨_, _, _, _, _, _, _, _, _, _, _, _, _, _, _, _, rfl, (p20.same s30).mono (by omega)⟩
  · rintro σ H2 ⟨x2, x3, x4, x5, x6, x7, x8, x9, x10, x11, x12, x13, x14, x15, x16, x17, rfl, p2⟩
    walk_at "go"
    exact k H2
end
end
section
open PySem PySem.Spec L2
abbrev stNB : Stmt := (inClass (top 10) 0)
theorem end18 {w : World} {K : PySem.W.Frag} {mg : Str → Option Value} {C R O W NB G fa e0 : Addr} {fd : FuncData} {t1 t2 t3 : Tok} {dd0 : Option Addr} {n0 : Nat} {sl0 : Array (Option Value)}
    (c_Plan : ClsF K mg "Plan" C)
    (c_Room : ClsF K mg "Room" R)
    (c_Wall : ClsF K mg "Wall" W)
    (e_OtherPlan : ExcF K mg "OtherPlan" O)
    (E_NoneBeyond : ExcE PySem.Challenge.pw_crosswalls_k18_common_and_beyond_both K mg "NoneBeyond" NB "NoneBeyond.__init__" stNB)
    (F_stepped : FnAt K mg "stepped" ststepped)
    (F_joined : FnAt K mg "joined" stjoined)
    (F_turned_back : FnAt K mg "turned_back" stturned_back)
    (F_way_from : FnAt K mg "way_from" stway_from)
    (F_still_free : FnAt K mg "still_free" ststill_free)
    (F_first_kinds : FnAt K mg "first_kinds" stfirst_kinds)
    (F_last_kinds : FnAt K mg "last_kinds" stlast_kinds)
    (F_without_first : FnAt K mg "without_first" stwithout_first)
    (F_split_ahead : FnAt K mg "split_ahead" stsplit_ahead)
    (F_without_end : FnAt K mg "without_end" stwithout_end)
    (F_shared_begin : FnAt K mg "shared_begin" stshared_begin)
    (F_in_both : FnAt K mg "in_both" stin_both)
    (F_wall_start : FnAt K mg "wall_start" stwall_start)
    (F_in_order : FnAt K mg "in_order" stin_order)
    (F_wall_keys : FnAt K mg "wall_keys" stwall_keys)
    (F_walls_between : FnAt K mg "walls_between" stwalls_between)
    (F_middle_name : FnAt K mg "middle_name" stmiddle_name)
    (F_common : FnAt K mg "common" stcommon)
    (F_uncrossed : FnAt K mg "uncrossed" stuncrossed)
    (F_is_list : FnAt K mg "is_list" stis_list)
    (F_is_kind : FnAt K mg "is_kind" stis_kind)
    (F_need_kind : FnAt K mg "need_kind" stneed_kind)
    (F_need_way : FnAt K mg "need_way" stneed_way)
    (F_need_same : FnAt K mg "need_same" stneed_same)
    (F_are_letters : FnAt K mg "are_letters" stare_letters)
    (F_ascending : FnAt K mg "ascending" stascending)
    (F_checked_pairs : FnAt K mg "checked_pairs" stchecked_pairs)
    (F_need_few : FnAt K mg "need_few" stneed_few)
    (F_crossing_table : FnAt K mg "crossing_table" stcrossing_table)
    (F_bb : FnAt K mg "beyond_both" stbb)
    (F_pen : FnAt K mg "_law_pen" stpen)
    (F_draw : FnAt K mg "_law_draw" stdraw)
    (F_pick : FnAt K mg "_law_pick" stpick)
    (F_shuffled : FnAt K mg "_law_shuffled" stshuffled)
    (F_floor : FnAt K mg "_law_floor" stfloor)
    (F_made : FnAt K mg "_law_made" stmade)
    (F_walk : FnAt K mg "_law_walk" stwalk)
    (F_begun : FnAt K mg "_law_begun" stbegun)
    (F_units : FnAt K mg "_law_units" stunits)
    (F_through : FnAt K mg "_law_through" stthrough)
    (F_marks : FnAt K mg "_law_marks" stmarks)
    (F_backs : FnAt K mg "_law_backs" stbacks)
    (F_name : FnAt K mg "_law_name" stname)
    (F_plain : FnAt K mg "_law_plain" stplain)
    (F_crossed : FnAt K mg "_law_crossed" stcrossed)
    (F_product : FnAt K mg "_law_product" stproduct)
    (F_positive : FnAt K mg "_law_positive" stpositive)
    (F_nearest : FnAt K mg "_law_nearest" stnearest)
    (F_told : FnAt K mg "_law_told" sttold)
    (F_rooms : FnAt K mg "_law_rooms" strooms)
    (F_plain_right : FnAt K mg "_law_plain_right" stplain_right)
    (F_drawn : FnAt K mg "_law_drawn" stdrawn)
    (F_shuts : FnAt K mg "_law_ordered_shuts" stshuts)
    (F_apart : FnAt K mg "_law_first_apart" stapart)
    (F_law : Fun K "law" "law" stlaw fa fd)
    (F_Plan_eq : MAt K C "__eq__" "Plan.__eq__" stPlan_eq)
    (F_Plan_init : MAtD K C "__init__" "Plan.__init__" stPlan_init [.ref e0])
    (F_Room_init : MAtD K R "__init__" "Room.__init__" stRoom_init [.str (tx [])])
    (F_Wall_init : MAt K W "__init__" "Wall.__init__" stWall_init)
    (F_Room_len : MAt K R "__len__" "Room.__len__" stRoom_len)
    (F_Room_eq : MAt K R "__eq__" "Room.__eq__" stRoom_eq)
    (F_Room_add : MAt K R "__add__" "Room.__add__" stRoom_add)
    (F_Room_way_to : MAt K R "way_to" "Room.way_to" stRoom_way_to)
    (F_Wall_crosses : MAt K W "crosses" "Wall.crosses" stWall_crosses)
    (z_len : mg "len" = none)
    (z_int : mg "int" = none)
    (z_list : mg "list" = none)
    (z_isinstance : mg "isinstance" = none)
    (z_str : mg "str" = none)
    (z_all : mg "all" = none)
    (z_set : mg "set" = none)
    (z_tuple : mg "tuple" = none)
    (z_enumerate : mg "enumerate" = none)
    (z_range : mg "range" = none)
    (z_min : mg "min" = none)
    (z_dict : mg "dict" = none)
    (z_sorted : mg "sorted" = none)
    (z_super : mg "super" = none)
    (n_C_kinds : NoAttr K C "kinds")
    (n_C_pairs : NoAttr K C "pairs")
    (n_C_own_crossing : NoAttr K C "own_crossing")
    (n_R_plan : NoAttr K R "plan")
    (n_R_name : NoAttr K R "name")
    (n_W_plan : NoAttr K W "plan")
    (n_W_kind : NoAttr K W "kind")
    (n_W_room : NoAttr K W "room")
    (g_LETTERS : mg "LETTERS" = some (.str (tx LET) t1))
    (g_MOST_KINDS : mg "MOST_KINDS" = some (.int 8 t2))
    (g_MOST_LETTERS : mg "MOST_LETTERS" = some (.int 2000 t3))
    (g_FloorError : mg "FloorError" = some (.ref G))
    (ke0 : K.lookup e0 = some ⟨.type "tuple", dd0, .seq #[] n0, sl0⟩)
    (kRs : PySem.W.selfFirst K R = true)
    (kNo : PySem.W.findIn K (.ref NB) "one" = some none)
    (kNt : PySem.W.findIn K (.ref NB) "other" = some none)
    (kNN : PySem.W.subIn K (.ref NB) (.ref NB) = some true)
    (kNG : PySem.W.subIn K (.ref NB) (.ref G) = some true)
    (kGc : PySem.W.isClsIn K G = true)
    (kGt : PySem.W.typeIn K (.ref G) = some (.type "type")) (base : Heap) : FnOk PySem.Challenge.pw_crosswalls_k18_common_and_beyond_both w K mg base CX0 10 fa fd ["_law_script"] (spLaw K) := by
  have T : Txt K mg := ⟨z_len, z_int, z_list⟩
  have TP : TxtP K mg C := ⟨z_len, z_int, z_list, z_isinstance, z_str, z_all, z_set, z_tuple, ⟨_, g_LETTERS⟩, ⟨_, g_MOST_KINDS⟩, c_Plan, n_C_kinds, n_C_pairs, n_C_own_crossing⟩
  have TR : TxtR K mg C R O := ⟨TP, z_enumerate, ⟨_, g_MOST_LETTERS⟩, c_Room, n_R_plan, n_R_name, e_OtherPlan⟩
  have TW : TxtW K mg C R O W := ⟨TR, c_Wall, n_W_plan, n_W_kind, n_W_room⟩
  have TO : TxtO K mg := ⟨z_sorted, z_len, z_str⟩
  have TH : TxtH K mg := ⟨T, z_range⟩
  have TV : TxtV K mg := ⟨TH, z_tuple, z_min, z_dict⟩
  have TQ : TxtQ K mg C R O W := ⟨TW, kRs⟩
  have TS : TxtS K mg := ⟨TO, z_range⟩
  have TG : TxtG K mg C R O := ⟨TR, z_range⟩
  have TJ : TxtJ K mg C R O := ⟨TG, z_min⟩
  have TTo : TxtTo PySem.Challenge.pw_crosswalls_k18_common_and_beyond_both K mg C R O W NB G stNB := ⟨TQ, E_NoneBeyond, kNo, kNt, g_FloorError, kit_ref kGc kGt kNG (.inr rfl), PySem.W.exm_ref E_NoneBeyond.ec.hs E_NoneBeyond.ec.hd E_NoneBeyond.oex.tyC kNN⟩
  have kt : ∀ H : Hp, SeqO K H e0 [] := fun H => .inr (.inr ⟨rfl, _, n0, ke0, rfl, rfl⟩)
  have D_draw := ok_draw (P := PySem.Challenge.pw_crosswalls_k18_common_and_beyond_both) (w := w) (base := base) F_draw T
  have D_pen := ok_pen (P := PySem.Challenge.pw_crosswalls_k18_common_and_beyond_both) (w := w) (base := base) F_pen T
  have D_are := ok_are_letters (P := PySem.Challenge.pw_crosswalls_k18_common_and_beyond_both) (w := w) (base := base) F_are_letters TP
  have D_asc := ok_ascending (P := PySem.Challenge.pw_crosswalls_k18_common_and_beyond_both) (w := w) (base := base) F_ascending TP
  have D_isl := ok_is_list (P := PySem.Challenge.pw_crosswalls_k18_common_and_beyond_both) (w := w) (base := base) F_is_list TP
  have D_few := ok_need_few (P := PySem.Challenge.pw_crosswalls_k18_common_and_beyond_both) (w := w) (base := base) F_need_few TP
  have D_chk := ok_checked_pairs F_checked_pairs TP D_isl D_are D_asc
  have D_tab := ok_crossing_table (P := PySem.Challenge.pw_crosswalls_k18_common_and_beyond_both) (w := w) (base := base) F_crossing_table TP
  have X_Plan := ok_Plan F_Plan_init rfl TP D_are D_asc D_chk D_few D_tab
  have M_Plan_eq := ok_Plan_eq (P := PySem.Challenge.pw_crosswalls_k18_common_and_beyond_both) (w := w) (mg := mg) (base := base) F_Plan_eq TP
  have D_st := ok_stepped (P := PySem.Challenge.pw_crosswalls_k18_common_and_beyond_both) (w := w) (base := base) F_stepped TP
  have D_jo := ok_joined F_joined D_st
  have D_tb := ok_turned_back F_turned_back D_jo
  have D_wf := ok_way_from F_way_from D_jo D_tb
  have D_ns := ok_need_same F_need_same TR M_Plan_eq
  have D_sf := ok_still_free (P := PySem.Challenge.pw_crosswalls_k18_common_and_beyond_both) (w := w) (base := base) F_still_free TP
  have D_fk := ok_first_kinds F_first_kinds TP D_sf
  have D_nw := ok_need_way (P := PySem.Challenge.pw_crosswalls_k18_common_and_beyond_both) (w := w) (base := base) F_need_way TR
  have X_Room := ok_Room F_Room_init rfl TR D_nw D_jo
  have M_wt := ok_Room_way_to F_Room_way_to TR D_ns D_wf
  have D_pick := ok_pick F_pick T D_draw
  have D_shuf := ok_shuffled F_shuffled T D_draw
  have D_floor := ok_floor F_floor TH D_draw D_pick
  have D_made := ok_made F_made TR D_draw D_shuf X_Plan.cdef
  have D_walk := ok_walk F_walk TH D_draw D_pick
  have D_begun := ok_begun F_begun D_draw D_walk
  have D_units := ok_units (P := PySem.Challenge.pw_crosswalls_k18_common_and_beyond_both) (w := w) (base := base) F_units TV
  have D_through := ok_through (P := PySem.Challenge.pw_crosswalls_k18_common_and_beyond_both) (w := w) (base := base) F_through TV
  have D_marks := ok_marks F_marks D_units D_through
  have D_backs := ok_backs (P := PySem.Challenge.pw_crosswalls_k18_common_and_beyond_both) (w := w) (base := base) F_backs TV
  have D_name := ok_name F_name D_marks D_through D_backs
  have D_crossed := ok_crossed F_crossed D_units D_through
  have D_plain := ok_plain (P := PySem.Challenge.pw_crosswalls_k18_common_and_beyond_both) (w := w) (base := base) F_plain TV
  have D_lk := ok_last_kinds F_last_kinds D_fk
  have D_sa := ok_split_ahead F_split_ahead TR D_sf
  have D_we := ok_without_end F_without_end D_sa
  have D_ws := ok_wall_start F_wall_start TR D_lk D_st D_we
  have D_ik := ok_is_kind (P := PySem.Challenge.pw_crosswalls_k18_common_and_beyond_both) (w := w) (base := base) F_is_kind TP
  have D_nk := ok_need_kind F_need_kind D_ik
  have X_Wall := ok_Wall F_Wall_init TW D_nk D_ws X_Room.cdef
  have M_len := ok_Room_len (P := PySem.Challenge.pw_crosswalls_k18_common_and_beyond_both) (w := w) (mg := mg) (base := base) F_Room_len TR
  have D_io := ok_in_order (P := PySem.Challenge.pw_crosswalls_k18_common_and_beyond_both) (w := w) (base := base) F_in_order TO
  have D_wk := ok_wall_keys F_wall_keys D_io D_st D_ws
  have D_wb := ok_walls_between F_walls_between TW D_wk M_wt.calm X_Room.cdef X_Wall.cdef
  have M_eq := ok_Room_eq F_Room_eq TR M_Plan_eq
  have M_add := ok_Room_add F_Room_add TR D_nw D_jo X_Room.cdef
  have D_wi := (ok_without_first (P := PySem.Challenge.pw_crosswalls_k18_common_and_beyond_both) (w := w) (base := base) F_without_first).mono (show 1 ≤ 2 by decide)
  have D_ib := ok_in_both (P := PySem.Challenge.pw_crosswalls_k18_common_and_beyond_both) (w := w) (mg := mg) (base := base) F_in_both
  have D_sb := ok_shared_begin F_shared_begin D_wi D_ib D_fk
  have D_mn := ok_middle_name F_middle_name D_jo D_wf D_sb
  have D_co := ok_common F_common TR D_ns.calm D_mn X_Room.cdef
  have M_cr := ok_Wall_crosses F_Wall_crosses TW D_ns.calm D_wf D_sa D_jo D_ws
  have D_un := ok_uncrossed F_uncrossed TW M_cr
  have X_NB := ok_E2 (w := w) (base := base) (k := 0) (fld := "one") (fld2 := "other") (y := "one") (z := "other") E_NoneBeyond z_super kNo kNt rfl (NdefX.nscope_by (by decide +kernel)) rfl rfl rfl rfl rfl (fun kV doc pm an cda cc ct us hl => by
    match us, hl with
    | [_, _, _], _ => rfl) (fun env => rfl)
  have D_bb := ok_beyond_both F_bb TQ X_NB D_co D_un D_wb M_wt.calm M_add
  have D_bbk := D_bb.kw F_bb 0 ["other", "one"] [.kw 1, .kw 0] fun kV doc pm an cdv ct us ws l1 l2 => by
    match us, l1, ws, l2 with
    | [], _, [_, _], _ => rfl
  have D_cok := D_co.kw F_common 0 ["other", "one"] [.kw 1, .kw 0] fun kV doc pm an cdv ct us ws l1 l2 => by
    match us, l1, ws, l2 with
    | [], _, [_, _], _ => rfl
  have C_Plan_1 := X_Plan.kw 1 [] [.pos 0, .dfl 0] (by simp) fun T kV doc pm an cdv ct us its ws l1 l2 l3 => by
    match us, l1, its, l2, ws, l3 with
    | [_, _], _, [_], _, [], _ => exact ⟨_, rfl, rfl⟩
  have D_positive := ok_positive (P := PySem.Challenge.pw_crosswalls_k18_common_and_beyond_both) (w := w) (base := base) F_positive TV
  have D_product := ok_product (P := PySem.Challenge.pw_crosswalls_k18_common_and_beyond_both) (w := w) (base := base) F_product TV
  have D_nearest := ok_nearest F_nearest D_marks D_through D_backs D_name
  have D_shuts := ok_shuts F_shuts TS D_nearest D_marks D_positive
  have D_apart := ok_apart F_apart D_product
  have D_told := ok_toldB F_told TTo D_bbk
  have D_rooms := ok_rooms F_rooms TG D_made X_Room.cdef
  have D_pr := ok_plain_right F_plain_right TG kt D_name D_co X_Room.cdef C_Plan_1
  have D_drawn := ok_drawn F_drawn TG D_draw D_pick D_walk
  exact ok_law F_law TJ D_pen D_floor D_begun D_drawn D_rooms D_crossed D_name D_plain D_co D_cok D_shuts D_apart D_told D_pr M_eq M_len
end
end Cw
set_option Elab.async false
set_option linter.all false
set_option maxRecDepth 100000
open PySem PySem.W PyProof.Rows
set_option maxRecDepth 100000 in
set_option maxHeartbeats 0 in
theorem PySem.Challenge.cw_crosswalls_k18_common_and_beyond_both_holds : PySem.Challenge.rw_crosswalls_k18_common_and_beyond_both.Holds := by
  refine Cw.headOf ?_
  k_fill
  refine Cw.end_walk (l := PySem.Challenge.rw_crosswalls_k18_common_and_beyond_both) (k := 10) (x := "_law_script") (sp := Cw.spLaw) rfl rfl ⟨rfl, by decide, by decide⟩ (fun w h Y => PySem.W.kIn_of Y) (fun _ _ a ns hl _ hS => ⟨a, ns, rfl, hS, hl, fun _ => rfl⟩) ?F
  case F =>
    intro w mg fa h KX G hmg
    refine' ⟨_, fun s v => ?b, fun base _ _ => ?h⟩
    case h =>
      refine' Cw.end18 ?c_Plan ?c_Room ?c_Wall ?e_OtherPlan ?E_NoneBeyond ?F_stepped ?F_joined ?F_turned_back ?F_way_from ?F_still_free ?F_first_kinds ?F_last_kinds ?F_without_first ?F_split_ahead ?F_without_end ?F_shared_begin ?F_in_both ?F_wall_start ?F_in_order ?F_wall_keys ?F_walls_between ?F_middle_name ?F_common ?F_uncrossed ?F_is_list ?F_is_kind ?F_need_kind ?F_need_way ?F_need_same ?F_are_letters ?F_ascending ?F_checked_pairs ?F_need_few ?F_crossing_table ?F_bb ?F_pen ?F_draw ?F_pick ?F_shuffled ?F_floor ?F_made ?F_walk ?F_begun ?F_units ?F_through ?F_marks ?F_backs ?F_name ?F_plain ?F_crossed ?F_product ?F_positive ?F_nearest ?F_told ?F_rooms ?F_plain_right ?F_drawn ?F_shuts ?F_apart ?F_law ?F_Plan_eq ?F_Plan_init ?F_Room_init ?F_Wall_init ?F_Room_len ?F_Room_eq ?F_Room_add ?F_Room_way_to ?F_Wall_crosses ?z_len ?z_int ?z_list ?z_isinstance ?z_str ?z_all ?z_set ?z_tuple ?z_enumerate ?z_range ?z_min ?z_dict ?z_sorted ?z_super ?n_C_kinds ?n_C_pairs ?n_C_own_crossing ?n_R_plan ?n_R_name ?n_W_plan ?n_W_kind ?n_W_room ?g_LETTERS ?g_MOST_KINDS ?g_MOST_LETTERS ?g_FloorError ?ke0 ?kRs ?kNo ?kNt ?kNN ?kNG ?kGc ?kGt base
      case c_Plan => refine' Cw.cls_mk KX G ?a ?pg ?hd ?po ?sa ?mk ?kc ?ha ?hn ?ht ?hm ?ob ?ne; (case a => k_is); (case pg => k_is); (case hd => k_is); (case po => k_is); (case sa => k_is); (case mk => k_is); (case kc => k_is); (case ha => k_is); (case hn => k_is); (case ht => k_is); (case hm => k_is); (case ob => k_is); (case ne => k_is)
      case c_Room => refine' Cw.cls_mk KX G ?a ?pg ?hd ?po ?sa ?mk ?kc ?ha ?hn ?ht ?hm ?ob ?ne; (case a => k_is); (case pg => k_is); (case hd => k_is); (case po => k_is); (case sa => k_is); (case mk => k_is); (case kc => k_is); (case ha => k_is); (case hn => k_is); (case ht => k_is); (case hm => k_is); (case ob => k_is); (case ne => k_is)
      case c_Wall => refine' Cw.cls_mk KX G ?a ?pg ?hd ?po ?sa ?mk ?kc ?ha ?hn ?ht ?hm ?ob ?ne; (case a => k_is); (case pg => k_is); (case hd => k_is); (case po => k_is); (case sa => k_is); (case mk => k_is); (case kc => k_is); (case ha => k_is); (case hn => k_is); (case ht => k_is); (case hm => k_is); (case ob => k_is); (case ne => k_is)
      case e_OtherPlan => refine' Cw.exc_mk KX G ?a ?e ?k ?ty ?hg ?hk ?hs ?hd ?ha ?hn ?ht ?hm; (case a => k_is); (case k => k_is); (case ty => k_is); (case hg => k_is); (case hk => k_is); (case hs => k_is); (case hd => k_is); (case ha => k_is); (case hn => k_is); (case ht => k_is); (case hm => k_is); (case e => k_exc)
      case E_NoneBeyond => refine' Cw.exE_mk KX G ?a ?lk ?rv ?sa ?hs ?ty ?k ?hg ?hk ?hd ?ha ?hn ?ht ?hm ?fi ?ti ?lf ?cd ?par ?par2 ?lc ?v2 ?fe ?top ?lcc ?op ?up; (case a => k_is); (case lk => k_is); (case sa => k_is); (case hs => k_is); (case ty => k_is); (case k => k_is); (case hg => k_is); (case hk => k_is); (case hd => k_is); (case ha => k_is); (case hn => k_is); (case ht => k_is); (case hm => k_is); (case fi => k_is); (case ti => k_is); (case lf => k_is); (case cd => k_is); (case lc => k_is); (case lcc => k_is); (case op => k_is); (case rv => kernel_rfl); (case par => rfl); (case par2 => rfl); (case v2 => rfl); (case fe => kernel_rfl); (case top => kernel_rfl); (case up => kernel_rfl)
      case F_stepped => refine' Cw.fnAt_mk KX G ?a ?l ?c ?k; (case a => k_is); (case l => k_is); (case c => k_is); (case k => k_is)
      case F_joined => refine' Cw.fnAt_mk KX G ?a ?l ?c ?k; (case a => k_is); (case l => k_is); (case c => k_is); (case k => k_is)
      case F_turned_back => refine' Cw.fnAt_mk KX G ?a ?l ?c ?k; (case a => k_is); (case l => k_is); (case c => k_is); (case k => k_is)
      case F_way_from => refine' Cw.fnAt_mk KX G ?a ?l ?c ?k; (case a => k_is); (case l => k_is); (case c => k_is); (case k => k_is)
      case F_still_free => refine' Cw.fnAt_mk KX G ?a ?l ?c ?k; (case a => k_is); (case l => k_is); (case c => k_is); (case k => k_is)
      case F_first_kinds => refine' Cw.fnAt_mk KX G ?a ?l ?c ?k; (case a => k_is); (case l => k_is); (case c => k_is); (case k => k_is)
      case F_last_kinds => refine' Cw.fnAt_mk KX G ?a ?l ?c ?k; (case a => k_is); (case l => k_is); (case c => k_is); (case k => k_is)
      case F_without_first => refine' Cw.fnAt_mk KX G ?a ?l ?c ?k; (case a => k_is); (case l => k_is); (case c => k_is); (case k => k_is)
      case F_split_ahead => refine' Cw.fnAt_mk KX G ?a ?l ?c ?k; (case a => k_is); (case l => k_is); (case c => k_is); (case k => k_is)
      case F_without_end => refine' Cw.fnAt_mk KX G ?a ?l ?c ?k; (case a => k_is); (case l => k_is); (case c => k_is); (case k => k_is)
      case F_shared_begin => refine' Cw.fnAt_mk KX G ?a ?l ?c ?k; (case a => k_is); (case l => k_is); (case c => k_is); (case k => k_is)
      case F_in_both => refine' Cw.fnAt_mk KX G ?a ?l ?c ?k; (case a => k_is); (case l => k_is); (case c => k_is); (case k => k_is)
      case F_wall_start => refine' Cw.fnAt_mk KX G ?a ?l ?c ?k; (case a => k_is); (case l => k_is); (case c => k_is); (case k => k_is)
      case F_in_order => refine' Cw.fnAt_mk KX G ?a ?l ?c ?k; (case a => k_is); (case l => k_is); (case c => k_is); (case k => k_is)
      case F_wall_keys => refine' Cw.fnAt_mk KX G ?a ?l ?c ?k; (case a => k_is); (case l => k_is); (case c => k_is); (case k => k_is)
      case F_walls_between => refine' Cw.fnAt_mk KX G ?a ?l ?c ?k; (case a => k_is); (case l => k_is); (case c => k_is); (case k => k_is)
      case F_middle_name => refine' Cw.fnAt_mk KX G ?a ?l ?c ?k; (case a => k_is); (case l => k_is); (case c => k_is); (case k => k_is)
      case F_common => refine' Cw.fnAt_mk KX G ?a ?l ?c ?k; (case a => k_is); (case l => k_is); (case c => k_is); (case k => k_is)
      case F_uncrossed => refine' Cw.fnAt_mk KX G ?a ?l ?c ?k; (case a => k_is); (case l => k_is); (case c => k_is); (case k => k_is)
      case F_is_list => refine' Cw.fnAt_mk KX G ?a ?l ?c ?k; (case a => k_is); (case l => k_is); (case c => k_is); (case k => k_is)
      case F_is_kind => refine' Cw.fnAt_mk KX G ?a ?l ?c ?k; (case a => k_is); (case l => k_is); (case c => k_is); (case k => k_is)
      case F_need_kind => refine' Cw.fnAt_mk KX G ?a ?l ?c ?k; (case a => k_is); (case l => k_is); (case c => k_is); (case k => k_is)
      case F_need_way => refine' Cw.fnAt_mk KX G ?a ?l ?c ?k; (case a => k_is); (case l => k_is); (case c => k_is); (case k => k_is)
      case F_need_same => refine' Cw.fnAt_mk KX G ?a ?l ?c ?k; (case a => k_is); (case l => k_is); (case c => k_is); (case k => k_is)
      case F_are_letters => refine' Cw.fnAt_mk KX G ?a ?l ?c ?k; (case a => k_is); (case l => k_is); (case c => k_is); (case k => k_is)
      case F_ascending => refine' Cw.fnAt_mk KX G ?a ?l ?c ?k; (case a => k_is); (case l => k_is); (case c => k_is); (case k => k_is)
      case F_checked_pairs => refine' Cw.fnAt_mk KX G ?a ?l ?c ?k; (case a => k_is); (case l => k_is); (case c => k_is); (case k => k_is)
      case F_need_few => refine' Cw.fnAt_mk KX G ?a ?l ?c ?k; (case a => k_is); (case l => k_is); (case c => k_is); (case k => k_is)
      case F_crossing_table => refine' Cw.fnAt_mk KX G ?a ?l ?c ?k; (case a => k_is); (case l => k_is); (case c => k_is); (case k => k_is)
      case F_bb => refine' Cw.fnAt_mk KX G ?a ?l ?c ?k; (case a => k_is); (case l => k_is); (case c => k_is); (case k => k_is)
      case F_pen => refine' Cw.fnAt_mk KX G ?a ?l ?c ?k; (case a => k_is); (case l => k_is); (case c => k_is); (case k => k_is)
      case F_draw => refine' Cw.fnAt_mk KX G ?a ?l ?c ?k; (case a => k_is); (case l => k_is); (case c => k_is); (case k => k_is)
      case F_pick => refine' Cw.fnAt_mk KX G ?a ?l ?c ?k; (case a => k_is); (case l => k_is); (case c => k_is); (case k => k_is)
      case F_shuffled => refine' Cw.fnAt_mk KX G ?a ?l ?c ?k; (case a => k_is); (case l => k_is); (case c => k_is); (case k => k_is)
      case F_floor => refine' Cw.fnAt_mk KX G ?a ?l ?c ?k; (case a => k_is); (case l => k_is); (case c => k_is); (case k => k_is)
      case F_made => refine' Cw.fnAt_mk KX G ?a ?l ?c ?k; (case a => k_is); (case l => k_is); (case c => k_is); (case k => k_is)
      case F_walk => refine' Cw.fnAt_mk KX G ?a ?l ?c ?k; (case a => k_is); (case l => k_is); (case c => k_is); (case k => k_is)
      case F_begun => refine' Cw.fnAt_mk KX G ?a ?l ?c ?k; (case a => k_is); (case l => k_is); (case c => k_is); (case k => k_is)
      case F_units => refine' Cw.fnAt_mk KX G ?a ?l ?c ?k; (case a => k_is); (case l => k_is); (case c => k_is); (case k => k_is)
      case F_through => refine' Cw.fnAt_mk KX G ?a ?l ?c ?k; (case a => k_is); (case l => k_is); (case c => k_is); (case k => k_is)
      case F_marks => refine' Cw.fnAt_mk KX G ?a ?l ?c ?k; (case a => k_is); (case l => k_is); (case c => k_is); (case k => k_is)
      case F_backs => refine' Cw.fnAt_mk KX G ?a ?l ?c ?k; (case a => k_is); (case l => k_is); (case c => k_is); (case k => k_is)
      case F_name => refine' Cw.fnAt_mk KX G ?a ?l ?c ?k; (case a => k_is); (case l => k_is); (case c => k_is); (case k => k_is)
      case F_plain => refine' Cw.fnAt_mk KX G ?a ?l ?c ?k; (case a => k_is); (case l => k_is); (case c => k_is); (case k => k_is)
      case F_crossed => refine' Cw.fnAt_mk KX G ?a ?l ?c ?k; (case a => k_is); (case l => k_is); (case c => k_is); (case k => k_is)
      case F_product => refine' Cw.fnAt_mk KX G ?a ?l ?c ?k; (case a => k_is); (case l => k_is); (case c => k_is); (case k => k_is)
      case F_positive => refine' Cw.fnAt_mk KX G ?a ?l ?c ?k; (case a => k_is); (case l => k_is); (case c => k_is); (case k => k_is)
      case F_nearest => refine' Cw.fnAt_mk KX G ?a ?l ?c ?k; (case a => k_is); (case l => k_is); (case c => k_is); (case k => k_is)
      case F_told => refine' Cw.fnAt_mk KX G ?a ?l ?c ?k; (case a => k_is); (case l => k_is); (case c => k_is); (case k => k_is)
      case F_rooms => refine' Cw.fnAt_mk KX G ?a ?l ?c ?k; (case a => k_is); (case l => k_is); (case c => k_is); (case k => k_is)
      case F_plain_right => refine' Cw.fnAt_mk KX G ?a ?l ?c ?k; (case a => k_is); (case l => k_is); (case c => k_is); (case k => k_is)
      case F_drawn => refine' Cw.fnAt_mk KX G ?a ?l ?c ?k; (case a => k_is); (case l => k_is); (case c => k_is); (case k => k_is)
      case F_shuts => refine' Cw.fnAt_mk KX G ?a ?l ?c ?k; (case a => k_is); (case l => k_is); (case c => k_is); (case k => k_is)
      case F_apart => refine' Cw.fnAt_mk KX G ?a ?l ?c ?k; (case a => k_is); (case l => k_is); (case c => k_is); (case k => k_is)
      case F_law => refine' Cw.fun1_mk KX G hmg ?a ?l ?c ?k; (case a => k_is); (case l => k_is); (case c => k_is); (case k => k_is)
      case F_Plan_eq => refine' Cw.mAt_mk ?a ?i ?l ?c ?k; (case a => k_is); (case i => k_is); (case l => k_is); (case c => k_is); (case k => k_is)
      case F_Plan_init => refine' Cw.mAtD_mk ?a ?i ?l ?c ?k ?t ?v ?d; (case a => k_is); (case i => k_is); (case l => k_is); (case c => k_is); (case k => k_is); (case t => k_is); (case v => exact .cons rfl .nil); (case d => intro z; cases z)
      case F_Room_init => refine' Cw.mAtD_mk ?a ?i ?l ?c ?k ?t ?v ?d; (case a => k_is); (case i => k_is); (case l => k_is); (case c => k_is); (case k => k_is); (case t => k_is); (case v => exact .cons ⟨_, rfl⟩ .nil); (case d => intro z; cases z)
      case F_Wall_init => refine' Cw.mAt_mk ?a ?i ?l ?c ?k; (case a => k_is); (case i => k_is); (case l => k_is); (case c => k_is); (case k => k_is)
      case F_Room_len => refine' Cw.mAt_mk ?a ?i ?l ?c ?k; (case a => k_is); (case i => k_is); (case l => k_is); (case c => k_is); (case k => k_is)
      case F_Room_eq => refine' Cw.mAt_mk ?a ?i ?l ?c ?k; (case a => k_is); (case i => k_is); (case l => k_is); (case c => k_is); (case k => k_is)
      case F_Room_add => refine' Cw.mAt_mk ?a ?i ?l ?c ?k; (case a => k_is); (case i => k_is); (case l => k_is); (case c => k_is); (case k => k_is)
      case F_Room_way_to => refine' Cw.mAt_mk ?a ?i ?l ?c ?k; (case a => k_is); (case i => k_is); (case l => k_is); (case c => k_is); (case k => k_is)
      case F_Wall_crosses => refine' Cw.mAt_mk ?a ?i ?l ?c ?k; (case a => k_is); (case i => k_is); (case l => k_is); (case c => k_is); (case k => k_is)
      case z_len => refine' PySem.W.mg_none_of KX G ?a; (case a => k_is)
      case z_int => refine' PySem.W.mg_none_of KX G ?a; (case a => k_is)
      case z_list => refine' PySem.W.mg_none_of KX G ?a; (case a => k_is)
      case z_isinstance => refine' PySem.W.mg_none_of KX G ?a; (case a => k_is)
      case z_str => refine' PySem.W.mg_none_of KX G ?a; (case a => k_is)
      case z_all => refine' PySem.W.mg_none_of KX G ?a; (case a => k_is)
      case z_set => refine' PySem.W.mg_none_of KX G ?a; (case a => k_is)
      case z_tuple => refine' PySem.W.mg_none_of KX G ?a; (case a => k_is)
      case z_enumerate => refine' PySem.W.mg_none_of KX G ?a; (case a => k_is)
      case z_range => refine' PySem.W.mg_none_of KX G ?a; (case a => k_is)
      case z_min => refine' PySem.W.mg_none_of KX G ?a; (case a => k_is)
      case z_dict => refine' PySem.W.mg_none_of KX G ?a; (case a => k_is)
      case z_sorted => refine' PySem.W.mg_none_of KX G ?a; (case a => k_is)
      case z_super => refine' PySem.W.mg_none_of KX G ?a; (case a => k_is)
      case n_C_kinds => unfold L2.NoAttr; k_is
      case n_C_pairs => unfold L2.NoAttr; k_is
      case n_C_own_crossing => unfold L2.NoAttr; k_is
      case n_R_plan => unfold L2.NoAttr; k_is
      case n_R_name => unfold L2.NoAttr; k_is
      case n_W_plan => unfold L2.NoAttr; k_is
      case n_W_kind => unfold L2.NoAttr; k_is
      case n_W_room => unfold L2.NoAttr; k_is
      case g_LETTERS => refine' Cw.glob_mk KX G ?a; (case a => k_is)
      case g_MOST_KINDS => refine' Cw.glob_mk KX G ?a; (case a => k_is)
      case g_MOST_LETTERS => refine' Cw.glob_mk KX G ?a; (case a => k_is)
      case g_FloorError => refine' Cw.glob_mk KX G ?a; (case a => k_is)
      case ke0 => first | k_is | k_exc | kernel_rfl
      case kRs => first | k_is | k_exc | kernel_rfl
      case kNo => first | k_is | k_exc | kernel_rfl
      case kNt => first | k_is | k_exc | kernel_rfl
      case kNN => first | k_is | k_exc | kernel_rfl
      case kNG => first | k_is | k_exc | kernel_rfl
      case kGc => first | k_is | k_exc | kernel_rfl
      case kGt => first | k_is | k_exc | kernel_rfl
    case b => exact .of_eq rfl
