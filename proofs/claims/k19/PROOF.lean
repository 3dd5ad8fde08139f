import PyProof.Rows.All
import Wide.All
import OpenK.AllK
import Wide.FinOn
import PySem.Challenge.RW_crosswalls_k19_whole_gates
import HandS.ForMost
import HandS.ForExc
import HandS.Wide
import HandS.Style
import HandS.Flow
import HandS.IsInst
import HandS.OwnEq
import PyProof.Rows.SetFrom
import PyProof.StrWalks
import PyProof.InstNe
import HandS.Exc
import HandS.Defaults
import HandS.Walk
import PyProof.Rows.StrRev
import HandS.Steps
import KE.GoesMore
import HandS.TupLe
import HandS.ExcOwn
import HandS.ExcIs
import PyProof.ExcBaseAll.ValueError
import HandS.Iter
import HandS.Conv
import HandS.More
import HandS.WordsExc
import HandS.MakeKw
import HandS.MakeKwOnly
import HandS.Replace
import HandS.Codes
import PyProof.FString5
import PyProof.JoinWalk
import PyProof.CollectIter
import PyProof.DictWalks
import PyProof.FactsAll.dict_keyiterator_1
import PyProof.Rows.StrJoin2
import KE.KDictList
import HandS.TryOnly
import HandS.Deep
import HandS.DeepEq
import PyProof.NeKinds
import HandS.Ends
set_option Elab.async false
set_option linter.all false
set_option maxRecDepth 100000
open PySem PySem.W PyProof.Rows in
set_option maxHeartbeats 0 in
open_top Cw.headOf for PySem.Challenge.rw_crosswalls_k19_whole_gates
set_option Elab.async false
set_option maxRecDepth 100000
set_option maxHeartbeats 4000000
/-! Own words over the hand layer: defs by name, texts as lists of codes. -/
namespace Cw
open PySem PySem.Spec PyProof.Rows L2

/-! ### defs by their module name -/
/-- a def of the module stands as the text has it -/
structure FnAt (K : PySem.W.Frag) (mg : Str → Option Value) (x : Str) (st : Stmt) : Prop where
  ex : ∃ f fd, mg x = some (.ref f) ∧ Fun K x x st f fd
/-- how a def's arguments bind where all are given, and where it stands -/
structure Bd (K : PySem.W.Frag) (f : Addr) (fd : FuncData) (ps : List Str) : Prop where
  b : Binds K fd ps []
  lk : ∃ oc od osl, K.lookup f = some ⟨oc, od, .func fd, osl⟩
theorem funLk {K : PySem.W.Frag} {x qual : Str} {st : Stmt} {f : Addr} {fd : FuncData} (F : Fun K x qual st f fd) : ∃ oc od osl, K.lookup f = some ⟨oc, od, .func fd, osl⟩ := by
  obtain ⟨oc, od, kV, doc, pm, an, cdv, ct, osl, rfl, lk, _⟩ := F.ex
  exact ⟨oc, od, osl, lk⟩
/-- a def of the module keeps a promise -/
structure Def (P : Program) (w : World) (K : PySem.W.Frag) (mg : Str → Option Value) (base : Heap) (CX : CXT) (k : Nat) (x : Str) (ps : List Str) (sp : Sp) : Prop where
  ex : ∃ f fd, mg x = some (.ref f) ∧ PySem.W.keepIn K (.ref f) = true ∧ Bd K f fd ps ∧ FnOk P w K mg base CX k f fd ps sp
section
variable {P : Program} {w : World} {K : PySem.W.Frag} {mg : Str → Option Value} {base : Heap} {CX : CXT} {k : Nat} {x : Str} {ps N : List Str} {sp : Sp} {st : Stmt}
theorem Def.mono {j : Nat} (D : Def P w K mg base CX j x ps sp) (h : j ≤ k) : Def P w K mg base CX k x ps sp := by
  obtain ⟨f, fd, a, b, c, d⟩ := D.ex
  exact ⟨f, fd, a, b, c, d.mono h⟩
theorem Def.imp {sp' : Sp} (D : Def P w K mg base CX k x ps sp) (h : ∀ vs H Q E, sp' vs H Q E → sp vs H Q E) : Def P w K mg base CX k x ps sp' := by
  obtain ⟨f, fd, a, b, c, d⟩ := D.ex
  exact ⟨f, fd, a, b, c, d.imp h⟩
/-- a def that lets no exception out -/
theorem FnAt.ok (F : FnAt K mg x st) (S : FnScope N ps (defScope st))
    (hb : ∀ (kV doc pm : Value) (an : Option Addr) (cdv ct : Value) (us : List Value), us.length = ps.length → bindArgs (PySem.W.fnOf x x (defArgs st) (defBody st) (defScope st) .none kV doc pm an cdv ct) ⟨us, []⟩ = pure (ps.zip us))
    (len : ∀ vs H Q E, sp vs H Q E → vs.length = ps.length)
    (hbody : ∀ (f : Addr) (cdv : Value) (A : Around) (outer : List Env) (s : Shared) (H : Hp) (vs : List V) (Q : VK) (E : XK), Room k (A.deeper (envOfC x (defScope st) s.heap.objs.size f cdv)) → sp vs H Q E →
      ∃ t, PSs (cxOf CX0 P w K mg base N x (defScope st) f cdv A outer s H E).nox (defBody st) t ∧ t { nx := fun _ H' => Q .non H', rt := Q } (start N vs) H) : Def P w K mg base CX0 (k + 1) x ps sp := by
  obtain ⟨f, fd, hm, F⟩ := F.ex
  exact ⟨f, fd, hm, F.kp, ⟨F.binds hb, funLk F⟩, F.ok S len fun cdv A outer s H vs Q E hr h => hbody f cdv A outer s H vs Q E hr h⟩
/-- a def that may raise -/
theorem FnAt.okX (F : FnAt K mg x st) (S : FnScope N ps (defScope st))
    (hb : ∀ (kV doc pm : Value) (an : Option Addr) (cdv ct : Value) (us : List Value), us.length = ps.length → bindArgs (PySem.W.fnOf x x (defArgs st) (defBody st) (defScope st) .none kV doc pm an cdv ct) ⟨us, []⟩ = pure (ps.zip us))
    (len : ∀ vs H Q E, sp vs H Q E → vs.length = ps.length)
    (hbody : ∀ (f : Addr) (cdv : Value) (A : Around) (outer : List Env) (s : Shared) (H : Hp) (vs : List V) (Q : VK) (E : XK), Room k (A.deeper (envOfC x (defScope st) s.heap.objs.size f cdv)) → sp vs H Q E →
      ∃ t, PSs (cxOf (L2.CX P w) P w K mg base N x (defScope st) f cdv A outer s H E) (defBody st) t ∧ t { nx := fun _ H' => Q .non H', rt := Q } (start N vs) H) : Def P w K mg base (L2.CX P w) (k + 1) x ps sp := by
  obtain ⟨f, fd, hm, F⟩ := F.ex
  exact ⟨f, fd, hm, F.kp, ⟨F.binds hb, funLk F⟩, F.okX S len fun cdv A outer s H vs Q E hr h => hbody f cdv A outer s H vs Q E hr h⟩
end
section
variable {X : Cx} {CX : CXT} {k : Nat} {ps : List Str} {sp : Sp} {E : XK} {x : Str} {p pos : PySem.Pos} {e : Expr} {es : List Expr} {t : TA}
/-- f(e, ..) of a def that is known by its name -/
theorem pe_cd (D : Def X.prog X.w X.K X.mg X.base CX k x ps sp) (hr : Room k X.A) (hx : Passes CX X E) (ha : PA X (e :: es) t) (hg : Gl X x := by rfl) (hdb : (x == ("__debug__" : Str)) = false := by decide)
    (he : starEach (e :: es) X.env = (false, eval e X.env) :: starEach es X.env := by rfl) (hpl : (backTo pos (starEach es X.env)).any (·.1) = false := by rfl) : PE X (.Call (.Name x p) (e :: es) [] pos) (tCall sp [] E t) := by
  obtain ⟨f, fd, a, b, c, d⟩ := D.ex
  exact pe_call d hr hg a b c.b .nil hx ha hdb he hpl
end
/-! ### heaps -/
/-- all but the object at p is kept -/
def Keep (p : Addr) (H H' : Hp) : Prop := ∀ b o, H b = some o → b ≠ p → H' b = some o
theorem Keep.refl (p : Addr) (H : Hp) : Keep p H H := fun _ _ h _ => h
theorem Keep.trans {p : Addr} {H H1 H2 : Hp} (a : Keep p H H1) (b : Keep p H1 H2) : Keep p H H2 := fun c o h n => b c o (a c o h n) n
theorem Keep.of {p : Addr} {H H' : Hp} (a : Same H H') : Keep p H H' := fun c o h _ => a c o h
theorem Same.at {H H' : Hp} {a : Addr} {o : HO} (S : Same H H') (h : H a = some o) : H' a = some o := S a o h
theorem Keep.at {p : Addr} {H H' : Hp} {a : Addr} {o : HO} (S : Keep p H H') (h : H a = some o) (n : a ≠ p) : H' a = some o := S a o h n
theorem Same.new {H : Hp} {p : Addr} {o : HO} (h : H p = none) : Same H (upd H p o) := fun a u e => by
  rw [upd_ne (ne_of_none e h)]
  exact e
theorem Keep.put {p : Addr} {H : Hp} {o : HO} : Keep p H (upd H p o) := fun a u e n => by
  rw [upd_ne n]
  exact e
end Cw
set_option Elab.async false
set_option linter.all false
set_option maxRecDepth 100000
set_option maxHeartbeats 4000000
namespace Cw
open PySem PySem.Spec L2
/-! ### texts as lists of codes -/
abbrev tx (l : List Nat) : Str := ⟨l.toArray⟩
theorem tx_len (l : List Nat) : (tx l).length = l.length := by
  show (l.toArray).size = l.length
  simp
theorem tx_app (a b : List Nat) : tx a ++ tx b = tx (a ++ b) := by
  show (⟨a.toArray ++ b.toArray⟩ : Str) = ⟨(a ++ b).toArray⟩
  simp
theorem tx_eq {z : Str} : z = tx z.cps.toList := by
  cases z
  simp [tx]
theorem tx_inj {a b : List Nat} : tx a = tx b ↔ a = b := by
  constructor
  · intro h
    have := congrArg (fun z : Str => z.cps.toList) h
    simpa using this
  · intro h
    rw [h]
theorem dec_tx {a b : List Nat} : decide (V.str (tx a) = V.str (tx b)) = decide (a = b) := by
  rw [Bool.eq_iff_iff, decide_eq_true_iff, decide_eq_true_iff]
  constructor
  · intro h
    injection h with h
    exact tx_inj.mp h
  · intro h
    rw [h]

/-! ### stepping: expressions -/
section
variable {σ : St} {H : Hp} {Q : VK} {i : Nat} {v x y : V} {ta tb te : TE} {r : R2} {D : Ends} {K : PySem.W.Frag}
theorem e_var (h : σ[i]? = some (some v)) (q : Q v H) : tVar i σ H Q := ⟨v, h, q⟩
theorem e_c (q : Q v H) : tC v σ H Q := q
theorem e_op (q : ta σ H fun x H1 => tb σ H1 fun y H2 => r x y H2 Q) : tOp r ta tb σ H Q := q
theorem e_un {r : V → Hp → VK → Prop} (q : ta σ H fun x H1 => r x H1 Q) : tUn r ta σ H Q := q
theorem v_I0 {g : Int → Int → V} {a b : Int} (q : Q (g a b) H) : rI0 g (.int a) (.int b) H Q := ⟨a, b, rfl, rfl, q⟩
theorem v_I {C : Int → Int → Prop} {g : Int → Int → V} {a b : Int} (c : C a b) (q : Q (g a b) H) : rI C g (.int a) (.int b) H Q := ⟨a, b, rfl, rfl, c, q⟩
theorem v_eq (c : scal x y = true) (q : Q (.bl (decide (x = y))) H) : rEq x y H Q := ⟨c, q⟩
theorem v_ne (c : scal x y = true) (q : Q (.bl (!decide (x = y))) H) : rNe x y H Q := ⟨c, q⟩
theorem v_bl {P : Bool → Prop} {b : Bool} (q : P b) : ∃ k, V.bl b = V.bl k ∧ P k := ⟨b, rfl, q⟩
theorem v_int {P : Int → Prop} {b : Int} (q : P b) : ∃ k, V.int b = V.int k ∧ P k := ⟨b, rfl, q⟩
theorem v_str {P : Str → Prop} {b : Str} (q : P b) : ∃ k, V.str b = V.str k ∧ P k := ⟨b, rfl, q⟩
theorem e_andV (q : ta σ H fun x H1 => ∃ c, x = .bl c ∧ if c = true then tb σ H1 Q else Q (.bl false) H1) : tAndV ta tb σ H Q := q
theorem e_orV (q : ta σ H fun x H1 => ∃ c, x = .bl c ∧ if c = true then Q (.bl true) H1 else tb σ H1 Q) : tOrV ta tb σ H Q := q
theorem e_notV (q : ta σ H fun x H1 => ∃ c, x = .bl c ∧ Q (.bl (!c)) H1) : tNotV ta σ H Q := q
theorem e_if {t : TT} (q : t σ H fun c H1 => if c = true then ta σ H1 Q else tb σ H1 Q) : tIf t ta tb σ H Q := q
theorem e_nil {Q : List V → Hp → Prop} (q : Q [] H) : tNil σ H Q := q
theorem e_cons {tr : TA} {Q : List V → Hp → Prop} (q : ta σ H fun x H1 => tr σ H1 fun xs H2 => Q (x :: xs) H2) : tCons ta tr σ H Q := q
theorem e_cb {r : List V → Hp → VK → Prop} {t : TA} (q : t σ H fun vs H1 => r vs H1 Q) : tCB r t σ H Q := q
theorem e_call {sp : Sp} {E : XK} {t : TA} (q : t σ H fun vs H1 => sp vs H1 Q E) : tCall sp [] E t σ H Q := by
  show t σ H fun vs H1 => sp (vs ++ []) H1 Q E
  simpa using q
theorem e_fld {f : Str} (q : ta σ H fun x H1 => ∃ a C dx fs v, x = .ref a ∧ H1 a = some (.ins C dx fs) ∧ Cls K C ∧ NoAttr K C f ∧ fs.lookup f = some v ∧ Q v H1) : tFld K ta f σ H Q := q
theorem e_dget (q : ta σ H fun x H1 => tb σ H1 fun y H2 => ∃ a v, x = .ref a ∧ DGet H2 a y (some v) ∧ Q v H2) : tDGet ta tb σ H Q := q
theorem v_dget {P : V → Prop} {a : Addr} (h : DGet H a y (some v)) (q : P v) : ∃ a' v, V.ref a = .ref a' ∧ DGet H a' y (some v) ∧ P v := ⟨a, v, rfl, h, q⟩
theorem e_lst {t : TA} (q : t σ H fun xs H1 => xs.length ≤ sizeLine ∧ ∀ p H2, H1 p = none → H2 = upd H1 p (.lst xs) → Q (.ref p) H2) : tLst t σ H Q := by
  have e : (fun (xs : List V) (H1 : Hp) => xs.length ≤ sizeLine ∧ ∀ p H2, H1 p = none → H2 = upd H1 p (.lst xs) → Q (.ref p) H2) = (fun xs H1 => xs.length ≤ sizeLine ∧ ∀ p, H1 p = none → Q (.ref p) (upd H1 p (.lst xs))) := by
    funext xs H1
    exact propext ⟨fun h => ⟨h.1, fun p hp => h.2 p _ hp rfl⟩, fun h => ⟨h.1, fun p H2 hp e => e ▸ h.2 p hp⟩⟩
  rw [e] at q
  exact q
theorem e_tup {t : TA} (q : t σ H fun xs H1 => xs.length ≤ sizeLine ∧ ∀ p H2, H1 p = none → H2 = upd H1 p (.tup xs) → Q (.ref p) H2) : tTup t σ H Q := by
  have e : (fun (xs : List V) (H1 : Hp) => xs.length ≤ sizeLine ∧ ∀ p H2, H1 p = none → H2 = upd H1 p (.tup xs) → Q (.ref p) H2) = (fun xs H1 => xs.length ≤ sizeLine ∧ ∀ p, H1 p = none → Q (.ref p) (upd H1 p (.tup xs))) := by
    funext xs H1
    exact propext ⟨fun h => ⟨h.1, fun p hp => h.2 p _ hp rfl⟩, fun h => ⟨h.1, fun p H2 hp e => e ▸ h.2 p hp⟩⟩
  rw [e] at q
  exact q
theorem e_dnew (q : ∀ p H', H p = none → Same H H' → H' p = some (.dK []) → Q (.ref p) H') : tDNewK σ H Q := fun p h => q p _ h (Same.new h) upd_same
theorem szl {n : Nat} (h : n ≤ 1000000) : n ≤ sizeLine := Nat.le_trans h (by decide)
theorem szlt {n : Nat} (h : n < 1000000) : n < sizeLine := Nat.lt_of_lt_of_le h (by decide)
theorem v_new {o : HO} (q : ∀ p H', H p = none → Same H H' → H' p = some o → Q (.ref p) H') : ∀ p, H p = none → Q (.ref p) (upd H p o) := fun p h => q p _ h (Same.new h) upd_same
theorem v_lst {xs : List V} {P : Addr → Hp → Prop} (h : xs.length ≤ 1000000) (q : ∀ p H', H p = none → Same H H' → H' p = some (.lst xs) → P p H') : xs.length ≤ sizeLine ∧ ∀ p H2, H p = none → H2 = upd H p (.lst xs) → P p H2 := ⟨szl h, fun p H2 hp e => q p H2 hp (e ▸ Same.new hp) (e ▸ upd_same)⟩
theorem v_tup {xs : List V} {P : Addr → Hp → Prop} (h : xs.length ≤ 1000000) (q : ∀ p H', H p = none → Same H H' → H' p = some (.tup xs) → P p H') : xs.length ≤ sizeLine ∧ ∀ p H2, H p = none → H2 = upd H p (.tup xs) → P p H2 := ⟨szl h, fun p H2 hp e => q p H2 hp (e ▸ Same.new hp) (e ▸ upd_same)⟩
theorem v_ixL {p : Addr} {xs : List V} {a : Int} (h : H p = some (.lst xs)) (c : atI xs a = some v) (q : Q v H) : rIxL K (.ref p) (.int a) H Q := ⟨p, xs, a, v, rfl, rfl, SqL.of h, c, q⟩
theorem v_ixS {l : List Nat} {a : Int} {c : Nat} (h : l.length ≤ 1000000) (e : atI l a = some c) (q : Q (.str (tx [c])) H) : rIxS (.str (tx l)) (.int a) H Q := ⟨tx l, a, c, rfl, rfl, by rw [tx_len]; exact szl h, by simpa using e, q⟩
end
/-! ### named relations of built-in calls -/
def rInt : List V → Hp → VK → Prop := fun xs H Q => (∃ i, xs = [.int i] ∧ Q (.int i) H) ∨ ∃ k, xs = [.bl k] ∧ Q (.int (if k then 1 else 0)) H
theorem c_int {X : Cx} : CallR X (.type "int") rInt := call_int1
def rLen (K : PySem.W.Frag) : List V → Hp → VK → Prop := fun xs H Q => ∃ p ys, xs = [.ref p] ∧ (SqL K H p ys ∨ SqT K H p ys) ∧ Q (.int ys.length) H
theorem c_len {X : Cx} : CallR X (.builtin "len") (rLen X.K) := call_len_seq
def rLenS : List V → Hp → VK → Prop := fun xs H Q => ∃ x, xs = [.str x] ∧ x.length ≤ sizeLine ∧ Q (.int x.length) H
theorem c_lenS {X : Cx} : CallR X (.builtin "len") rLenS := call_len_str
section
variable {σ : St} {H : Hp} {Q : VK} {i : Nat} {v x y : V} {K : PySem.W.Frag}
theorem v_inti {a : Int} (q : Q (.int a) H) : rInt [.int a] H Q := .inl ⟨a, rfl, q⟩
theorem v_intb {k : Bool} (q : Q (.int (if k then 1 else 0)) H) : rInt [.bl k] H Q := .inr ⟨k, rfl, q⟩
theorem v_len {p : Addr} {ys : List V} (h : H p = some (.lst ys)) (q : Q (.int ys.length) H) : rLen K [.ref p] H Q := ⟨p, ys, rfl, .inl (SqL.of h), q⟩
theorem v_lenS {l : List Nat} (h : l.length ≤ 1000000) (q : Q (.int l.length) H) : rLenS [.str (tx l)] H Q := ⟨tx l, rfl, by rw [tx_len]; exact szl h, by rw [tx_len]; exact q⟩
end
/-! ### stepping: statements -/
section
variable {σ : St} {H : Hp} {i : Nat} {v : V} {te : TE} {tt u : TT} {t1 t2 : TS} {D : Ends}
theorem s_start {N : List Str} {vs : List V} {t : TS} (s0 : St) (h : start N vs = s0) (q : t D s0 H) : t D (start N vs) H := by rw [h]; exact q
theorem s_seq (q : t1 { D with nx := t2 D } σ H) : tSeq t1 t2 D σ H := q
theorem s_next (q : D.nx σ H) : tNext D σ H := q
theorem s_brk (q : D.bk σ H) : tBreak D σ H := q
theorem s_cont (q : D.ct σ H) : tCont D σ H := q
theorem s_set (q : te σ H fun v H1 => D.nx (σ.set i (some v)) H1) : tAsg te (gName i) D σ H := q
theorem s_drop (q : te σ H fun _ H1 => D.nx σ H1) : tDrop te D σ H := q
theorem s_ret (q : te σ H D.rt) : tRet te D σ H := q
theorem s_retN (q : D.rt .non H) : tRetN D σ H := q
theorem s_if (q : tt σ H fun b H1 => if b = true then t1 D σ H1 else t2 D σ H1) : tIfS tt t1 t2 D σ H := q
theorem t_test {Q : Bool → Hp → Prop} (q : te σ H fun x H' => ∃ k, x = .bl k ∧ Q k H') : tTest te σ H Q := q
theorem t_B {Q : Bool → Hp → Prop} (q : te σ H fun x H' => ∃ k, x = .bl k ∧ Q k H') : tB te σ H Q := q
theorem t_and {Q : Bool → Hp → Prop} (q : tt σ H fun c H1 => if c = true then u σ H1 Q else Q false H1) : tAnd tt u σ H Q := q
theorem t_or {Q : Bool → Hp → Prop} (q : tt σ H fun c H1 => if c = true then Q true H1 else u σ H1 Q) : tOr tt u σ H Q := q
theorem t_not {Q : Bool → Hp → Prop} (q : tt σ H fun c H1 => Q (!c) H1) : tNot tt σ H Q := q
theorem s_dput {td ty tv : TE} (q : tv σ H fun v H1 => td σ H1 fun x H2 => ty σ H2 fun y H3 => ∃ a H4, x = .ref a ∧ DPut H3 a y v H4 ∧ D.nx σ H4) : sDPut td ty tv D σ H := q
theorem v_dput {P : Hp → Prop} {a : Addr} {y : V} {H4 : Hp} (h : DPut H a y v H4) (q : P H4) : ∃ a' H4, V.ref a = .ref a' ∧ DPut H a' y v H4 ∧ P H4 := ⟨a, H4, rfl, h, q⟩
theorem if_dec {c A B : Prop} [Decidable c] (h1 : c → A) (h2 : ¬ c → B) : if decide c = true then A else B := by
  by_cases h : c
  · rw [decide_eq_true h, if_pos rfl]; exact h1 h
  · rw [decide_eq_false h, if_neg Bool.false_ne_true]; exact h2 h
theorem if_ndec {c A B : Prop} [Decidable c] (h1 : ¬ c → A) (h2 : c → B) : if (!decide c) = true then A else B := by
  by_cases h : c
  · rw [decide_eq_true h]; exact iteF (h2 h)
  · rw [decide_eq_false h]; exact iteT (h1 h)
theorem if_bool {b : Bool} {A B : Prop} (h1 : b = true → A) (h2 : b = false → B) : if b = true then A else B := by
  cases b with
  | true => exact iteT (h1 rfl)
  | false => exact iteF (h2 rfl)
end

/-! ### cuts: what follows is shown once -/
section
variable {X : Cx} {σ : St} {H : Hp} {D : Ends} {t u : TS}
def tCutE (te : TE) : TE := fun σ H Q => ∃ Mid : V → Hp → Prop, te σ H Mid ∧ ∀ v H', Mid v H' → Q v H'
theorem pe_cut {e : Expr} {te : TE} (h : PE X e te) : PE X e (tCutE te) := by
  refine ⟨fun pins s σ H Q I q => ?_⟩
  obtain ⟨Mid, hm, hu⟩ := q
  exact thn (h.run pins s σ H Mid I hm) fun u s1 ⟨x, H1, I1, r1, q1⟩ => ⟨x, H1, I1, r1, hu x H1 q1⟩
theorem e_cut {te : TE} {Q : VK} (Mid : V → Hp → Prop) (h : te σ H Mid) (q : ∀ v H', Mid v H' → Q v H') : tCutE te σ H Q := ⟨Mid, h, q⟩
def tCutS (t u : TS) : TS := fun D σ H => ∃ Mid : St → Hp → Prop, t { D with nx := Mid } σ H ∧ ∀ σ' H', Mid σ' H' → u D σ' H'
theorem pss_cutS {st : Stmt} {rest : List Stmt} (h1 : PS X st t) (h2 : PSs X rest u) : PSs X (st :: rest) (tCutS t u) := by
  refine ⟨fun pins s σ H D I h => ?_⟩
  obtain ⟨Mid, hm, hu⟩ := h
  refine wpAny_execs_cons (thn (h1.run pins s σ H { D with nx := Mid } I hm) fun f s1 q => ?_)
  cases f with
  | next =>
    obtain ⟨σ', H', I', q⟩ := q
    exact h2.run pins s1 σ' H' D I' (hu σ' H' q)
  | ret v => exact q
  | brk => exact q
  | cont => exact q
theorem s_cut (Mid : St → Hp → Prop) (h : t { D with nx := Mid } σ H) (q : ∀ σ' H', Mid σ' H' → u D σ' H') : tCutS t u D σ H := ⟨Mid, h, q⟩
end
section
variable {σ : St} {H : Hp} {v y : V}
theorem v_put {P : Hp → Prop} {a : Addr} {o : HO} (h : DPut H a y v (upd H a o)) (q : ∀ H', Keep a H H' → H' a = some o → P H') : ∃ a' H4, V.ref a = .ref a' ∧ DPut H a' y v H4 ∧ P H4 := ⟨a, _, rfl, h, q _ Keep.put upd_same⟩
end
/-! ### data -/
theorem dp_ints {K : PySem.W.Frag} {H : Hp} : ∀ ns : List Int, DpAll K H (ns.map V.int) (ns.map PyData.int)
  | [] => .nil
  | n :: r => .cons (.int n) (dp_ints r)
theorem dp_strs {K : PySem.W.Frag} {H : Hp} : ∀ ns : List Str, DpAll K H (ns.map V.str) (ns.map PyData.str)
  | [] => .nil
  | n :: r => .cons (.str n) (dp_strs r)
theorem lay_ints : ∀ ns : List Int, PyData.canLayAll0 (ns.map PyData.int) = true
  | [] => rfl
  | n :: r => lay_ints r
theorem lay_strs : ∀ ns : List Str, (∀ x ∈ ns, PyData.strOk x = true) → PyData.canLayAll0 (ns.map PyData.str) = true
  | [], _ => rfl
  | n :: r, h => by
    show (PyData.strOk n && PyData.canLayAll0 (r.map PyData.str)) = true
    rw [h n (List.mem_cons_self ..), lay_strs r fun x hx => h x (List.mem_cons_of_mem _ hx)]
    rfl
theorem dep_ints : ∀ ns : List Int, PyData.depthAll (ns.map PyData.int) ≤ 1
  | [] => by decide
  | n :: r => Nat.max_le.mpr ⟨by show PyData.depth (.int n) ≤ 1; simp [PyData.depth], dep_ints r⟩
theorem dep_strs : ∀ ns : List Str, PyData.depthAll (ns.map PyData.str) ≤ 1
  | [] => by decide
  | n :: r => Nat.max_le.mpr ⟨by show PyData.depth (.str n) ≤ 1; simp [PyData.depth], dep_strs r⟩
theorem shaped_ints (ns : List Int) : SeqAt.shaped (.list (ns.map PyData.int)) = true := by
  have h := dep_ints ns
  have h2 : (PyData.list (ns.map PyData.int)).depth ≤ 64 := by simp only [PyData.depth]; omega
  have h3 : (PyData.list (ns.map PyData.int)).canLay0 = true := by simp only [PyData.canLay0]; exact lay_ints ns
  simp [SeqAt.shaped, h2, h3]
theorem shaped_strs (ns : List Str) (h0 : ∀ x ∈ ns, PyData.strOk x = true) : SeqAt.shaped (.list (ns.map PyData.str)) = true := by
  have h := dep_strs ns
  have h2 : (PyData.list (ns.map PyData.str)).depth ≤ 64 := by simp only [PyData.depth]; omega
  have h3 : (PyData.list (ns.map PyData.str)).canLay0 = true := by simp only [PyData.canLay0]; exact lay_strs ns h0
  simp [SeqAt.shaped, h2, h3]
theorem shaped_strsT (ns : List Str) (h0 : ∀ x ∈ ns, PyData.strOk x = true) : SeqAt.shaped (.tuple (ns.map PyData.str)) = true := by
  have h := dep_strs ns
  have h2 : (PyData.tuple (ns.map PyData.str)).depth ≤ 64 := by simp only [PyData.depth]; omega
  have h3 : (PyData.tuple (ns.map PyData.str)).canLay0 = true := by simp only [PyData.canLay0]; exact lay_strs ns h0
  simp [SeqAt.shaped, h2, h3]
theorem shaped_nil : SeqAt.shaped (.list []) = true := shaped_ints []
theorem eqv_nil {ds : List PyData} : PyData.eqv (.list ds) (.list []) = ds.isEmpty := by
  cases ds <;> simp [PyData.eqv, PyData.eqvAll]
theorem eqvAll_strs : ∀ (a b : List Str), PyData.eqvAll (a.map PyData.str) (b.map PyData.str) = decide (a = b)
  | [], [] => by simp [PyData.eqvAll]
  | [], _ :: _ => by simp [PyData.eqvAll]
  | _ :: _, [] => by simp [PyData.eqvAll]
  | x :: a, y :: b => by
    simp only [List.map_cons, PyData.eqvAll, PyData.eqv, eqvAll_strs a b]
    by_cases e : x = y
    · subst e; simp
    · simp [e]
section
variable {H : Hp} {Q : VK} {K : PySem.W.Frag} {p q : Addr}
theorem v_neNilI {ns : List Int} (h : H p = some (.lst (ns.map V.int))) (hq : H q = some (.lst [])) (k : Q (.bl (!ns.isEmpty)) H) : rNeD K (.ref p) (.ref q) H Q := by
  refine ⟨.list (ns.map PyData.int), .list [], .lst (SqL.of h) (dp_ints ns), .lst (SqL.of hq) .nil, shaped_ints ns, shaped_nil, ?_⟩
  rw [eqv_nil, List.isEmpty_map]
  exact k
theorem v_neNilS {ns : List Str} (h : H p = some (.lst (ns.map V.str))) (h0 : ∀ x ∈ ns, PyData.strOk x = true) (hq : H q = some (.lst [])) (k : Q (.bl (!ns.isEmpty)) H) : rNeD K (.ref p) (.ref q) H Q := by
  refine ⟨.list (ns.map PyData.str), .list [], .lst (SqL.of h) (dp_strs ns), .lst (SqL.of hq) .nil, shaped_strs ns h0, shaped_nil, ?_⟩
  rw [eqv_nil, List.isEmpty_map]
  exact k
end
theorem ok_tx {l : List Nat} (h : ∀ c ∈ l, c < 1000) : PyData.strOk (tx l) = true := by
  show (l.toArray).all (fun c => decide (c < 0x110000)) = true
  rw [List.all_toArray, List.all_eq_true]
  intro c hc
  have := h c hc
  simp
  omega
theorem wdiv {i m : Int} (h : 0 < m) (h2 : m < 1000000) : CDivW i m := wide_div (b := 20) h (by omega) (by decide) (by decide)
end Cw
set_option Elab.async false
set_option linter.all false
set_option maxRecDepth 100000
set_option maxHeartbeats 4000000
/-! set(text), len(set(..)): a set of texts out of anything that is walked. -/
namespace Cw
open PySem PySem.Spec L2
/-- the different ones, in the order in which they are met -/
def metAdd (l : List Str) (z : Str) : List Str := if z ∈ l then l else l ++ [z]
def metOf (l : List Str) : List Str := l.foldl metAdd []
theorem metAdd_mem {l : List Str} {z y : Str} : y ∈ metAdd l z ↔ y ∈ l ∨ y = z := by
  unfold metAdd
  by_cases h : z ∈ l
  · rw [if_pos h]
    exact ⟨Or.inl, fun k => k.elim id fun e => e ▸ h⟩
  · rw [if_neg h, List.mem_append, List.mem_singleton]
theorem metOf_snoc (l : List Str) (z : Str) : metOf (l ++ [z]) = metAdd (metOf l) z := by
  unfold metOf
  rw [List.foldl_append]
  rfl
theorem metFold_mem (y : Str) : ∀ (l acc : List Str), y ∈ l.foldl metAdd acc ↔ y ∈ acc ∨ y ∈ l
  | [], acc => by simp
  | z :: r, acc => by
    rw [List.foldl_cons, metFold_mem y r, metAdd_mem, List.mem_cons, or_assoc]
theorem metOf_mem {l : List Str} {y : Str} : y ∈ metOf l ↔ y ∈ l := by
  unfold metOf
  rw [metFold_mem]
  simp
theorem metAdd_len (l : List Str) (z : Str) : (metAdd l z).length = if z ∈ l then l.length else l.length + 1 := by
  unfold metAdd
  split <;> simp
theorem metFold_len : ∀ (l acc : List Str), (l.foldl metAdd acc).length ≤ acc.length + l.length
  | [], acc => Nat.le_refl _
  | z :: r, acc => by
    have h1 := metFold_len r (metAdd acc z)
    have h2 := metAdd_len acc z
    rw [List.foldl_cons, List.length_cons]
    split at h2 <;> omega
theorem metOf_len (l : List Str) : (metOf l).length ≤ l.length := by
  have h := metFold_len l []
  simp only [List.length_nil, Nat.zero_add] at h
  exact h
theorem metFold_nodup : ∀ (l acc : List Str), (acc ++ l).Nodup → l.foldl metAdd acc = acc ++ l
  | [], acc, _ => by simp
  | z :: r, acc, h => by
    have hz : ¬ z ∈ acc := fun m => by
      have := (List.nodup_append.mp h).2.2 z m z (List.mem_cons_self ..)
      exact this rfl
    have e : metAdd acc z = acc ++ [z] := by unfold metAdd; rw [if_neg hz]
    rw [List.foldl_cons, e, metFold_nodup r (acc ++ [z]) (by simpa using h)]
    simp
theorem metOf_nodup {l : List Str} (h : l.Nodup) : metOf l = l := by
  unfold metOf
  rw [metFold_nodup l [] (by simpa using h)]
  rfl
/-- fewer, where one comes twice -/
theorem metFold_lt : ∀ (l acc : List Str), acc.Nodup → (¬ l.Nodup ∨ ∃ z, z ∈ l ∧ z ∈ acc) → (l.foldl metAdd acc).length < acc.length + l.length
  | [], acc, _, h => by
    rcases h with h | ⟨z, h, _⟩
    · exact absurd List.nodup_nil h
    · cases h
  | z :: r, acc, ha, h => by
    rw [List.foldl_cons, List.length_cons]
    have hl := metAdd_len acc z
    by_cases hz : z ∈ acc
    · rw [if_pos hz] at hl
      have h1 := metFold_len r (metAdd acc z)
      omega
    · rw [if_neg hz] at hl
      have e : metAdd acc z = acc ++ [z] := by unfold metAdd; rw [if_neg hz]
      have nd : (metAdd acc z).Nodup := by
        rw [e]
        exact nd_snoc ha hz
      have k : ¬ r.Nodup ∨ ∃ y, y ∈ r ∧ y ∈ metAdd acc z := by
        rcases h with h | ⟨y, h1, h2⟩
        · rw [List.nodup_cons] at h
          by_cases hr : z ∈ r
          · exact Or.inr ⟨z, hr, by rw [e]; simp⟩
          · exact Or.inl fun n => h ⟨hr, n⟩
        · rcases List.mem_cons.mp h1 with q | q
          · exact absurd (q ▸ h2) hz
          · exact Or.inr ⟨y, q, by rw [e]; simp [h2]⟩
      have h1 := metFold_lt r (metAdd acc z) nd k
      omega
theorem metOf_lt {l : List Str} (h : ¬ l.Nodup) : (metOf l).length < l.length := by
  have k := metFold_lt l [] List.nodup_nil (Or.inl h)
  simp only [List.length_nil, Nat.zero_add] at k
  exact k
/-- the set at a holds just the texts of l -/
abbrev SetIs (P : Program) (w : World) (h : Heap) (a : Addr) (l : List Str) : Prop := h.SetOf (PySem.strKind P w) a (fun z => decide (z ∈ l)) l.length
theorem SetIs.at {P : Program} {w : World} {h h' : Heap} {a : Addr} {l : List Str} (R : SetIs P w h a l) (k : ∀ o, h.get? a = some o → h'.get? a = some o) : SetIs P w h' a l := by
  obtain ⟨o, es, ep, t, ho, r⟩ := R
  exact ⟨o, es, ep, t, k o ho, r⟩
section
variable {P : Program} {w : World} {A : Around} {R : Result → Shared → Prop} {J : Addr} {fp wr : List Addr} {n : Nat} {Y : Nat → Value → Prop} {St : Nat → Heap → Prop}
theorem set_loop (W : Walks P w A.in1 J fp wr n Y St) (S : Addr) (hS : S ∉ fp) (xs : List Str) (hn : xs.length = n) (hy : ∀ i v, Y i v → ∃ x t, xs[i]? = some x ∧ v = .str x t) (hb : n + 1 < scanBound) :
    ∀ (k i : Nat) (s : Shared), n - i = k → i ≤ n → St i s.heap → SetIs P w s.heap S (metOf (xs.take i)) →
      (∀ h' tk, (∀ b o, b ∉ S :: wr → s.heap.get? b = some o → h'.get? b = some o) → SetIs P w h' S (metOf xs) → R (.ok (.ret .none)) { s with heap := h', toks := tk }) →
      codeAny (model P w) A (.builtin "set.update.loop" ⟨[.ref S, .ref J], []⟩) R s := by
  have hw : S ∉ wr := fun h => hS (W.sub _ h)
  intro k
  induction k with
  | zero =>
    intro i s hk hi st hset q
    have e : i = n := by omega
    subst e
    refine codeAny_builtin PyProof.Rows.F.entry_set_update_loop ?_
    rw [Around.under_plainId PyProof.Rows.F.plain_set_update_loop _]
    show wpAny _ A.in1 (pyNext (.ref J) >>= _) _ _ s
    refine wpAny_bind (W.done s _ _ st fun h' tk kp => ?_)
    show wpAny _ A.in1 (ret Value.none) _ _ _
    refine wpAny_pure (q h' tk (fun b o nb eb => kp b o (fun z => nb (List.mem_cons_of_mem _ z)) eb) ?_)
    rw [List.take_of_length_le (by omega)] at hset
    exact hset.at fun o eo => kp S o hw eo
  | succ k ih =>
    intro i s hk hi st hset q
    have hlt : i < n := by omega
    refine codeAny_builtin PyProof.Rows.F.entry_set_update_loop ?_
    rw [Around.under_plainId PyProof.Rows.F.plain_set_update_loop _]
    show wpAny _ A.in1 (pyNext (.ref J) >>= _) _ _ s
    refine wpAny_bind (W.item i s _ _ hlt st fun v h1 tk hv st1 kp => ?_)
    obtain ⟨x, t, hx, rfl⟩ := hy i v hv
    have hset1 := hset.at (h' := h1) fun o eo => kp S o hw eo
    show wpAny _ A.in1 (holding [Value.str x t] (setAdd S (.str x t)) >>= _) _ _ _
    refine wpAny_bind (wpAny_holding ?_)
    unfold setAdd
    refine wpAny_holding (wpAny_bind ((PySem.strKind P w).pyHash (k := x) (strKind_is _ _ _ _) ?_))
    have hroom : (metOf (xs.take i)).length + 1 < scanBound := by
      have h2 := metOf_len (xs.take i)
      rw [List.length_take] at h2
      omega
    refine wpAny_setAddHashed_of (knd := PySem.strKind P w) (s := { heap := h1, gens := s.gens, drawn := s.drawn, toks := tk + 1, os := s.os }) (strKind_is _ _ _ _) rfl hset1 hroom fun h2 sb hset2 => ?_
    have e1 : xs.take (i + 1) = xs.take i ++ [x] := by
      rw [List.take_add_one, hx]
      rfl
    have hset3 : SetIs P w h2 S (metOf (xs.take (i + 1))) := by
      refine PyProof.Rows.SetOf_congr hset2 (fun z => ?_) ?_
      · rw [e1, metOf_snoc, Bool.eq_iff_iff]
        simp only [Bool.or_eq_true, decide_eq_true_eq]
        exact metAdd_mem.symm
      · rw [e1, metOf_snoc, metAdd_len]
        simp only [decide_eq_true_eq]
    refine wpAny_pure ⟨plainId_quiet PyProof.Rows.F.plain_set_update_loop _, ih (i + 1) _ (by omega) hlt (W.frame _ _ _ st1 fun b hb o eo => ?_) hset3 fun h3 tk3 kp3 hs3 => ?_⟩
    · rw [sb.2 b fun z => hS (z ▸ hb)]
      exact eo
    · refine q h3 tk3 (fun b o nb eb => kp3 b o nb ?_) hs3
      show h2.get? b = some o
      rw [sb.2 b fun z => nb (z ▸ List.mem_cons_self ..)]
      exact kp b o (fun z => nb (List.mem_cons_of_mem _ z)) eb
end

/-! ### the call -/
abbrev freshSet (b : Bool) : Obj := { cls := .type "set", dict := none, data := .set #[] 0 (.fresh 0 0 b) }
section
variable {P : Program} {w : World} {A : Around} {E : Value → Shared → Prop} {s : Shared}
theorem set_of_text {x : Str} {t : Tok} {Q : Value → Shared → Prop} (hh : A.handled = none) (hb : x.cps.size + 1 < scanBound)
    (h : ∀ (h' : Heap) (tk : Nat), SetIs P w h' s.heap.objs.size (metOf (x.cps.toList.map fun c => (⟨#[c]⟩ : Str))) → (∀ b o, b < s.heap.objs.size → s.heap.get? b = some o → h'.get? b = some o) → Q (.ref s.heap.objs.size) { s with heap := h', toks := tk }) :
    wpAny (model P w) A (call (.type "set") [.str x t]) Q E s := by
  obtain ⟨c, tl, hmro⟩ := PySem.F.called_set.mro
  have hmade := PySem.F.called_set.made
  have hsub := PySem.F.called_set.sub
  refine wpAny_call (codeAny_of_tree ?_)
  show wpAny _ _ (callAny (.type "set") _) _ _ _
  refine wpAny_pure ⟨Code.quiet_builtin _ (by decide +kernel), codeAny_builtin PySem.F.entry_type_call ?_⟩
  rw [Around.under_plain (weight_type_call_type "set" [.str x t] []) rfl]
  have h1 := PySem.F.called_set.notType
  have h2 := PySem.F.called_set.canCreate
  have hct := PySem.F.typeCall_set_1 (.str x t)
  repeat (any_goals (first | assumption | wp_step))
  refine codeAny_mono (code_set_new_1 (.str x t) (E := E) (Q₁ := fun obj s1 => ∃ b : Bool, obj = .ref s.heap.objs.size ∧ s1 = { s with heap := s.heap.push (freshSet b) }) fun b => ⟨b, rfl, rfl⟩) fun r s1 hr => ?_
  cases r with
  | error e => exact hr
  | ok fl =>
    cases fl with
    | ret obj =>
      obtain ⟨b, rfl, rfl⟩ := hr
      have hS : (s.heap.push (freshSet b)).get? s.heap.objs.size = some (freshSet b) := Heap.get?_push_size _ rfl
      have hT : Shared.TypeIs { s with heap := s.heap.push (freshSet b) } (.ref s.heap.objs.size) "set" := ⟨_, hS, rfl⟩
      have hli := PySem.F.called_set.init.lookup
      have hbi := PySem.F.called_set.init.bind (.ref s.heap.objs.size)
      repeat (any_goals (first | assumption | wp_step))
      refine codeAny_mono (codeAny_call_builtin (R := wants (fun r s2 => r = .none ∧ ∃ h' tk, s2 = { s with heap := h', toks := tk } ∧ SetIs P w h' s.heap.objs.size (metOf (x.cps.toList.map fun c => (⟨#[c]⟩ : Str))) ∧
          (∀ b o, b < s.heap.objs.size → s.heap.get? b = some o → h'.get? b = some o)) E) PySem.F.called_set.init.plain PySem.F.entry_set_init (check_set_init_1 hT ?_)) fun r2 s2 hr2 => ?_
      · have k1 := F.sub_str_set
        have k2 := F.sub_str_frozenset
        have k3 : (Value.type "str" == Value.type "dict") = false := by decide
        unfold Builtin.«set.__init__» noKeywords Builtin.Frozenset.updateFrom
        generalize hPI : pyIter = PI
        wp_walk
        subst hPI
        refine wpAny_pyIter_str fun ob St hw st => ?_
        refine wpAny_bind (wpAny_runValue ?_)
        have hh3 : A.in1.in1.in1.handled = none := by simp [hh]
        have hne : s.heap.objs.size ∉ [(s.heap.push (freshSet b)).objs.size] := by
          rw [Heap.size_push, List.mem_singleton]
          exact Nat.ne_of_lt (Nat.lt_succ_self _)
        refine set_loop (hw _ hh3) s.heap.objs.size hne (x.cps.toList.map fun c => (⟨#[c]⟩ : Str)) (by simp) (fun i v hv => ?_) hb _ 0 _ rfl (Nat.zero_le _) st ?_ fun h' tk kp hs => ?_
        · obtain ⟨c, u, hc, rfl⟩ := hv
          exact ⟨⟨#[c]⟩, u, by simp [hc], rfl⟩
        · have hg : ((s.heap.push (freshSet b)).push ob).get? s.heap.objs.size = some (freshSet b) := Heap.get?_push_of_some _ hS
          exact PyProof.Rows.SetOf_congr ((PyProof.Rows.setObjOf_fresh (knd := PySem.strKind P w) b).setOf hg (by unfold scanBound; omega)) (fun z => by simp [metOf]) rfl
        · refine wpAny_pure ?_
          show wpAny _ _ (ret Value.none) _ _ _
          refine wpAny_pure ⟨rfl, h', tk, rfl, hs, fun a o ha eo => kp a o ?_ (Heap.get?_push_of_some _ (Heap.get?_push_of_some _ eo))⟩
          rw [Heap.size_push]
          simp only [List.mem_cons, List.not_mem_nil, or_false, not_or]
          exact ⟨Nat.ne_of_lt ha, Nat.ne_of_lt (Nat.lt_succ_of_lt ha)⟩
      · cases r2 with
        | error e => exact hr2
        | ok fl2 =>
          cases fl2 with
          | ret r =>
            obtain ⟨rfl, h', tk, rfl, hs', hk'⟩ := hr2
            repeat (any_goals (first | assumption | wp_step))
            exact h _ _ hs' hk'
          | _ => exact hr2.elim
    | _ => exact hr.elim
end
/-! ### over the layer -/
/-- a set of texts -/
def SetT (P : Program) (w : World) (a : Addr) (l : List Str) : HO := .ext fun h => SetIs P w h a l
theorem setT_new {P : Program} {w : World} {H : Hp} {h : Heap} {a : Addr} {l : List Str} (R : SetIs P w h a l) : ObjOk P w H h a (SetT P w a l) := by
  have ⟨o, _, _, _, ho, _⟩ := R
  exact ⟨R, ⟨o, ho⟩, fun h1 h2 q k => SetIs.at q k⟩
def rSetTx (P : Program) (w : World) : List V → Hp → VK → Prop := fun xs H Q => ∃ l : List Nat, xs = [.str (tx l)] ∧ l.length + 1 < scanBound ∧ ∀ p, H p = none → Q (.ref p) (upd H p (SetT P w p (metOf (l.map fun c => tx [c]))))
def rLenSet (P : Program) (w : World) : List V → Hp → VK → Prop := fun xs H Q => ∃ (p : Addr) (l : List Str), xs = [.ref p] ∧ H p = some (SetT P w p l) ∧ Q (.int l.length) H
section
variable {X : Cx}
theorem c_setS (hc : X.calm = true) : CallR X (.type "set") (rSetTx X.prog X.w) := by
  intro pins s σ H xs us Q I r h
  obtain ⟨l, rfl, hl, q⟩ := h
  obtain ⟨u, rfl, t, rfl⟩ := vals1 r
  refine set_of_text (I.ok.hd hc) (by simpa using hl) fun h' tk hs hk => ?_
  have hp : H s.heap.objs.size = none := I.hok.fresh (Nat.le_refl _)
  refine ⟨.ref s.heap.objs.size, upd H s.heap.objs.size (SetT X.prog X.w s.heap.objs.size (metOf (l.map fun c => tx [c]))), I.laid (h' := h') (t' := tk) (fun b o e => hk b o (Heap.lt_size e) e) (Nat.le_refl _) (setT_new ?_), rfl, q _ hp⟩
  simpa using hs
theorem c_lenSet : CallR X (.builtin "len") (rLenSet X.prog X.w) := by
  intro pins s σ H xs us Q I r h
  obtain ⟨p, l, rfl, hp, q⟩ := h
  obtain ⟨u, rfl, ru⟩ := vals1 r
  cases ru
  have hs : SetIs X.prog X.w s.heap p l := (I.hok p _ hp).1
  obtain ⟨o, es, ep, t, ho, hex, hd, h1, h2, h3, hf, hn⟩ := hs
  refine call_len_set ho hex hd hf ?_ ⟨.int l.length, H, I.tok _, ⟨_, by rw [hn]⟩, q⟩
  have : es.size < scanBound := h3
  unfold scanBound at this
  omega
end
theorem v_setS {P : Program} {w : World} {H : Hp} {Q : VK} {l : List Nat} (h : l.length < 1000) (q : ∀ p H', H p = none → Same H H' → H' p = some (SetT P w p (metOf (l.map fun c => tx [c]))) → Q (.ref p) H') : rSetTx P w [.str (tx l)] H Q :=
  ⟨l, rfl, by unfold scanBound; omega, fun p hp => q p _ hp (Same.new hp) upd_same⟩
theorem v_lenSet {P : Program} {w : World} {H : Hp} {Q : VK} {p : Addr} {l : List Str} (h : H p = some (SetT P w p l)) (q : Q (.int l.length) H) : rLenSet P w [.ref p] H Q := ⟨p, l, rfl, h, q⟩
end Cw
set_option Elab.async false
set_option linter.all false
set_option maxRecDepth 100000
set_option maxHeartbeats 4000000
/-! operators of classes of one's own -/
namespace PySem.W
open PySem PySem.Calls PyProof.Rows Builtin
section
variable {prog : Program} {w : World} {A : Around} {E : Value → Shared → Prop} {s : Shared} {K : Frag} {x C L f : Addr} {h0 : Heap} {m : Str → Option Value} {ox : Obj} {od : Option Obj} {b tb : Value}
theorem ifBound_obj {M : Model} {args : List Value} {name : Str} {id : String} {Q : Option Value → Shared → Prop} (X : K.In s.heap) (I : InstAt s.heap x ox C od) (hs : findIn K (.ref C) name = some (some (.builtin id)))
    (hbd : ∀ v, bindSpecial (.builtin id) v = pure (.builtin id, [v])) (h : wpAny M A (call (.builtin id) (.ref x :: args)) (fun v => Q (some v)) E s) : wpAny M A (callSpecialIfBound? (.ref x) name args) Q E s := by
  simp only [callSpecialIfBound?, bindSpecialIfBound?]
  refine wpAny_holding (wpAny_bind (wpAny_bind (wpAny_bind (I.type.here ((looks_findIn X hs).here ?_)))))
  have e := hbd (.ref x)
  simp only [e]
  have k : wpAny M A (call (.builtin id) ([.ref x] ++ args) >>= fun v => pure (some v)) Q E s := wpAny_bind (wpAny_mono h (fun _ _ z => wpAny_pure z) fun _ _ z => z)
  refine wpAny_bind (wpAny_askSetting (wpAny_ite ?_))
  split
  · exact wpAny_bind (wpAny_pure (wpAny_pure k))
  · exact wpAny_tryCatch (wpAny_bind (wpAny_pure (wpAny_pure k)))
theorem check_obj {M : Model} {id owner n : String} {rest : List Value} {Q : Unit → Shared → Prop} (X : K.In s.heap) (I : InstAt s.heap x ox C od) (hk : builtinKind id = some .slot) (hs : splitId id = some (owner, n))
    (ha : argsOk id ⟨.ref x :: rest, []⟩) (ho : subIn K (.ref C) (.type owner) = some true) (q : Q () s) : wpAny M A (checkBuiltinCall id ⟨.ref x :: rest, []⟩) Q E s := by
  simp only [checkBuiltinCall, hk, hs]
  unfold isInstance
  refine wpAny_bind (wpAny_bind (I.type.here ((looks_subIn X ho).here ?_)))
  rw [if_neg (by simp)]
  cases hsig : Manifest.signature? id with
  | none => exact wpAny_pure q
  | some sig =>
    simp only [argsOk, hsig] at ha
    have h2 : Bind.checkArgs id sig ⟨.ref x :: rest, []⟩ = pure () := ha
    show wpAny M A (Bind.checkArgs id sig ⟨.ref x :: rest, []⟩) Q E _
    rw [h2]
    exact wpAny_pure q
theorem neBody (X : K.In s.heap) (I : InstAt s.heap x ox C od) (hu : A.units < cLine) (hs : findIn K (.ref C) "__eq__" = some (some (.ref f))) (hf : isFn K (.ref f) = true) {Q : Fin → Shared → Prop}
    (h : wpAny (model prog w) A (call (.ref f) [.ref x, b]) (fun v s' => ∃ r, v = .bool r ∧ Q (.done (.ret (.bool (!r)))) s') E s) : wpAny (model prog w) A (Builtin.«object.__ne__» ⟨[.ref x, b], []⟩) Q E s := by
  unfold Builtin.«object.__ne__»
  refine wpAny_bind (m := slotArgs "__ne__" 1 _) (wpAny_pure ?_)
  refine wpAny_bind (wpAny_cRoomFor hu ?_)
  refine wpAny_bind (m := callSpecialIfBound? (.ref x) (Str.ofString "__eq__") [b]) (ifBound_K X I hs hf (wpAny_mono h (fun v s' z => ?_) fun _ _ z => z))
  obtain ⟨r, rfl, z⟩ := z
  exact wpAny_bind (wpAny_truthy_bool (wpAny_pure z))
/-- != of an object whose class has its own == and no != -/
theorem ne_own {Q : Value → Shared → Prop} (hu : A.units + 1 < cLine) (F : Fr h0 L s.heap m) (X0 : K.In h0) (I : InstAt s.heap x ox C od) (hb : Looks (model prog w) s.heap (typeOf b) tb) (hn : notFirst K C tb = true)
    (hne : findIn K (.ref C) "__ne__" = some (some (.builtin "object.__ne__"))) (ho : subIn K (.ref C) (.type "object") = some true) (hs : findIn K (.ref C) "__eq__" = some (some (.ref f))) (hf : isFn K (.ref f) = true)
    (h : wpAny (model prog w) A.in1 (call (.ref f) [.ref x, b]) (fun v s' => ∃ r, v = .bool r ∧ Q (.bool (!r)) s') E s) : wpAny (model prog w) A (richCompare .NotEq (.ref x) b) Q E s := by
  have X := X0.keeps F.keep
  have pl : plainId "object.__ne__" = true := by decide +kernel
  have one : wpAny (model prog w) A (tryCompare (.ref x) (cmpInfo .NotEq).2.1 b) (fun r s' => ∃ v, r = some v ∧ Q v s') E s := by
    unfold tryCompare
    refine wpAny_bind (ifBound_obj X I (id := "object.__ne__") hne (fun v => ?_) ?_)
    · exact (PySem.F.slot_tuple_iterator_ne).bind v
    · refine wpAny_call (codeAny_call_builtin pl PySem.F.cmpEntry_ne (check_obj X I PySem.F.cmpKind_ne PySem.F.cmpSplit_ne (PySem.F.cmpArgs_ne _ _) ho ?_))
      refine neBody (A := A.in1) X I hu hs hf (wpAny_mono h (fun v s' z => ?_) fun _ _ z => z)
      obtain ⟨r, rfl, z⟩ := z
      exact ⟨r, rfl, wpAny_pure ⟨_, rfl, z⟩⟩
  unfold richCompare
  simp only [oneThing_ref]
  refine wpAny_holding (wpAny_bind (wpAny_cRoomFor (Nat.lt_of_succ_lt hu) ?_))
  refine wpAny_bind (I.type.here (wpAny_bind (hb.here ?_)))
  have k : ∀ z : Bool, z = false → wpAny (model prog w) A (tryCompare (.ref x) (cmpInfo .NotEq).2.1 b) (fun r s' => ∃ v, r = some v ∧ Q v s') E s := fun _ _ => one
  split
  · rename_i q
    have e : subIn K tb (.ref C) = some false := by
      rcases Bool.or_eq_true_iff.mp hn with e | e
      · rw [beq_iff_eq.mp e] at q; simp at q
      · exact beq_iff_eq.mp e
    refine wpAny_bind ((looks_subIn X e).here ?_)
    simp only [Bool.false_eq_true, if_false]
    refine wpAny_bind (wpAny_mono one (fun r s' z => ?_) fun _ _ e => e)
    obtain ⟨v, rfl, z⟩ := z
    exact wpAny_pure z
  · refine wpAny_bind (wpAny_pure ?_)
    simp only [Bool.false_eq_true, if_false]
    refine wpAny_bind (wpAny_mono one (fun r s' z => ?_) fun _ _ e => e)
    obtain ⟨v, rfl, z⟩ := z
    exact wpAny_pure z
end
end PySem.W
set_option Elab.async false
set_option linter.all false
set_option maxRecDepth 100000
set_option maxHeartbeats 4000000
namespace Cw
open PySem PySem.Spec L2
/-! ### methods -/
structure MAt (K : PySem.W.Frag) (C : Addr) (m qual : Str) (st : Stmt) : Prop where
  ex : ∃ f fd, PySem.W.findIn K (.ref C) m = some (some (.ref f)) ∧ PySem.W.isFn K (.ref f) = true ∧ Fun K m qual st f fd
structure MDef (P : Program) (w : World) (K : PySem.W.Frag) (mg : Str → Option Value) (base : Heap) (CX : CXT) (k : Nat) (C : Addr) (m : Str) (ps : List Str) (sp : Sp) : Prop where
  ex : ∃ f fd, PySem.W.findIn K (.ref C) m = some (some (.ref f)) ∧ PySem.W.isFn K (.ref f) = true ∧ PySem.W.keepIn K (.ref f) = true ∧ Bd K f fd ps ∧ FnOk P w K mg base CX k f fd ps sp
section
variable {P : Program} {w : World} {K : PySem.W.Frag} {mg : Str → Option Value} {base : Heap} {CX : CXT} {k : Nat} {C : Addr} {m qual : Str} {ps N : List Str} {sp : Sp} {st : Stmt}
theorem MDef.mono {j : Nat} (D : MDef P w K mg base CX j C m ps sp) (h : j ≤ k) : MDef P w K mg base CX k C m ps sp := by
  obtain ⟨f, fd, a, b, c, d, e⟩ := D.ex
  exact ⟨f, fd, a, b, c, d, e.mono h⟩
theorem MDef.imp {sp' : Sp} (D : MDef P w K mg base CX k C m ps sp) (h : ∀ vs H Q E, sp' vs H Q E → sp vs H Q E) : MDef P w K mg base CX k C m ps sp' := by
  obtain ⟨f, fd, a, b, c, d, e⟩ := D.ex
  exact ⟨f, fd, a, b, c, d, e.imp h⟩
theorem MAt.ok (F : MAt K C m qual st) (S : FnScope N ps (defScope st))
    (hb : ∀ (kV doc pm : Value) (an : Option Addr) (cdv ct : Value) (us : List Value), us.length = ps.length → bindArgs (PySem.W.fnOf m qual (defArgs st) (defBody st) (defScope st) .none kV doc pm an cdv ct) ⟨us, []⟩ = pure (ps.zip us))
    (len : ∀ vs H Q E, sp vs H Q E → vs.length = ps.length)
    (hbody : ∀ (f : Addr) (cdv : Value) (A : Around) (outer : List Env) (s : Shared) (H : Hp) (vs : List V) (Q : VK) (E : XK), Room k (A.deeper (PyProof.Rows.envOfC qual (defScope st) s.heap.objs.size f cdv)) → sp vs H Q E →
      ∃ t, PSs (cxOf CX0 P w K mg base N qual (defScope st) f cdv A outer s H E).nox (defBody st) t ∧ t { nx := fun _ H' => Q .non H', rt := Q } (start N vs) H) : MDef P w K mg base CX0 (k + 1) C m ps sp := by
  obtain ⟨f, fd, h1, h2, F⟩ := F.ex
  exact ⟨f, fd, h1, h2, F.kp, ⟨F.binds hb, funLk F⟩, F.ok S len fun cdv A outer s H vs Q E hr h => hbody f cdv A outer s H vs Q E hr h⟩
theorem MAt.okX (F : MAt K C m qual st) (S : FnScope N ps (defScope st))
    (hb : ∀ (kV doc pm : Value) (an : Option Addr) (cdv ct : Value) (us : List Value), us.length = ps.length → bindArgs (PySem.W.fnOf m qual (defArgs st) (defBody st) (defScope st) .none kV doc pm an cdv ct) ⟨us, []⟩ = pure (ps.zip us))
    (len : ∀ vs H Q E, sp vs H Q E → vs.length = ps.length)
    (hbody : ∀ (f : Addr) (cdv : Value) (A : Around) (outer : List Env) (s : Shared) (H : Hp) (vs : List V) (Q : VK) (E : XK), Room k (A.deeper (PyProof.Rows.envOfC qual (defScope st) s.heap.objs.size f cdv)) → sp vs H Q E →
      ∃ t, PSs (cxOf (L2.CX P w) P w K mg base N qual (defScope st) f cdv A outer s H E) (defBody st) t ∧ t { nx := fun _ H' => Q .non H', rt := Q } (start N vs) H) : MDef P w K mg base (L2.CX P w) (k + 1) C m ps sp := by
  obtain ⟨f, fd, h1, h2, F⟩ := F.ex
  exact ⟨f, fd, h1, h2, F.kp, ⟨F.binds hb, funLk F⟩, F.okX S len fun cdv A outer s H vs Q E hr h => hbody f cdv A outer s H vs Q E hr h⟩
end
section
variable {X : Cx} {CX : CXT} {k : Nat} {C : Addr} {m : Str} {ps : List Str} {sp : Sp} {E : XK} {pos apos : PySem.Pos} {o e : Expr} {es : List Expr} {ta : TE} {t : TA}
theorem pe_md {pl : Sem Bool} (D : MDef X.prog X.w X.K X.mg X.base CX k C m ps sp) (c : Cls X.K C) (hr : Room k X.A) (hx : Passes CX X E) (he : PE X o ta) (ha : PA X (e :: es) t)
    (hst : starEach (e :: es) X.env = (false, eval e X.env) :: starEach es X.env := by rfl) (hpl : (backTo pos (starEach es X.env)).any (·.1) = false := by rfl)
    (ht : eval (.Call (.Attribute o m apos) (e :: es) [] pos) X.env = (do
      let ov ← eval o X.env
      standAt apos.atName
      let (f, first) ← holding [ov] (getMethod ov m pl)
      callWith pos f first (backTo pos (starEach (e :: es) X.env)) (backToKw pos (keywordEach [] X.env))) := by rfl) :
    PE X (.Call (.Attribute o m apos) (e :: es) [] pos) (tMeth C m sp [] E ta t) := by
  obtain ⟨f, fd, a, b, kp, ⟨d, _⟩, g⟩ := D.ex
  exact pe_meth (pl := pl) he c ⟨a, b, kp⟩ g hr d .nil hx ha hst hpl ht
/-- two instances of the class at C, by its own operator -/
def rM2 (C : Addr) (sp : Sp) (E : XK) : R2 := fun x y H Q => ∃ a b dx dy fs gs, x = .ref a ∧ y = .ref b ∧ H a = some (.ins C dx fs) ∧ H b = some (.ins C dy gs) ∧ sp [.ref a, .ref b] H Q E
def rM2n (C : Addr) (sp : Sp) (E : XK) : R2 := fun x y H Q => ∃ a b dx dy fs gs, x = .ref a ∧ y = .ref b ∧ H a = some (.ins C dx fs) ∧ H b = some (.ins C dy gs) ∧ sp [.ref a, .ref b] H (fun v H' => ∃ r, v = .bl r ∧ Q (.bl (!r)) H') E
theorem op_cmpM {op : CmpOp} (hop : ∀ u v, compareOp op u v = richCompare op u v) (D : MDef X.prog X.w X.K X.mg X.base CX k C (cmpInfo op).2.1 ps sp) (hr : Room k X.A) (hx : Passes CX X E) : OpR X (compareOp op) (rM2 C sp E) := by
  obtain ⟨f, fd, h1, h2, kp, ⟨hb, _⟩, F⟩ := D.ex
  intro pins s σ H x y v u Q I rx ry h
  obtain ⟨a, b, dx, dy, fs, gs, rfl, rfl, ha, hb', hq⟩ := h
  cases rx
  cases ry
  obtain ⟨mA, J, _⟩ := ins_get I.hok ha
  obtain ⟨mB, J', _⟩ := ins_get I.hok hb'
  obtain ⟨od, J, _⟩ := J.look
  obtain ⟨od', J', _⟩ := J'.look
  obtain ⟨mm, hF⟩ := I.fr
  rw [hop]
  refine PySem.W.cmp_K (op := op) (tb := .ref C) hr.units0 hF I.ok.mod.kin J J'.type (by simp [PySem.W.notFirst]) h1 h2 ?_
  have z := run_fn (us := [.ref a, .ref b]) (vs := [.ref a, .ref b]) (dvs := []) F hr hb .nil hx I (.cons rfl (.cons rfl .nil)) hq
  refine wpAny_mono z (fun v s' q => ?_) fun _ _ q => q
  obtain ⟨y, H', I', r, q⟩ := q
  have k : EP X pins σ Q v s' := ⟨y, H', I', r, q⟩
  cases v <;> first | exact k | (exfalso; cases y <;> first | (obtain ⟨_, r⟩ := r; cases r) | cases r)
theorem op_neM (D : MDef X.prog X.w X.K X.mg X.base CX k C "__eq__" ps sp) (hne : PySem.W.findIn X.K (.ref C) "__ne__" = some (some (.builtin "object.__ne__"))) (ho : PySem.W.subIn X.K (.ref C) (.type "object") = some true)
    (hr : Room (k + 1) X.A) (hx : Passes CX X E) : OpR X (compareOp .NotEq) (rM2n C sp E) := by
  obtain ⟨f, fd, h1, h2, kp, ⟨hb, _⟩, F⟩ := D.ex
  intro pins s σ H x y v u Q I rx ry h
  obtain ⟨a, b, dx, dy, fs, gs, rfl, rfl, ha, hb', hq⟩ := h
  cases rx
  cases ry
  obtain ⟨mA, J, _⟩ := ins_get I.hok ha
  obtain ⟨mB, J', _⟩ := ins_get I.hok hb'
  obtain ⟨od, J, _⟩ := J.look
  obtain ⟨od', J', _⟩ := J'.look
  obtain ⟨mm, hF⟩ := I.fr
  show wpAny (model X.prog X.w) X.A (richCompare .NotEq _ _) _ _ _
  refine PySem.W.ne_own (tb := .ref C) (hu_of hr) hF I.ok.mod.kin J J'.type (by simp [PySem.W.notFirst]) hne ho h1 h2 ?_
  have hl := F.len _ _ _ _ hq
  have r2 : Vals [V.ref a, V.ref b] [Value.ref a, Value.ref b] := .cons rfl (.cons rfl .nil)
  refine wpAny_call (codeAny_mono (F.run X.A.in1 X.stack s H ⟨[.ref a, .ref b], []⟩ [.ref a, .ref b] [.ref a, .ref b] _ E hr.in1 I.env0.in1 (by
    have := hb s [.ref a, .ref b] I.kIn (by simpa using hl)
    simpa using this) r2 hq) fun r s' hq => ?_)
  cases r with
  | error e => exact hx pins σ H s e s' I hq
  | ok fl =>
    cases fl with
    | ret w =>
      obtain ⟨z, H', I', rz, r, ez, q⟩ := I.after hq
      subst ez
      cases rz
      exact ⟨r, rfl, ⟨.bl (!r), H', I', rfl, q⟩⟩
    | next => exact False.elim hq
    | brk => exact False.elim hq
    | cont => exact False.elim hq
/-- len(o) -/
def rLenM (C : Addr) (sp : Sp) (E : XK) : List V → Hp → VK → Prop := fun xs H Q => ∃ a dx fs, xs = [.ref a] ∧ H a = some (.ins C dx fs) ∧ sp [.ref a] H (fun v H' => ∃ n : Nat, v = .int n ∧ n < 1000000 ∧ Q (.int n) H') E
theorem c_lenM (D : MDef X.prog X.w X.K X.mg X.base CX k C "__len__" ps sp) (hr : Room (k + 1) X.A) (hx : Passes CX X E) : CallR X (.builtin "len") (rLenM C sp E) := by
  obtain ⟨f, fd, h1, h2, kp, ⟨hb, _⟩, F⟩ := D.ex
  intro pins s σ H xs us Q I r h
  obtain ⟨a, dx, fs, rfl, ha, hq⟩ := h
  obtain ⟨u, rfl, ru⟩ := vals1 r
  cases ru
  obtain ⟨mA, J, _⟩ := ins_get I.hok ha
  obtain ⟨od, J, _⟩ := J.look
  obtain ⟨mm, hF⟩ := I.fr
  refine PySem.W.len_K hF I.ok.mod.kin J h1 h2 ?_
  have hl := F.len _ _ _ _ hq
  refine wpAny_call (codeAny_mono (F.run X.A.in1 X.stack s H ⟨[.ref a], []⟩ [.ref a] [.ref a] _ E hr.in1 I.env0.in1 (by
    have := hb s [.ref a] I.kIn (by simpa using hl)
    simpa using this) (.cons rfl .nil) hq) fun r s' hq => ?_)
  cases r with
  | error e => exact hx pins σ H s e s' I hq
  | ok fl =>
    cases fl with
    | ret w =>
      obtain ⟨z, H', I', rz, n, ez, hn, q⟩ := I.after hq
      subst ez
      obtain ⟨t, rfl⟩ := rz
      exact ⟨⟨by omega, by omega⟩, ⟨.int n, H', I'.tok _, ⟨_, rfl⟩, q⟩⟩
    | next => exact False.elim hq
    | brk => exact False.elim hq
    | cont => exact False.elim hq
end
section
variable {C : Addr} {sp : Sp} {E : XK} {H : Hp} {Q : VK} {a b dx dy : Addr} {fs gs : List (Str × V)}
theorem v_M2 (ha : H a = some (.ins C dx fs)) (hb : H b = some (.ins C dy gs)) (q : sp [.ref a, .ref b] H Q E) : rM2 C sp E (.ref a) (.ref b) H Q := ⟨a, b, dx, dy, fs, gs, rfl, rfl, ha, hb, q⟩
theorem v_M2n (ha : H a = some (.ins C dx fs)) (hb : H b = some (.ins C dy gs)) (q : sp [.ref a, .ref b] H (fun v H' => ∃ r, v = .bl r ∧ Q (.bl (!r)) H') E) : rM2n C sp E (.ref a) (.ref b) H Q := ⟨a, b, dx, dy, fs, gs, rfl, rfl, ha, hb, q⟩
theorem v_lenM (ha : H a = some (.ins C dx fs)) (q : sp [.ref a] H (fun v H' => ∃ n : Nat, v = .int n ∧ n < 1000000 ∧ Q (.int n) H') E) : rLenM C sp E [.ref a] H Q := ⟨a, dx, fs, rfl, ha, q⟩
end
end Cw
set_option Elab.async false
set_option linter.all false
set_option maxRecDepth 100000
set_option maxHeartbeats 4000000
namespace Cw
open PySem PySem.Spec L2
/-! ### texts as lists of codes: operators -/
def rTAdd : R2 := fun x y H Q => ∃ a b : List Nat, x = .str (tx a) ∧ y = .str (tx b) ∧ a.length + b.length ≤ 1000000 ∧ Q (.str (tx (a ++ b))) H
def rTMul : R2 := fun x y H Q => ∃ (a : List Nat) (n : Int), x = .str (tx a) ∧ y = .int n ∧ n < 1000000 ∧ -1000000 < n ∧ a.length * n.toNat ≤ 1000000 ∧ Q (.str (tx (List.replicate n.toNat a).flatten)) H
def rTLt : R2 := fun x y H Q => ∃ a b : List Nat, x = .str (tx a) ∧ y = .str (tx b) ∧ Q (.bl (decide (a < b))) H
theorem rep_cps (x : Array Nat) : ∀ (n : Nat) (acc : Array Nat), (List.replicate n x).foldl (· ++ ·) acc = acc ++ (List.replicate n x.toList).flatten.toArray
  | 0, acc => by simp
  | n + 1, acc => by
    rw [List.replicate_succ, List.foldl_cons, rep_cps x n, List.replicate_succ, List.flatten_cons]
    apply Array.ext'
    simp
section
variable {X : Cx}
theorem op_addS : OpR X (binaryOp .Add) rTAdd := by
  intro pins s σ H x y v u Q I rx ry h
  obtain ⟨a, b, rfl, rfl, hl, q⟩ := h
  refine op_add_str pins s σ H _ _ v u Q I rx ry ⟨tx a, tx b, rfl, rfl, ?_, ?_⟩
  · rw [tx_len, tx_len]; exact szl hl
  · rw [tx_app]; exact q
theorem op_mulS : OpR X (binaryOp .Mult) rTMul := by
  intro pins s σ H x y v u Q I rx ry h
  obtain ⟨a, n, rfl, rfl, h1, h2, h3, q⟩ := h
  obtain ⟨t, rfl⟩ := rx
  obtain ⟨t', rfl⟩ := ry
  have hx : (tx a).length = a.length := tx_len a
  have fin : ∀ (z : Str) (s' : Shared) (tk : Tok), z = tx (List.replicate n.toNat a).flatten → Inv X pins σ H s' → EP X pins σ Q (.str z tk) s' := fun z s' tk e I' => ⟨.str z, H, I', ⟨tk, rfl⟩, by rw [e]; exact q⟩
  have len : (List.replicate n.toNat a).flatten.length = a.length * n.toNat := by simp [Nat.mul_comm]
  refine PySem.P.mul_str ?_ ?_ ?_ ?_
  · have e1 : ¬ n < -(2 ^ 63 : Int) := by omega
    have e2 : ¬ n ≥ 2 ^ 63 := by omega
    rw [decide_eq_false e1, decide_eq_false e2]; rfl
  · intro hn _
    rw [hx]
    have e0 : (a.length : Int) ≤ a.length * n.toNat := by
      have : 1 ≤ n.toNat := by omega
      have := Nat.le_mul_of_pos_right a.length (show 0 < n.toNat by omega)
      omega
    have e1 : (a.length : Int) ≤ 1000000 := by
      have : ((a.length * n.toNat : Nat) : Int) ≤ 1000000 := by omega
      omega
    have e2 : (1000000 : Int) ≤ (2 ^ 63 - 1) / n := by
      rw [Int.le_ediv_iff_mul_le (by omega)]
      omega
    omega
  · intro hn _
    rw [hx]
    unfold Builtin.Str.tooLong
    have : a.length * n.toNat ≤ sizeLine := szl h3
    exact decide_eq_false (by omega)
  · by_cases hn : n < 1
    · rw [if_pos hn]
      have e : n.toNat = 0 := by omega
      refine ⟨by decide, fin _ _ _ ?_ (I.tok _)⟩
      rw [e]; rfl
    · rw [if_neg hn]
      by_cases c : (n == 1 || (tx a).length == 0) = true
      · rw [if_pos c]
        refine fin _ _ _ ?_ I
        rcases Bool.or_eq_true_iff.mp c with c | c
        · have e : n = 1 := eq_of_beq c
          rw [e]
          show tx a = tx (List.replicate 1 a).flatten
          simp
        · have e : a = [] := by
            rw [hx] at c
            exact List.length_eq_zero_iff.mp (eq_of_beq c)
          rw [e]
          simp
      · rw [if_neg c]
        have e : (⟨(List.replicate n.toNat (tx a).cps).foldl (· ++ ·) #[]⟩ : Str) = tx (List.replicate n.toNat a).flatten := by
          rw [rep_cps]
          simp [tx]
        refine ⟨?_, fin _ _ _ e (I.tok _)⟩
        rw [e, tx_len, len]
        exact szl h3
theorem op_ltS : OpR X (compareOp .Lt) rTLt := by
  intro pins s σ H x y v u Q I rx ry h
  obtain ⟨a, b, rfl, rfl, q⟩ := h
  exact op_lt_str pins s σ H _ _ v u Q I rx ry ⟨tx a, tx b, rfl, rfl, by simpa using q⟩
/-- text[::-1] -/
def tRevS (te : TE) : TE := fun σ H Q => te σ H fun x H1 => ∃ l : List Nat, x = .str (tx l) ∧ l.length ≤ 1000000 ∧ Q (.str (tx l.reverse)) H1
theorem pe_revS {e : Expr} {te : TE} {k : Nat} {p1 p2 p3 pos : PySem.Pos} (he : PE X e te) : PE X (.Subscript e (.Slice none none (some (.UnaryOp .USub (.Constant (.int 1) k p1) p2)) p3) pos) (tRevS te) := by
  refine ⟨fun pins s σ H Q I h => ?_⟩
  refine PyProof.Rows.Subscript_ (thn (he.run pins s σ H _ I h) fun v s1 ⟨x, H1, I1, r1, l, ex, hl, q⟩ => ?_)
  subst ex
  obtain ⟨t, rfl⟩ := r1
  have hst : PO X (some (.UnaryOp .USub (.Constant (.int 1) k p1) p2)) (tPart (tUn (rU fun i => .int (-i)) (tC (.int 1)))) := po_some (pe_un un_neg pe_int)
  refine wpAny_Slice (thn (po_none.run pins s1 σ H1 (fun o H2 => o = none ∧ H2 = H1) I1 ⟨rfl, rfl⟩) fun vl s2 ⟨o1, H2, I2, w1, e1, e2⟩ => ?_)
  subst e1 e2
  refine thn (po_none.run pins s2 σ H2 (fun o H3 => o = none ∧ H3 = H2) I2 ⟨rfl, rfl⟩) fun vu s3 ⟨o2, H3, I3, w2, e3, e4⟩ => ?_
  subst e3 e4
  refine thn (hst.run pins s3 σ H3 (fun o H4 => o = some (-1) ∧ H4 = H3) I3 ⟨1, rfl, -1, rfl, rfl, rfl⟩) fun vs s4 ⟨o3, H4, I4, w3, e5, e6⟩ => ?_
  subst e5 e6
  obtain ⟨l1, rfl, m1⟩ := IsPart.raw w1
  obtain ⟨l2, rfl, m2⟩ := IsPart.raw w2
  obtain ⟨l3, rfl, m3⟩ := IsPart.raw w3
  have I5 : Inv X pins σ H4 { s4 with heap := s4.heap.push { cls := .type "slice", data := .fields #[partValue l1, partValue l2, partValue l3] } } := I4.kept (t' := s4.toks) fun b ob q => Heap.get?_push_of_some _ q
  show wpAny (model X.prog X.w) X.A (PyProof.Rows.subscriptTail e (.Slice none none (some (.UnaryOp .USub (.Constant (.int 1) k p1) p2)) p3) (.str (tx l) t) (.ref s4.heap.objs.size)) (EP X pins σ Q) X.xe _
  refine PyProof.Rows.tail_any (ops := [.str (tx l) t, .ref s4.heap.objs.size]) (typeIs_str _ _ _) F.slot_str_getitem.lookup ?_ (by with_unfolding_all rfl)
  refine wpAny_getItem_str_slice (l := l1) (u := l2) (st := l3) ⟨_, Heap.get?_push_size _ rfl, rfl, rfl⟩ (by rw [m3]; rfl) ?_
  unfold sliceMade slicePicked
  rw [m1, m2, m3]
  have e : (⟨((Builtin.Str.strSliceIndices none none ((some (-1 : Int)).getD 1) (tx l).length).filterMap ((tx l).cps[·]?)).toArray⟩ : Str) = tx l.reverse := by
    show (⟨((Builtin.Str.strSliceIndices none none (-1) (tx l).length).filterMap ((tx l).cps[·]?)).toArray⟩ : Str) = tx l.reverse
    rw [PyProof.Rows.picked_rev, tx_len, PySem.W.krv_range]
    have k2 := PySem.W.krv_all (tx l).cps
    rw [show (tx l).cps.size = l.length from tx_len l] at k2
    rw [List.filterMap_reverse, k2]
  rw [e]
  rw [if_neg (by simp)]
  refine ⟨?_, .str (tx l.reverse), H4, I5.tok _, ⟨_, rfl⟩, q⟩
  rw [tx_len, List.length_reverse]
  exact szl hl
end
section
variable {σ : St} {H : Hp} {Q : VK}
theorem v_addS {a b : List Nat} (h : a.length + b.length ≤ 1000000) (q : Q (.str (tx (a ++ b))) H) : rTAdd (.str (tx a)) (.str (tx b)) H Q := ⟨a, b, rfl, rfl, h, q⟩
theorem v_mulS {a : List Nat} {n : Int} (h1 : n < 1000000) (h2 : -1000000 < n) (h : a.length * n.toNat ≤ 1000000) (q : Q (.str (tx (List.replicate n.toNat a).flatten)) H) : rTMul (.str (tx a)) (.int n) H Q := ⟨a, n, rfl, rfl, h1, h2, h, q⟩
theorem v_ltS {a b : List Nat} (q : Q (.bl (decide (a < b))) H) : rTLt (.str (tx a)) (.str (tx b)) H Q := ⟨a, b, rfl, rfl, q⟩
theorem e_revS {te : TE} (q : te σ H fun x H1 => ∃ l : List Nat, x = .str (tx l) ∧ l.length ≤ 1000000 ∧ Q (.str (tx l.reverse)) H1) : tRevS te σ H Q := q
theorem v_revS {l : List Nat} {P : List Nat → Prop} (h : l.length ≤ 1000000) (q : P l) : ∃ l' : List Nat, V.str (tx l) = .str (tx l') ∧ l'.length ≤ 1000000 ∧ P l' := ⟨l, rfl, h, q⟩
end
end Cw
set_option Elab.async false
set_option linter.all false
set_option maxRecDepth 100000
set_option maxHeartbeats 4000000
namespace Cw
open PySem PySem.Spec L2
/-! ### constants and globals -/
section
variable {X : Cx} {x : Str} {pos : PySem.Pos} {j : Nat}
theorem pe_tx {kd : _} (l : List Nat) (h : x = tx l) : PE X (.Constant (.str x) kd pos) (tC (.str (tx l))) := by
  rw [h]
  exact pe_str
theorem pe_globS {z : Str} (h : ∃ t, X.mg x = some (.str z t)) (hg : Gl X x := by rfl) (hd : (x == ("__debug__" : Str)) = false := by decide) : PE X (.Name x pos) (tC (.str z)) := by
  obtain ⟨t, h⟩ := h
  exact pe_glob hg h ⟨t, rfl⟩ hd
theorem pe_globI {z : Int} (h : ∃ t, X.mg x = some (.int z t)) (hg : Gl X x := by rfl) (hd : (x == ("__debug__" : Str)) = false := by decide) : PE X (.Name x pos) (tC (.int z)) := by
  obtain ⟨t, h⟩ := h
  exact pe_glob hg h ⟨t, rfl⟩ hd
/-- a class of one's own as a value -/
theorem pe_globC {C : Addr} (h : X.mg x = some (.ref C)) (hg : Gl X x := by rfl) (hd : (x == ("__debug__" : Str)) = false := by decide) : PE X (.Name x pos) (tC (.ref C)) := pe_glob hg h rfl hd
end
/-! ### slices of texts -/
theorem sl_S {X : Cx} : SlR X rSlS := sl_str
theorem sl_L {X : Cx} : SlR X (rSlL X.K) := sl_list
section
variable {σ : St} {H : Hp} {Q : VK} {te : TE} {tl th : TO} {K : PySem.W.Frag}
theorem e_sl {r : V → Option Int → Option Int → Hp → VK → Prop} (q : te σ H fun x H1 => tl σ H1 fun l H2 => th σ H2 fun u H3 => r x l u H3 Q) : tSl r te tl th σ H Q := q
theorem e_nopart {Q : Option Int → Hp → Prop} (q : Q none H) : tNoPart σ H Q := q
theorem e_part {Q : Option Int → Hp → Prop} (q : te σ H fun x H1 => ∃ i, x = .int i ∧ Q (some i) H1) : tPart te σ H Q := q
theorem cut_to (l : List Nat) {n : Int} (h : 0 ≤ n) : cutS (tx l) none (some n) = tx (l.take n.toNat) := by
  unfold cutS
  rw [tx_len]
  show (⟨((l.toArray.toList.drop 0).take ((if n < 0 then _ else min n.toNat l.length) - 0)).toArray⟩ : Str) = _
  rw [if_neg (by omega)]
  simp only [List.drop_zero, Nat.sub_zero]
  rw [← List.take_take]
  simp
theorem cut_from (l : List Nat) {n : Int} (h : 0 ≤ n) : cutS (tx l) (some n) none = tx (l.drop n.toNat) := by
  unfold cutS
  rw [tx_len]
  show (⟨((l.toArray.toList.drop (if n < 0 then _ else min n.toNat l.length)).take (l.length - (if n < 0 then _ else min n.toNat l.length))).toArray⟩ : Str) = _
  rw [if_neg (by omega)]
  have e : (l.drop (min n.toNat l.length)) = l.drop n.toNat := by
    by_cases hl : n.toNat ≤ l.length
    · rw [Nat.min_eq_left hl]
    · rw [Nat.min_eq_right (by omega), List.drop_of_length_le (by omega), List.drop_of_length_le (by omega)]
  simp only
  rw [e, List.take_of_length_le (by rw [List.length_drop]; omega)]
theorem v_slTo {l : List Nat} {n : Int} (hl : l.length ≤ 1000000) (h : 0 ≤ n) (q : Q (.str (tx (l.take n.toNat))) H) : rSlS (.str (tx l)) none (some n) H Q := ⟨tx l, rfl, by rw [tx_len]; exact szl hl, by rw [cut_to l h]; exact q⟩
theorem v_slFrom {l : List Nat} {n : Int} (hl : l.length ≤ 1000000) (h : 0 ≤ n) (q : Q (.str (tx (l.drop n.toNat))) H) : rSlS (.str (tx l)) (some n) none H Q := ⟨tx l, rfl, by rw [tx_len]; exact szl hl, by rw [cut_from l h]; exact q⟩
end
/-! ### join -/
def joinT (ls : List (List Nat)) : List Nat := ls.flatten
def rJoinT (K : PySem.W.Frag) : V → List V → Hp → VK → Prop := fun x xs H Q => ∃ (p : Addr) (ls : List (List Nat)), x = .str (tx []) ∧ xs = [.ref p] ∧ (SqL K H p (ls.map fun l => V.str (tx l)) ∨ SqT K H p (ls.map fun l => V.str (tx l))) ∧ ls.flatten.length ≤ 1000000 ∧ Q (.str (tx ls.flatten)) H
theorem join_empty (ls : List (List Nat)) : Txt.join (tx []) (ls.map tx) = tx ls.flatten := by
  have e : ∀ ls : List (List Nat), TL.joinL [] ls = ls.flatten := by
    intro ls
    induction ls with
    | nil => rfl
    | cons p r ih =>
      cases r with
      | nil => simp [TL.joinL]
      | cons q r =>
        show p ++ ([] ++ TL.joinL [] (q :: r)) = _
        rw [ih]
        simp
  have h := TL.tl_join (tx []) (ls.map tx)
  have h2 : (Str.join (tx []) (ls.map tx)).cps.toList = ls.flatten := by
    refine Eq.trans h ?_
    show TL.joinL [] ((ls.map tx).map TL.tl) = _
    rw [List.map_map, e]
    congr 1
    have : (TL.tl ∘ tx) = id := by
      funext l
      show (tx l).cps.toList = l
      simp
    rw [this, List.map_id]
  have g : Txt.join (tx []) (ls.map tx) = Str.join (tx []) (ls.map tx) := by
    show Builtin.Str.glued _ _ = _
    rw [StrLaws.glued_eq_join]
  rw [g, tx_eq (z := Str.join (tx []) (ls.map tx)), h2]
section
variable {X : Cx} {o e : Expr} {to te : TE}
theorem mt_joinT : MtR X "str.join" (rJoinT X.K) := by
  intro pins s σ H x xs v us Q I rx rs h
  obtain ⟨p, ls, rfl, rfl, hp, hl, q⟩ := h
  refine mt_join pins s σ H _ _ v us Q I rx rs ⟨tx [], p, ls.map tx, rfl, rfl, ?_, ?_, ?_⟩
  · simpa [List.map_map, Function.comp_def] using hp
  · have e : ((ls.map tx).map (·.length)).sum = ls.flatten.length := by
      rw [List.map_map, List.length_flatten]
      exact congrArg List.sum (List.map_congr_left fun l _ => tx_len l)
    rw [e]
    have e0 : (tx []).length = 0 := rfl
    rw [e0]
    omega
  · rw [join_empty]
    exact q
theorem pe_joinT {apos pos : PySem.Pos} (ho : PE X o to) (he : PE X e te) (hs : starEach [e] X.env = [(false, eval e X.env)] := by rfl) (hbase : attributeBase o "join" X.env (eval o X.env) = eval o X.env := by rfl) (hline : (apos.endLine == pos.line) = true := by rfl) :
    PE X (.Call (.Attribute o "join" apos) [e] [] pos) (tM1 (rJoinT X.K) to te) := pe_m1 F.slot_str_join F.type_str_join mt_joinT ho he hs hbase hline
end
section
variable {σ : St} {H : Hp} {Q : VK} {to te : TE} {K : PySem.W.Frag}
theorem e_m1 {r : V → List V → Hp → VK → Prop} (q : to σ H fun x H1 => (∃ a, x = .str a) ∧ te σ H1 fun y H2 => r x [y] H2 Q) : tM1 r to te σ H Q := q
theorem v_isS {a : Str} {P : Prop} (q : P) : (∃ b, V.str a = .str b) ∧ P := ⟨⟨a, rfl⟩, q⟩
theorem v_join {p : Addr} {ls : List (List Nat)} (h : H p = some (.lst (ls.map fun l => V.str (tx l)))) (hl : ls.flatten.length ≤ 1000000) (q : Q (.str (tx ls.flatten)) H) : rJoinT K (.str (tx [])) [.ref p] H Q := ⟨p, ls, rfl, rfl, .inl (SqL.of h), hl, q⟩
/-! ### membership -/
theorem v_inS {c : Nat} {l : List Nat} (q : Q (.bl (decide (c ∈ l))) H) : rInS (.str (tx [c])) (.str (tx l)) H Q := ⟨c, tx l, rfl, rfl, by simpa using q⟩
theorem v_notInS {c : Nat} {l : List Nat} (q : Q (.bl (!decide (c ∈ l))) H) : rNotInS (.str (tx [c])) (.str (tx l)) H Q := ⟨c, tx l, rfl, rfl, by simpa using q⟩
theorem inV_tx {x : List Nat} : ∀ {ls : List (List Nat)}, inV (.str (tx x)) (ls.map fun l => V.str (tx l)) = decide (x ∈ ls)
  | [] => by simp [inV]
  | l :: r => by
    have ih := inV_tx (x := x) (ls := r)
    unfold inV at ih ⊢
    rw [List.map_cons, List.any_cons, ih]
    by_cases e : l = x
    · subst e
      simp [eqV]
    · have e2 : ¬ tx l = tx x := fun z => e (tx_inj.mp z)
      have e3 : ¬ x = l := fun z => e z.symm
      simp [eqV, e2, e3]
theorem flat_tx (ls : List (List Nat)) : (ls.map fun l => V.str (tx l)).all flatV = true := by
  rw [List.all_map]
  exact List.all_eq_true.mpr fun _ _ => rfl
theorem op_inL {X : Cx} : OpR X (compareOp .In) (rIn X.K false) := op_in_seq
theorem v_inL {x : List Nat} {ls : List (List Nat)} {p : Addr} (h : H p = some (.lst (ls.map fun l => V.str (tx l)))) (q : Q (.bl (decide (x ∈ ls))) H) : rIn K false (.str (tx x)) (.ref p) H Q :=
  ⟨p, _, rfl, .inl (SqL.of h), rfl, flat_tx ls, by rw [inV_tx]; exact q⟩
theorem v_inT {x : List Nat} {ls : List (List Nat)} {p : Addr} (h : SqT K H p (ls.map fun l => V.str (tx l))) (q : Q (.bl (decide (x ∈ ls))) H) : rIn K false (.str (tx x)) (.ref p) H Q :=
  ⟨p, _, rfl, .inr h, rfl, flat_tx ls, by rw [inV_tx]; exact q⟩
end
/-! ### comprehensions -/
theorem wipe1 {σ : St} {i : Nat} {x : Option V} : wipe ((wipe σ [i]).set i x) [i] = wipe σ [i] := by
  show (((σ.set i none).set i x).set i none) = σ.set i none
  rw [List.set_set, List.set_set]
section
variable {σ : St} {H : Hp} {Q : VK} {wi : TI} {g : TG} {tt : TT} {te t0 : TE} {i : Nat} {K : PySem.W.Frag}
/-- what a comprehension's new list is, item by item: Y tells the turn's items -/
theorem lc_gen {P : Addr → Hp → Prop} {J : It} {n : Nat} {G : Hp → Prop} {it : Nat → V} {b : Nat → Bool} {f : Nat → V} (w : Walk J n G (fun k H x H' => H' = H ∧ x = it k)) (hG : ∀ H', Same H H' → G H') (hn : n ≤ 1000000)
    (ht : ∀ k, k < n → ∀ H1, Same H H1 → ∀ R : Bool → Hp → Prop, (∀ H2, Same H1 H2 → R (b k) H2) → tt ((wipe σ [i]).set i (some (it k))) H1 R)
    (he : ∀ k, k < n → b k = true → ∀ H1, Same H H1 → ∀ R : VK, (∀ H2, Same H1 H2 → R (f k) H2) → te ((wipe σ [i]).set i (some (it k))) H1 R)
    (q : ∀ D H', H D = none → Same H H' → H' D = some (.lst (((List.range n).filter b).map f)) → P D H') :
    ∀ D, H D = none → ∃ W : Nat → Nat → Hp → Prop, (∃ m, W 0 m (upd H D (.lst []))) ∧ ∀ k m H, W k m H →
      (J.stop k H ∧ P D H) ∨ (J.go k H ∧ ∃ Nx : Hp → Prop, (∀ H', Nx H' → ∃ m', m' < m ∧ W (k + 1) m' H') ∧ ∀ x H', J.yld k H x H' → (gName i) x (wipe σ [i]) H' fun s2 H2 => wipe s2 [i] = wipe σ [i] ∧ tt s2 H2 fun c H3 =>
        if c = true then te s2 H3 fun y H4 => ∃ acc, H4 D = some (.lst acc) ∧ acc.length < sizeLine ∧ Nx (upd H4 D (.lst (acc ++ [y]))) else Nx H3) := by
  intro D hD
  refine lc_it w (vs := [i]) (σ := σ) (g := gName i) (tt := tt) (te := te) (Qd := fun H' => P D H') (fun k H' => Same H H' ∧ H' D = some (.lst (((List.range k).filter b).map f)))
    ⟨Same.new hD, upd_same⟩ (fun k H' _ p => hG H' p.1) (fun k x H1 H2 hk p y => ?_) (fun H' p => q D H' hD p.1 p.2)
  obtain ⟨p1, p2⟩ := p
  obtain ⟨rfl, rfl⟩ := y
  refine ⟨wipe1, ht k hk _ p1 _ fun H3 s3 => ?_⟩
  have e1 : (List.range (k + 1)).filter b = (List.range k).filter b ++ (if b k = true then [k] else []) := by
    rw [List.range_succ, List.filter_append]
    congr 1
    by_cases c : b k = true
    · simp [c]
    · simp [c]
  by_cases c : b k = true
  · rw [if_pos c]
    refine he k hk c _ (p1.trans s3) _ fun H4 s4 => ?_
    refine ⟨_, s4 _ _ (s3 _ _ p2), ?_, fun a o ha => ?_, ?_⟩
    · rw [List.length_map]
      have h1 := List.length_filter_le b (List.range k)
      rw [List.length_range] at h1
      exact szlt (by omega)
    · rw [upd_ne (ne_of_none ha hD)]
      exact s4 _ _ (s3 _ _ (p1 _ _ ha))
    · rw [upd_same, e1, if_pos c, List.map_append]
      rfl
  · rw [if_neg c]
    refine ⟨p1.trans s3, ?_⟩
    rw [e1, if_neg c, List.append_nil]
    exact s3 _ _ p2
theorem e_lc {vs : List Nat} (q : wi σ H fun J H1 => ∀ D, H1 D = none → ∃ W : Nat → Nat → Hp → Prop, (∃ m, W 0 m (upd H1 D (.lst []))) ∧ ∀ i m H, W i m H →
    (J.stop i H ∧ Q (.ref D) H) ∨ (J.go i H ∧ ∃ Nx : Hp → Prop, (∀ H', Nx H' → ∃ m', m' < m ∧ W (i + 1) m' H') ∧ ∀ x H', J.yld i H x H' → g x (wipe σ vs) H' fun s2 H2 => wipe s2 vs = wipe σ vs ∧ tt s2 H2 fun b H3 =>
      if b = true then te s2 H3 fun y H4 => ∃ acc, H4 D = some (.lst acc) ∧ acc.length < sizeLine ∧ Nx (upd H4 D (.lst (acc ++ [y]))) else Nx H3)) : tLc wi g tt te vs σ H Q := q
theorem range_map {α : Type} (l : List Nat) (b : Nat → Bool) (f : Nat → α) : ((List.range l.length).filter fun k => b (l.getD k 0)).map (fun k => f (l.getD k 0)) = (l.filter b).map f := by
  have e : l = (List.range l.length).map fun k => l.getD k 0 := by
    apply List.ext_getElem
    · simp
    · intro j h1 h2
      simp [List.getD, h1]
  conv => rhs; rw [e, List.filter_map, List.map_map]
  rfl
/-- [e for c in text if t] -/
theorem v_lcS {P : Addr → Hp → Prop} {l : List Nat} {b : Nat → Bool} {f : Nat → V} (hn : l.length ≤ 1000000)
    (ht : ∀ c, c ∈ l → ∀ H1, Same H H1 → ∀ R : Bool → Hp → Prop, (∀ H2, Same H1 H2 → R (b c) H2) → tt ((wipe σ [i]).set i (some (.str (tx [c])))) H1 R)
    (he : ∀ c, c ∈ l → b c = true → ∀ H1, Same H H1 → ∀ R : VK, (∀ H2, Same H1 H2 → R (f c) H2) → te ((wipe σ [i]).set i (some (.str (tx [c])))) H1 R)
    (q : ∀ D H', H D = none → Same H H' → H' D = some (.lst ((l.filter b).map f)) → P D H') :
    ∀ D, H D = none → ∃ W : Nat → Nat → Hp → Prop, (∃ m, W 0 m (upd H D (.lst []))) ∧ ∀ k m H, W k m H →
      ((Its (tx l)).stop k H ∧ P D H) ∨ ((Its (tx l)).go k H ∧ ∃ Nx : Hp → Prop, (∀ H', Nx H' → ∃ m', m' < m ∧ W (k + 1) m' H') ∧ ∀ x H', (Its (tx l)).yld k H x H' → (gName i) x (wipe σ [i]) H' fun s2 H2 => wipe s2 [i] = wipe σ [i] ∧ tt s2 H2 fun c H3 =>
        if c = true then te s2 H3 fun y H4 => ∃ acc, H4 D = some (.lst acc) ∧ acc.length < sizeLine ∧ Nx (upd H4 D (.lst (acc ++ [y]))) else Nx H3) := by
  have mem : ∀ k, k < l.length → l.getD k 0 ∈ l := fun k hk => by
    rw [List.getD_eq_getElem?_getD, List.getElem?_eq_getElem hk]
    exact List.getElem_mem hk
  have w : Walk (Its (tx l)) l.length (fun _ => True) (fun k H x H' => H' = H ∧ x = .str (tx [l.getD k 0])) := by
    refine ⟨fun k H hk _ => by show k < (tx l).cps.size; simpa using hk, fun H _ => by show (tx l).cps.size ≤ l.length; simp, fun k H x H' hk _ y => ?_⟩
    obtain ⟨e, c, hc, rfl⟩ := y
    refine ⟨e, ?_⟩
    have hc : l[k]? = some c := by simpa using hc
    rw [List.getD_eq_getElem?_getD, hc]
    rfl
  refine lc_gen (b := fun k => b (l.getD k 0)) (f := fun k => f (l.getD k 0)) w (fun _ _ => trivial) hn (fun k hk H1 s1 R r => ht _ (mem k hk) H1 s1 R r) (fun k hk c H1 s1 R r => he _ (mem k hk) c H1 s1 R r) (fun D H' hD s' e => q D H' hD s' ?_)
  rw [e, range_map]
end
end Cw
set_option Elab.async false
set_option linter.all false
set_option maxRecDepth 100000
set_option maxHeartbeats 4000000
namespace Cw
open PySem PySem.Spec L2
/-! ### a comprehension of two fors over texts -/
theorem lc_in {J : It} {n : Nat} {G : Hp → Prop} {Y : Nat → Hp → V → Hp → Prop} (w : Walk J n G Y) {g : TG} {tt : TT} {te : TE} {vs : List Nat} {σ : St} {H1 : Hp} {D : Addr} {Qd : Hp → Prop} (Pv : Nat → Hp → Prop) (h0 : Pv 0 H1) (hG : ∀ i H, i ≤ n → Pv i H → G H)
    (hs : ∀ i x H H', i < n → Pv i H → Y i H x H' → g x (wipe σ vs) H' fun s2 H2 => wipe s2 vs = wipe σ vs ∧ tt s2 H2 fun b H3 =>
      if b = true then te s2 H3 fun y H4 => ∃ acc, H4 D = some (.lst acc) ∧ acc.length < sizeLine ∧ Pv (i + 1) (upd H4 D (.lst (acc ++ [y]))) else Pv (i + 1) H3) (hd : ∀ H, Pv n H → Qd H) :
    ∃ W : Nat → Nat → Hp → Prop, (∃ m, W 0 m H1) ∧ ∀ i m H, W i m H →
      (J.stop i H ∧ Qd H) ∨ (J.go i H ∧ ∃ Nx : Hp → Prop, (∀ H', Nx H' → ∃ m', m' < m ∧ W (i + 1) m' H') ∧ ∀ x H', J.yld i H x H' → g x (wipe σ vs) H' fun s2 H2 => wipe s2 vs = wipe σ vs ∧ tt s2 H2 fun b H3 =>
        if b = true then te s2 H3 fun y H4 => ∃ acc, H4 D = some (.lst acc) ∧ acc.length < sizeLine ∧ Nx (upd H4 D (.lst (acc ++ [y]))) else Nx H3) := by
  refine ⟨fun i m H => m = n - i ∧ i ≤ n ∧ Pv i H, ⟨n, rfl, Nat.zero_le _, h0⟩, ?_⟩
  rintro i m H ⟨rfl, hi, p⟩
  by_cases c : i < n
  · exact Or.inr ⟨w.goes i H c (hG i H hi p), Pv (i + 1), fun H' p' => ⟨_, by omega, rfl, c, p'⟩, fun x H' y => hs i x H H' c p (w.yields i H x H' c (hG i H hi p) y)⟩
  · have e : i = n := by omega
    rw [e] at p ⊢
    exact Or.inl ⟨w.stops H (hG n H (Nat.le_refl _) p), hd H p⟩
theorem walk_tx (l : List Nat) : Walk (Its (tx l)) l.length (fun _ => True) (fun k H x H' => H' = H ∧ x = .str (tx [l.getD k 0])) := by
  refine ⟨fun k H hk _ => by show k < (tx l).cps.size; simpa using hk, fun H _ => by show (tx l).cps.size ≤ l.length; simp, fun k H x H' hk _ y => ?_⟩
  obtain ⟨e, c, hc, rfl⟩ := y
  refine ⟨e, ?_⟩
  have hc : l[k]? = some c := by simpa using hc
  rw [List.getD_eq_getElem?_getD, hc]
  rfl
theorem getD_mem {l : List Nat} {k : Nat} (hk : k < l.length) : l.getD k 0 ∈ l := by
  rw [List.getD_eq_getElem?_getD, List.getElem?_eq_getElem hk]
  exact List.getElem_mem hk
theorem take_getD {l : List Nat} {k : Nat} (hk : k < l.length) : l.take (k + 1) = l.take k ++ [l.getD k 0] := by
  rw [List.take_add_one, List.getD_eq_getElem?_getD, List.getElem?_eq_getElem hk]
  rfl
section
variable {σ : St} {H : Hp} {Q : VK} {tt1 : TT} {te t1 : TE} {i j : Nat}
theorem v_lc2S {la lb : List Nat} {b : Nat → Nat → Bool} {f : Nat → Nat → V} (hij : i ≠ j) (hsz : la.length * lb.length < 1000000)
    (h1 : ∀ c, c ∈ la → ∀ H1, Same H H1 → ∀ R : VK, R (.str (tx lb)) H1 → t1 (((σ.set j none).set i none).set i (some (.str (tx [c])))) H1 R)
    (ht : ∀ c d, c ∈ la → d ∈ lb → ∀ H1, Same H H1 → ∀ R : Bool → Hp → Prop, (∀ H2, Same H1 H2 → R (b c d) H2) → tt1 (((((σ.set j none).set i none).set i (some (.str (tx [c])))).set j none).set j (some (.str (tx [d])))) H1 R)
    (he : ∀ c d, c ∈ la → d ∈ lb → b c d = true → ∀ H1, Same H H1 → ∀ R : VK, (∀ H2, Same H1 H2 → R (f c d) H2) → te (((((σ.set j none).set i none).set i (some (.str (tx [c])))).set j none).set j (some (.str (tx [d])))) H1 R)
    (q : ∀ D H', H D = none → Same H H' → H' D = some (.lst (la.flatMap fun c => (lb.filter (b c)).map (f c))) → Q (.ref D) H') :
    tLc2 (iStr (tC (.str (tx la)))) (gName i) tYes (iStr t1) (gName j) tt1 te [i, j] [j] σ H Q := by
  refine ⟨tx la, rfl, fun D hD => ?_⟩
  have len : ∀ l : List Nat, (l.flatMap fun c => (lb.filter (b c)).map (f c)).length ≤ l.length * lb.length := by
    intro l
    induction l with
    | nil => simp
    | cons c r ih =>
      rw [List.flatMap_cons, List.length_append, List.length_map, List.length_cons, Nat.succ_mul]
      have := List.length_filter_le (b c) lb
      omega
  refine ⟨fun k m H' => m = la.length - k ∧ k ≤ la.length ∧ Same H H' ∧ H' D = some (.lst ((la.take k).flatMap fun c => (lb.filter (b c)).map (f c))), ⟨_, rfl, Nat.zero_le _, Same.new hD, upd_same⟩, ?_⟩
  rintro k m H1 ⟨rfl, hk, s1, e1⟩
  have w := walk_tx la
  by_cases c : k < la.length
  · refine Or.inr ⟨w.goes k H1 c trivial, fun H' => Same H H' ∧ H' D = some (.lst ((la.take (k + 1)).flatMap fun c => (lb.filter (b c)).map (f c))), fun H' p => ⟨_, by omega, rfl, c, p.1, p.2⟩, fun x H2 y => ?_⟩
    obtain ⟨rfl, rfl⟩ := w.yields k H1 x H2 c trivial y
    have hm := getD_mem c
    refine ⟨?_, ?_⟩
    · show ((((σ.set j none).set i none).set i _).set j none).set i none = (σ.set j none).set i none
      rw [List.set_comm _ _ hij.symm, List.set_set, List.set_set, List.set_comm _ _ hij, List.set_set]
    · unfold tYes
      refine iteT ?_
      refine h1 _ hm _ s1 _ ⟨tx lb, rfl, ?_⟩
      refine lc_in (walk_tx lb) (fun z H' => Same H H' ∧ H' D = some (.lst (((la.take k).flatMap fun c => (lb.filter (b c)).map (f c)) ++ ((lb.take z).filter (b (la.getD k 0))).map (f (la.getD k 0))))) ⟨s1, by simpa using e1⟩ (fun _ _ _ _ => trivial) ?_ ?_
      · rintro z x H3 H4 hz ⟨s3, e3⟩ ⟨rfl, rfl⟩
        have hm2 := getD_mem hz
        have et := take_getD hz
        refine ⟨?_, ht _ _ hm hm2 _ s3 _ fun H5 s5 => ?_⟩
        · exact wipe1
        · show (if b (la.getD k 0) (lb.getD z 0) = true then _ else _)
          by_cases cb : b (la.getD k 0) (lb.getD z 0) = true
          · rw [if_pos cb]
            refine he _ _ hm hm2 cb _ (s3.trans s5) _ fun H6 s6 => ⟨_, s6 _ _ (s5 _ _ e3), ?_, fun a o ha => ?_, ?_⟩
            · have n1 := len (la.take k)
              have n2 : ((lb.take z).filter (b (la.getD k 0))).length ≤ z := by
                have := List.length_filter_le (b (la.getD k 0)) (lb.take z)
                rw [List.length_take] at this
                omega
              rw [List.length_append, List.length_map]
              rw [List.length_take, Nat.min_eq_left (by omega)] at n1
              have n3 : k * lb.length + lb.length ≤ la.length * lb.length := by
                rw [← Nat.succ_mul]
                exact Nat.mul_le_mul_right _ c
              exact szlt (by omega)
            · rw [upd_ne (ne_of_none ha hD)]
              exact s6 _ _ (s5 _ _ (s3 _ _ ha))
            · rw [upd_same, et, List.filter_append, List.map_append, List.append_assoc, List.filter_cons, if_pos cb]
              rfl
          · rw [if_neg cb]
            refine ⟨s3.trans s5, ?_⟩
            rw [s5 _ _ e3, et, List.filter_append, List.filter_cons, if_neg cb, List.filter_nil, List.append_nil]
      · rintro H' ⟨s', e'⟩
        refine ⟨s', ?_⟩
        rw [e', take_getD c, List.flatMap_append, List.take_of_length_le (Nat.le_refl _)]
        simp
  · have e : k = la.length := by omega
    subst e
    refine Or.inl ⟨w.stops H1 trivial, q D H1 hD s1 ?_⟩
    rw [e1, List.take_of_length_le (Nat.le_refl _)]
end
end Cw
set_option Elab.async false
set_option linter.all false
set_option maxRecDepth 100000
set_option maxHeartbeats 4000000
/-! plain words about plans -/
namespace Cw
open PySem L2
def LET : List Nat := [97, 98, 99, 100, 101, 102, 103, 104, 105, 106, 107, 108, 109, 110, 111, 112, 113, 114, 115, 116, 117, 118, 119, 120, 121, 122]
def ascOf (l : List Nat) : List Nat := LET.filter fun c => decide (c ∈ l)
def pairsOf (found : List (List Nat)) : List (List Nat) := LET.flatMap fun a => (LET.filter fun b => decide ([a, b] ∈ found)).map fun b => [a, b]
def crossOf (ks : List Nat) (ps : List (List Nat)) (k : Nat) : List Nat := ks.filter fun o => decide ([k, o] ∈ ps) || decide ([o, k] ∈ ps)
/-- the pairs that a plan may be told by: two different kinds each -/
def PairsIn (ks : List Nat) (ps : List (List Nat)) : Prop := ∀ p ∈ ps, ∃ a b, p = [a, b] ∧ a ≠ b ∧ a ∈ ks ∧ b ∈ ks
def crossKV (ks : List Nat) (ps : List (List Nat)) (l : List Nat) : List (Key × V) := l.map fun k => (Sum.inr (tx [k]), V.str (tx (crossOf ks ps k)))
/-- a list of texts as values -/
abbrev strsV (ls : List (List Nat)) : List V := ls.map fun l => V.str (tx l)
theorem LET_lt {c : Nat} (h : c ∈ LET) : 97 ≤ c ∧ c < 123 := by
  unfold LET at h
  simp only [List.mem_cons, List.not_mem_nil, or_false] at h
  omega
theorem LET_mem {c : Nat} : c ∈ LET ↔ 97 ≤ c ∧ c < 123 := by
  refine ⟨LET_lt, fun h => ?_⟩
  unfold LET
  simp only [List.mem_cons, List.not_mem_nil, or_false]
  omega
theorem ascOf_mem {l : List Nat} {c : Nat} : c ∈ ascOf l ↔ c ∈ LET ∧ c ∈ l := by
  unfold ascOf
  rw [List.mem_filter, decide_eq_true_iff]
theorem ascOf_len (l : List Nat) : (ascOf l).length ≤ 26 := List.length_filter_le _ _
theorem LET_nodup : LET.Nodup := by decide
theorem ascOf_nodup (l : List Nat) : (ascOf l).Nodup := LET_nodup.filter _
theorem pairsOf_mem {f : List (List Nat)} {p : List Nat} : p ∈ pairsOf f ↔ ∃ a b, p = [a, b] ∧ a ∈ LET ∧ b ∈ LET ∧ [a, b] ∈ f := by
  unfold pairsOf
  simp only [List.mem_flatMap, List.mem_map, List.mem_filter, decide_eq_true_iff]
  constructor
  · rintro ⟨a, ha, b, ⟨hb, hf⟩, rfl⟩
    exact ⟨a, b, rfl, ha, hb, hf⟩
  · rintro ⟨a, b, rfl, ha, hb, hf⟩
    exact ⟨a, ha, b, ⟨hb, hf⟩, rfl⟩
theorem pairsOf_len (f : List (List Nat)) : (pairsOf f).length ≤ 676 := by
  have h : ∀ l : List Nat, (l.flatMap fun a => (LET.filter fun b => decide ([a, b] ∈ f)).map fun b => [a, b]).length ≤ l.length * 26 := by
    intro l
    induction l with
    | nil => simp
    | cons c r ih =>
      rw [List.flatMap_cons, List.length_append, List.length_map, List.length_cons, Nat.succ_mul]
      have := List.length_filter_le (fun b => decide ([c, b] ∈ f)) LET
      have e : LET.length = 26 := rfl
      omega
  exact h LET
theorem pairsOf_congr {f g : List (List Nat)} (h : ∀ a b, a ∈ LET → b ∈ LET → ([a, b] ∈ f ↔ [a, b] ∈ g)) : pairsOf f = pairsOf g := by
  unfold pairsOf
  have h2 : ∀ l : List Nat, (∀ a ∈ l, a ∈ LET) → (l.flatMap fun a => (LET.filter fun b => decide ([a, b] ∈ f)).map fun b => [a, b]) = (l.flatMap fun a => (LET.filter fun b => decide ([a, b] ∈ g)).map fun b => [a, b]) := by
    intro l
    induction l with
    | nil => intro _; rfl
    | cons c r ih =>
      intro hm
      rw [List.flatMap_cons, List.flatMap_cons, ih fun a ha => hm a (List.mem_cons_of_mem _ ha)]
      congr 2
      refine List.filter_congr fun b hb => ?_
      exact decide_eq_decide.mpr (h c b (hm c (List.mem_cons_self ..)) hb)
  exact h2 LET fun a ha => ha
theorem filter_yes {α : Type} (l : List α) : l.filter (fun _ => true) = l := List.filter_eq_self.mpr fun _ _ => rfl
theorem flat_ones (l : List Nat) : (l.map fun c => [c]).flatten = l := by
  induction l with
  | nil => rfl
  | cons c r ih => rw [List.map_cons, List.flatten_cons, ih]; rfl
theorem strs_ones (l : List Nat) : (l.map fun c => V.str (tx [c])) = strsV (l.map fun c => [c]) := by
  unfold strsV
  rw [List.map_map]
  rfl
theorem nodup_ones {l : List Nat} : (l.map fun c => tx [c]).Nodup ↔ l.Nodup := by
  induction l with
  | nil => simp
  | cons c r ih =>
    rw [List.map_cons, List.nodup_cons, List.nodup_cons, ih]
    refine and_congr_left fun _ => not_congr ?_
    rw [List.mem_map]
    constructor
    · rintro ⟨d, hd, e⟩
      have : [d] = [c] := tx_inj.mp e
      injection this with e _
      exact e ▸ hd
    · intro h
      exact ⟨c, h, rfl⟩
theorem metOf_ones (l : List Nat) : ((metOf (l.map fun c => tx [c])).length = l.length) ↔ l.Nodup := by
  by_cases h : l.Nodup
  · rw [metOf_nodup (nodup_ones.mpr h), List.length_map]
    exact ⟨fun _ => h, fun _ => rfl⟩
  · have := metOf_lt (fun n => h (nodup_ones.mp n))
    rw [List.length_map] at this
    exact ⟨fun e => by omega, fun n => absurd n h⟩
theorem crossOf_sub {ks : List Nat} {ps : List (List Nat)} {k c : Nat} (h : c ∈ crossOf ks ps k) : c ∈ ks := (List.mem_filter.mp h).1
theorem crossOf_len (ks : List Nat) (ps : List (List Nat)) (k : Nat) : (crossOf ks ps k).length ≤ ks.length := List.length_filter_le _ _
section
variable {σ : L2.St} {H : Hp} {Q : VK} {te : TE} {K : PySem.W.Frag}
theorem e_iStr {R : It → Hp → Prop} (q : te σ H fun v H1 => ∃ x, v = .str x ∧ R (Its x) H1) : iStr te σ H R := q
theorem e_iL {R : It → Hp → Prop} (q : te σ H fun x H1 => ∃ a, x = .ref a ∧ (∃ xs, SqL K H1 a xs) ∧ R (Itl K a) H1) : iList K te σ H R := q
theorem v_iL {P : Addr → Prop} {a : Addr} {xs : List V} (h : H a = some (.lst xs)) (q : P a) : ∃ a', V.ref a = .ref a' ∧ (∃ xs, SqL K H a' xs) ∧ P a' := ⟨a, rfl, ⟨xs, SqL.of h⟩, q⟩
theorem e_iR1 {ta : TA} {R : It → Hp → Prop} (q : ta σ H fun vs H1 => ∃ j : Int, vs = [.int j] ∧ -(2 ^ 62) ≤ j ∧ j < 2 ^ 62 ∧ R (Itr 0 j.toNat) H1) : iRng1 ta σ H R := q
theorem v_iR1 {P : Int → Prop} {j : Int} (h1 : -1000000 ≤ j) (h2 : j < 1000000) (q : P j) : ∃ j' : Int, [V.int j] = [.int j'] ∧ -(2 ^ 62) ≤ j' ∧ j' < 2 ^ 62 ∧ P j' := ⟨j, rfl, by omega, by omega, q⟩
theorem e_iR2 {ta : TA} {R : It → Hp → Prop} (q : ta σ H fun vs H1 => ∃ i j : Int, vs = [.int i, .int j] ∧ (-(2 ^ 62) ≤ i ∧ i < 2 ^ 62 ∧ -(2 ^ 62) ≤ j ∧ j < 2 ^ 62) ∧ R (Itr i (j - i).toNat) H1) : iRng2 ta σ H R := q
theorem v_iR2 {P : Int → Int → Prop} {i j : Int} (h1 : -1000000 ≤ i ∧ i < 1000000 ∧ -1000000 ≤ j ∧ j < 1000000) (q : P i j) : ∃ i' j' : Int, [V.int i, V.int j] = [.int i', .int j'] ∧ (-(2 ^ 62) ≤ i' ∧ i' < 2 ^ 62 ∧ -(2 ^ 62) ≤ j' ∧ j' < 2 ^ 62) ∧ P i' j' := ⟨i, j, rfl, by omega, q⟩
theorem e_for {wi : TI} {g : TG} {tb : TS} {D : Ends} (q : wi σ H fun J H1 => ∃ W : Nat → Nat → L2.St → Hp → Prop, (∃ m, W 0 m σ H1) ∧ ∀ i m σ H, W i m σ H →
    (J.stop i H ∧ D.nx σ H) ∨ (J.go i H ∧ ∃ N : L2.St → Hp → Prop, (∀ σ' H', N σ' H' → ∃ m', m' < m ∧ W (i + 1) m' σ' H') ∧ ∀ x H', J.yld i H x H' → g x σ H' fun s2 H2 => tb { D with nx := N, ct := N, bk := D.nx } s2 H2)) : tFor wi g tb D σ H := q
theorem iteNT {A B : Prop} (h : B) : if (!true) = true then A else B := by
  rw [if_neg (by decide)]
  exact h
theorem iteNF {A B : Prop} (h : A) : if (!false) = true then A else B := by
  rw [if_pos (by decide)]
  exact h
theorem e_yes {Q : Bool → Hp → Prop} (q : Q true H) : tYes σ H Q := q
theorem v_isiS {x : Str} (q : Q (.bl true) H) : rIsi K [.str x, .ty "str"] H Q := ⟨.str x, .ty "str", .type "str", .type "str", true, rfl, .ty "str", .base (.str x), kit_ty (by decide +kernel), q⟩
theorem v_all {p : Addr} {bs : List Bool} (h : H p = some (.lst (bs.map V.bl))) (q : Q (.bl (bs.all id)) H) : rAll K [.ref p] H Q := ⟨p, bs, rfl, SqL.of h, q⟩
theorem v_fld {P : V → Prop} {a C dx : Addr} {fs : List (Str × V)} {f : Str} {v : V} (h : H a = some (.ins C dx fs)) (c : Cls K C) (n : NoAttr K C f) (l : fs.lookup f = some v) (q : P v) : ∃ a' C dx fs v, V.ref a = .ref a' ∧ H a' = some (.ins C dx fs) ∧ Cls K C ∧ NoAttr K C f ∧ fs.lookup f = some v ∧ P v := ⟨a, C, dx, fs, v, rfl, h, c, n, l, q⟩
theorem e_sfld {ta tv : TE} {f : Str} {D : Ends} (q : tv σ H fun y H1 => ta σ H1 fun x H2 => ∃ a C dx fs, x = .ref a ∧ H2 a = some (.ins C dx fs) ∧ Cls K C ∧ NoAttr K C f ∧ fs.length < 1000 ∧ D.nx σ (upd H2 a (.ins C dx (putF f y fs)))) : sFld K ta tv f D σ H := q
theorem v_sfld {P : Hp → Prop} {a C dx : Addr} {fs : List (Str × V)} {f : Str} {y : V} (h : H a = some (.ins C dx fs)) (c : Cls K C) (n : NoAttr K C f) (l : fs.length < 1000) (q : ∀ H', Keep a H H' → H' a = some (.ins C dx (putF f y fs)) → P H') :
    ∃ a' C dx fs, V.ref a = .ref a' ∧ H a' = some (.ins C dx fs) ∧ Cls K C ∧ NoAttr K C f ∧ fs.length < 1000 ∧ P (upd H a' (.ins C dx (putF f y fs))) := ⟨a, C, dx, fs, rfl, h, c, n, l, q _ Keep.put upd_same⟩
/-- a class of the text -/
structure ClsF (K : PySem.W.Frag) (mg : Str → Option Value) (x : Str) (C : Addr) : Prop where
  «at» : mg x = some (.ref C)
  cl : Cls K C
  mks : PySem.W.makesIn K C = true
  kp : PySem.W.keepIn K (.ref C) = true
  ha : PySem.W.findIn K (.ref C) "__class__" = some (some (.builtin "object.__class__"))
  hn : PySem.W.specialIn K (.builtin "object.__class__") "__get__" = some (some (.builtin "getset_descriptor.__get__"))
  ht : PySem.W.takesIn K (.builtin "object.__class__") = some true
  hm : PySem.W.mroIn K C (.type "object") = some true
  ob : PySem.W.subIn K (.ref C) (.type "object") = some true
  ne : PySem.W.findIn K (.ref C) "__ne__" = some (some (.builtin "object.__ne__"))
theorem kit_same {C : Addr} : PySem.W.kitOne K (.ref C) (.ref C) = some true := by
  unfold PySem.W.kitOne
  rw [if_pos (by simp)]
theorem v_isiC {mg : Str → Option Value} {x : Str} {a C dx : Addr} {fs : List (Str × V)} (F : ClsF K mg x C) (h : H a = some (.ins C dx fs)) (q : Q (.bl true) H) : rIsi K [.ref a, .ref C] H Q :=
  ⟨.ref a, .ref C, .ref C, .ref C, true, rfl, .own C, .base (.ins h F.cl F.ha F.hn F.ht F.hm), kit_same, q⟩
theorem v_isiL {p t : Addr} {xs : List V} (h : H p = some (.lst xs)) (ht : H t = some (.tup [.ty "list", .ty "tuple"])) (q : Q (.bl true) H) : rIsiT K [.ref p, .ref t] H Q :=
  ⟨.ref p, t, _, .type "list", [.type "list", .type "tuple"], true, rfl, ht, .cons (.ty _) (.cons (.ty _) .nil), .base (.lst h), kitAny_cons (b := true) (kit_ty (by decide +kernel)) (fun z => nomatch z) (fun _ => rfl), q⟩
end
def rTuple (K : PySem.W.Frag) : List V → Hp → VK → Prop := fun xs H Q => ∃ p ys, xs = [.ref p] ∧ ((SqL K H p ys ∧ ∀ l, H l = none → Q (.ref l) (upd H l (.tup ys))) ∨ (SqT K H p ys ∧ Q (.ref p) H))
theorem c_tuple {X : Cx} : CallR X (.type "tuple") (rTuple X.K) := call_tuple_of
theorem v_tuple {K : PySem.W.Frag} {H : Hp} {Q : VK} {p : Addr} {ys : List V} (h : H p = some (.lst ys)) (q : ∀ l H', H l = none → Same H H' → H' l = some (.tup ys) → Q (.ref l) H') : rTuple K [.ref p] H Q :=
  ⟨p, ys, rfl, .inl ⟨SqL.of h, fun l hl => q l _ hl (Same.new hl) upd_same⟩⟩
def rList (K : PySem.W.Frag) : List V → Hp → VK → Prop := fun xs H Q => ∃ p ys, xs = [.ref p] ∧ (SqL K H p ys ∨ SqT K H p ys) ∧ ∀ l, H l = none → Q (.ref l) (upd H l (.lst ys))
theorem c_list {X : Cx} : CallR X (.type "list") (rList X.K) := call_list_of
theorem v_list {K : PySem.W.Frag} {H : Hp} {Q : VK} {p : Addr} {ys : List V} (h : SqL K H p ys) (q : ∀ l H', H l = none → Same H H' → H' l = some (.lst ys) → Q (.ref l) H') : rList K [.ref p] H Q :=
  ⟨p, ys, rfl, .inl h, fun l hl => q l _ hl (Same.new hl) upd_same⟩
section
variable {σ : L2.St} {H : Hp} {Q : VK} {K : PySem.W.Frag}
theorem e_bm {T : String} {r : V → List V → Hp → VK → Prop} {to : TE} {t : TA} (q : to σ H fun x H1 => tyV K T x H1 ∧ t σ H1 fun xs H2 => r x xs H2 Q) : tBM K T r to t σ H Q := q
theorem e_bm0 {T : String} {r : V → List V → Hp → VK → Prop} {to : TE} (q : to σ H fun x H1 => tyV K T x H1 ∧ r x [] H1 Q) : tBM0 K T r to σ H Q := q
theorem v_tyL {P : Prop} {p : Addr} {xs : List V} (h : H p = some (.lst xs)) (q : P) : tyV K "list" (.ref p) H ∧ P := ⟨.inl ⟨rfl, _, SqL.of h⟩, q⟩
theorem v_app {p : Addr} {xs : List V} {y : V} (h : H p = some (.lst xs)) (hl : xs.length < 1000000) (q : ∀ H', Keep p H H' → H' p = some (.lst (xs ++ [y])) → Q .non H') : rAppend (.ref p) [y] H Q :=
  ⟨p, xs, y, rfl, rfl, h, szlt hl, q _ Keep.put upd_same⟩
end
/-! ### rules with the written part named (in a comprehension's block too) -/
section
variable {X : Cx} {K : PySem.W.Frag}
theorem op_inLK (h : X.K = K) : OpR X (compareOp .In) (rIn K false) := h ▸ op_in_seq
theorem op_notInLK (h : X.K = K) : OpR X (compareOp .NotIn) (rIn K true) := h ▸ op_notIn_seq
theorem ix_LK (h : X.K = K) : IxR X (rIxL K) := h ▸ ix_list
theorem ix_TK (h : X.K = K) : IxR X (rIxT K) := h ▸ ix_tup
theorem pe_flK {e : Expr} {f : Str} {pos : PySem.Pos} {ta : TE} (h : X.K = K) (he : PE X e ta) (hb : attributeBase e f X.env (eval e X.env) = eval e X.env) : PE X (.Attribute e f pos) (tFld K ta f) := h ▸ pe_fld he hb
theorem ps_flK {o value : Expr} {f : Str} {pos pos' : PySem.Pos} {ta tv : TE} (h : X.K = K) (ha : PE X o ta) (hv : PE X value tv) (hs : swapsWith value (some (.Attribute o f pos')) pos.line X.env = pure false) : PS X (.Assign [.Attribute o f pos'] value pos) (sFld K ta tv f) := h ▸ ps_fld ha hv hs
theorem pe_joinK {o e : Expr} {to te : TE} {apos pos : PySem.Pos} (h : X.K = K) (ho : PE X o to) (he : PE X e te) (hs : starEach [e] X.env = [(false, eval e X.env)] := by rfl) (hbase : attributeBase o "join" X.env (eval o X.env) = eval o X.env := by rfl) (hline : (apos.endLine == pos.line) = true := by rfl) :
    PE X (.Call (.Attribute o "join" apos) [e] [] pos) (tM1 (rJoinT K) to te) := h ▸ pe_joinT ho he hs hbase hline
theorem c_lenK (h : X.K = K) : CallR X (.builtin "len") (rLen K) := h ▸ c_len
theorem c_isiK (h : X.K = K) : CallR X (.builtin "isinstance") (rIsi K) := h ▸ call_isi
theorem c_isiTK (h : X.K = K) : CallR X (.builtin "isinstance") (rIsiT K) := h ▸ call_isiT
theorem c_listK (h : X.K = K) : CallR X (.type "list") (rList K) := h ▸ c_list
theorem c_tupleK (h : X.K = K) : CallR X (.type "tuple") (rTuple K) := h ▸ c_tuple
theorem c_allK (h : X.K = K) (hc : X.calm = true) : CallR X (.builtin "all") (rAll K) := h ▸ cr_all hc
theorem c_anyK (h : X.K = K) (hc : X.calm = true) : CallR X (.builtin "any") (rAny K) := h ▸ cr_any hc
theorem sl_LK (h : X.K = K) : SlR X (rSlL K) := h ▸ sl_list
theorem op_eqDK (h : X.K = K) (hu : X.A.units + 64 < cLine) : OpR X (compareOp .Eq) (rEqD K) := h ▸ op_eqD hu
theorem op_neDK (h : X.K = K) (hu : X.A.units + 64 < cLine) : OpR X (compareOp .NotEq) (rNeD K) := h ▸ op_neD hu
theorem pi_listK {tg e : Expr} {te : TE} (h : X.K = K) (he : PE X e te) : PI X tg e (iList K te) := h ▸ pi_list he
theorem pi_tupK {tg e : Expr} {te : TE} (h : X.K = K) (he : PE X e te) : PI X tg e (iTup K te) := h ▸ pi_tup he
theorem pe_appK {o e : Expr} {to te : TE} {apos cpos : PySem.Pos} (h : X.K = K) (ho : PE X o to) (he : PE X e te) (hbase : attributeBase o "append" X.env (eval o X.env) = eval o X.env := by rfl)
    (hfew : ((backTo cpos (starEach [e] X.env)).all (fun x => !x.1) && (backToKw cpos (keywordEach [] X.env)).all (fun x => x.1.isSome) && decide ([e].length + ([] : List Keyword).length + (if ([] : List Keyword).isEmpty then 0 else 1) < 30)) = true := by rfl)
    (hline : (apos.endLine == cpos.line) = true := by rfl) (hs : starEach [e] X.env = (false, eval e X.env) :: starEach [] X.env := by rfl) (hplain : (backTo cpos (starEach [] X.env)).any (·.1) = false := by rfl) :
    PE X (.Call (.Attribute o "append" apos) [e] [] cpos) (tBM K "list" rAppend to (tCons te tNil)) := h ▸ pe_bm PySem.F.plainAttrs_list PySem.F.slot_list_append PySem.F.type_list_append mt_append ho (pa_cons he pa_nil hs) hbase hfew hline hs hplain
end
/-- two readings of one walk -/
def iOr (a b : TI) : TI := fun σ H R => a σ H R ∨ b σ H R
theorem pi_or {X : Cx} {tg e : Expr} {a b : TI} (h1 : PI X tg e a) (h2 : PI X tg e b) : PI X tg e (iOr a b) :=
  ⟨fun pos s σ H R I h => h.elim (h1.run pos s σ H R I) (h2.run pos s σ H R I)⟩
def rIsi2 (a b : List V → Hp → VK → Prop) : List V → Hp → VK → Prop := fun xs H Q => a xs H Q ∨ b xs H Q
/-- a list or a tuple, or the empty tuple of the top -/
def SeqO (K : PySem.W.Frag) (H : Hp) (p : Addr) (xs : List V) : Prop := H p = some (.lst xs) ∨ H p = some (.tup xs) ∨ (xs = [] ∧ ∃ o n, K.lookup p = some o ∧ o.cls = .type "tuple" ∧ o.data = .seq #[] n)
section
variable {K : PySem.W.Frag} {H H' : Hp} {p x : Addr} {xs : List V}
theorem SeqO.go (h : SeqO K H p xs) (s : ∀ o, H p = some o → H' p = some o) : SeqO K H' p xs := h.imp (s _) (fun z => z.imp (s _) id)
theorem SeqO.same (h : SeqO K H p xs) (s : Same H H') : SeqO K H' p xs := h.go (s _)
theorem SeqO.keepI {C dx : Addr} {fs : List (Str × V)} (h : SeqO K H p xs) (s : Keep x H H') (hx : H x = some (.ins C dx fs)) : SeqO K H' p xs := by
  rcases h with h | h | h
  · exact .inl (s _ _ h (ne_of h hx (by intro z; cases z)))
  · exact .inr (.inl (s _ _ h (ne_of h hx (by intro z; cases z))))
  · exact .inr (.inr h)
theorem v_isiQ {Q : VK} {t : Addr} (h : SeqO K H p xs) (ht : H t = some (.tup [.ty "list", .ty "tuple"])) (q : Q (.bl true) H) : rIsiT K [.ref p, .ref t] H Q := by
  have key : TyX K H (.ref p) (.type "tuple") → rIsiT K [.ref p, .ref t] H Q := fun ty => ⟨.ref p, t, _, .type "tuple", [.type "list", .type "tuple"], true, rfl, ht, .cons (.ty _) (.cons (.ty _) .nil), ty, kitAny_cons (b := false) (kit_ty (by decide +kernel)) (fun _ => kitAny_cons (b := true) (kit_ty (by decide +kernel)) (fun z => nomatch z) (fun _ => rfl)) (fun z => nomatch z), q⟩
  rcases h with h | h | ⟨_, o, n, h, c, _⟩
  · exact v_isiL h ht q
  · exact key (.base (.tup h))
  · exact key (.kTuple h c)
/-- a for over a list or a tuple -/
theorem e_forSeq {te : TE} {g : TG} {tb : TS} {D : Ends} {σ : L2.St} {H0 : Hp} (hp : SeqO K H0 p xs) (s0 : Same H0 H) (ht : ∀ Q : VK, Q (.ref p) H → te σ H Q) (Pv : Nat → L2.St → Hp → Prop) (h0 : Pv 0 σ H) (hG : ∀ i σ' H', Pv i σ' H' → Same H0 H')
    (hs : ∀ i x σ H H', i < xs.length → Pv i σ H → YAt xs i H x H' → g x σ H' fun σ2 H2 => tb { D with nx := Pv (i + 1), ct := Pv (i + 1), bk := D.nx } σ2 H2) (hd : ∀ σ H, Pv xs.length σ H → D.nx σ H) : tFor (iOr (iList K te) (iTup K te)) g tb D σ H := by
  rcases hp with hp | hp | ⟨rfl, o, n, h, c, e⟩
  · exact Or.inl (ht _ ⟨p, rfl, ⟨xs, SqL.of (s0 _ _ hp)⟩, for_it walk_list Pv h0 (fun i σ' H' _ z => SqL.of (hG i σ' H' z _ _ hp)) hs hd⟩)
  · exact Or.inr (ht _ ⟨p, rfl, ⟨xs, SqT.of (s0 _ _ hp)⟩, for_it walk_tup Pv h0 (fun i σ' H' _ z => SqT.of (hG i σ' H' z _ _ hp)) hs hd⟩)
  · have k : ∀ H', SqT K H' p [] := fun H' => .inr ⟨o, #[], n, h, c, e, by decide, .nil⟩
    exact Or.inr (ht _ ⟨p, rfl, ⟨[], k _⟩, for_it walk_tup Pv h0 (fun i σ' H' _ z => k _) hs hd⟩)
end
theorem DPut.cross {H : Hp} {a : Addr} {kvs : List (Key × V)} {l : List Nat} {v : V} (e : H a = some (.dK kvs)) (hn : valV kvs (Sum.inr (tx l)) = none) (hl : kvs.length < 1000000) : DPut H a (.str (tx l)) v (upd H a (.dK (kvs ++ [(Sum.inr (tx l), v)]))) := by
  have h := DPut.k (k := Sum.inr (tx l)) (v := v) e (szlt hl)
  rw [putK_new v hn] at h
  exact h
theorem key_tx {a b : List Nat} : (Sum.inr (tx a) : Key) = Sum.inr (tx b) ↔ a = b := by
  constructor
  · intro h
    injection h with h
    exact tx_inj.mp h
  · intro h
    rw [h]
/-- a dict by letters -/
theorem letV_none {g : Nat → V} {k : Nat} : ∀ {l : List Nat}, ¬ k ∈ l → valV (l.map fun c => ((Sum.inr (tx [c]) : Key), g c)) (Sum.inr (tx [k])) = none
  | [], _ => rfl
  | c :: r, h => by
    rw [List.map_cons, valV_neg, letV_none fun z => h (List.mem_cons_of_mem _ z)]
    intro e
    have := key_tx.mp e
    injection this with e _
    exact h (e ▸ List.mem_cons_self ..)
theorem letV_some {g : Nat → V} {k : Nat} : ∀ {l : List Nat}, k ∈ l → valV (l.map fun c => ((Sum.inr (tx [c]) : Key), g c)) (Sum.inr (tx [k])) = some (g k)
  | [], h => by cases h
  | c :: r, h => by
    by_cases e : c = k
    · subst e
      rw [List.map_cons, valV_pos rfl]
    · rw [List.map_cons, valV_neg, letV_some ((List.mem_cons.mp h).resolve_left fun z => e z.symm)]
      intro z
      have := key_tx.mp z
      injection this with z _
      exact e z
theorem dget_let {H : Hp} {d : Addr} {g : Nat → V} {k : Nat} {l : List Nat} (h : H d = some (.dK (l.map fun c => ((Sum.inr (tx [c]) : Key), g c)))) (hk : k ∈ l) : DGet H d (.str (tx [k])) (some (g k)) := by
  have e := DGet.k (k := Sum.inr (tx [k])) h
  rw [letV_some hk] at e
  exact e
theorem take_notin {l : List Nat} (h : l.Nodup) {i : Nat} (hi : i < l.length) : ¬ l.getD i 0 ∈ l.take i := by
  intro m
  obtain ⟨j, hj, e⟩ := List.mem_iff_getElem.mp m
  rw [List.length_take] at hj
  rw [List.getElem_take, List.getD_eq_getElem?_getD, List.getElem?_eq_getElem hi] at e
  have := (List.getElem_inj h).mp e
  omega
end Cw
set_option Elab.async false
set_option linter.all false
set_option maxRecDepth 100000
set_option maxHeartbeats 4000000
/-! the same steps, what is to be found asked behind the match -/
namespace Cw
open PySem PySem.Spec L2
section
variable {σ : St} {H : Hp} {Q : VK} {i : Nat} {y : V} {K : PySem.W.Frag}
theorem e_varG (q : ∃ v, σ[i]? = some (some v) ∧ Q v H) : tVar i σ H Q := q
theorem v_lenG {p : Addr} (q : ∃ ys, H p = some (.lst ys) ∧ Q (.int (ys.length : Nat)) H) : rLen K [.ref p] H Q := by
  obtain ⟨ys, h, q⟩ := q
  exact v_len h q
theorem v_inLG {x : List Nat} {p : Addr} (q : ∃ ls : List (List Nat), H p = some (.lst (ls.map fun l => V.str (tx l))) ∧ Q (.bl (decide (x ∈ ls))) H) : rIn K false (.str (tx x)) (.ref p) H Q := by
  obtain ⟨ys, h, q⟩ := q
  exact v_inL h q
theorem v_lenSetG {P : Program} {w : World} {p : Addr} (q : ∃ l : List Str, H p = some (SetT P w p l) ∧ Q (.int (l.length : Nat)) H) : rLenSet P w [.ref p] H Q := by
  obtain ⟨ys, h, q⟩ := q
  exact v_lenSet h q
theorem v_tyLG {P : Prop} {p : Addr} (q : ∃ xs, H p = some (.lst xs) ∧ P) : tyV K "list" (.ref p) H ∧ P := by
  obtain ⟨ys, h, q⟩ := q
  exact v_tyL h q
theorem v_iLG {P : Addr → Prop} {a : Addr} (q : ∃ xs, H a = some (.lst xs) ∧ P a) : ∃ a', V.ref a = .ref a' ∧ (∃ xs, SqL K H a' xs) ∧ P a' := by
  obtain ⟨ys, h, q⟩ := q
  exact v_iL h q
theorem v_dgetG {P : V → Prop} {a : Addr} (q : ∃ v, DGet H a y (some v) ∧ P v) : ∃ a' v, V.ref a = .ref a' ∧ DGet H a' y (some v) ∧ P v := by
  obtain ⟨v, h, q⟩ := q
  exact v_dget h q
end
end Cw
set_option Elab.async false
set_option linter.all false
set_option maxRecDepth 100000
set_option maxHeartbeats 4000000
namespace Cw
open PySem PySem.Spec L2
def top (i : Nat) : Stmt := PySem.Challenge.pw_crosswalls_k19_whole_gates.main.body.getD i (.Pass ⟨0, 0, 0, 0⟩)
local macro_rules | `(tactic| walk_at "side") => `(tactic| first | omega | assumption | (dsimp only; omega) | (unfold CMul; omega) | exact ⟨by decide, by decide, by decide⟩ | exact wdiv (by first | assumption | decide | omega) (by first | assumption | decide | omega) | (simp only [List.length_cons, List.length_nil]; omega) | rfl)
local macro_rules | `(tactic| walk_at "hl") => `(tactic| first | assumption | exact upd_same | ((refine Cw.Same.at (by assumption) ?_); walk_at "hl") | ((refine Cw.Keep.at (by assumption) ?_ (by assumption)); walk_at "hl"))
local macro_rules | `(tactic| walk_at "st") => `(tactic| first
  | (with_reducible refine s_seq ?_) | (with_reducible refine g_nm ?_) | (with_reducible refine s_next ?_) | (with_reducible refine s_set ?_) | (with_reducible refine s_drop ?_) | (with_reducible refine s_ret ?_) | (with_reducible refine s_if ?_)
  | ((with_reducible refine e_varG ?_); refine ⟨_, (by with_unfolding_all rfl), ?_⟩) | (with_reducible refine e_c ?_) | (with_reducible refine e_op ?_) | (with_reducible refine e_un ?_)
  | (with_reducible refine e_cons ?_) | (with_reducible refine e_nil ?_) | (with_reducible refine e_cb ?_) | (with_reducible refine e_call ?_) | (with_reducible refine e_md ?_)
  | (with_reducible refine t_test ?_) | (with_reducible refine t_B ?_) | (with_reducible refine t_and ?_) | (with_reducible refine t_or ?_) | (with_reducible refine t_not ?_)
  | (with_reducible refine e_andV ?_) | (with_reducible refine e_orV ?_) | (with_reducible refine e_notV ?_) | (with_reducible refine e_if ?_)
  | (with_reducible refine v_I0 ?_) | ((with_reducible refine v_I ?c ?_); try (case c => walk_at "side")) | (with_reducible refine v_bl ?_)
  | ((with_reducible refine v_eq ?c ?_); (case c => with_unfolding_all rfl)) | ((with_reducible refine v_ne ?c ?_); (case c => with_unfolding_all rfl))
  | (with_reducible refine v_inti ?_) | (with_reducible refine v_intb ?_) | ((with_reducible refine v_lenG ?_); refine ⟨_, (by walk_at "hl"), ?_⟩)
  | ((with_reducible refine v_lenS ?c ?_); try (case c => walk_at "side"))
  | (with_reducible refine e_dnew ?_) | (with_reducible refine e_dget ?_) | (with_reducible refine s_dput ?_) | (with_reducible refine e_lst ?_) | (with_reducible refine e_tup ?_)
  | ((with_reducible refine v_lst ?c ?_); (case c => walk_at "side")) | ((with_reducible refine v_tup ?c ?_); (case c => walk_at "side"))
  | ((with_reducible refine v_dgetG ?_); refine ⟨_, (by assumption), ?_⟩)
  | (with_reducible refine e_sl ?_) | (with_reducible refine e_nopart ?_) | (with_reducible refine e_part ?_) | (with_reducible refine e_m1 ?_) | (with_reducible refine v_isS ?_) | (with_reducible refine v_int ?_)
  | (with_reducible refine e_lc ?_) | (with_reducible refine e_iStr ?_) | (with_reducible refine e_iEnumS ?_) | (with_reducible refine v_iEnumS ?_) | (with_reducible refine v_str ?_) | (with_reducible refine e_yes ?_) | (with_reducible refine e_fld ?_) | (with_reducible refine e_sfld ?_)
  | ((with_reducible refine v_addS ?c ?_); try (case c => walk_at "side")) | (with_reducible refine v_inS ?_) | (with_reducible refine v_notInS ?_) | (with_reducible refine v_ltS ?_)
  | ((with_reducible refine v_inLG ?_); refine ⟨_, (by walk_at "hl"), ?_⟩) | (with_reducible refine v_isiS ?_) | (with_reducible refine e_revS ?_) | ((with_reducible refine v_revS ?c ?_); try (case c => walk_at "side"))
  | ((with_reducible refine v_lenSetG ?_); refine ⟨_, (by walk_at "hl"), ?_⟩)
  | (with_reducible refine e_bm ?_) | (with_reducible refine e_bm0 ?_) | ((with_reducible refine v_tyLG ?_); refine ⟨_, (by walk_at "hl"), ?_⟩)
  | (with_reducible refine iteNT ?_) | (with_reducible refine iteNF ?_) | (with_reducible refine e_for ?_)
  | (with_reducible refine e_iL ?_) | (with_reducible refine e_iT ?_) | ((with_reducible refine v_iLG ?_); refine ⟨_, (by walk_at "hl"), ?_⟩) | (with_reducible refine e_iR1 ?_) | ((with_reducible refine v_iR1 ?c1 ?c2 ?_); try (case c1 => walk_at "side"); try (case c2 => walk_at "side"))
  | (with_reducible refine e_iR2 ?_) | ((with_reducible refine v_iR2 ?c1 ?_); try (case c1 => walk_at "side"))
  | (with_reducible refine e_pr0 ?_) | (with_reducible refine e_pr ?_) | (with_reducible refine e_disp ?_) | (with_reducible refine s_asgT ?_) | (with_reducible refine e_tryA ?_) | (with_reducible refine e_callS ?_) | (with_reducible refine e_mdS ?_) | (with_reducible refine e_par ?_) | (with_reducible refine v_par ?_) | (with_reducible refine e_par3 ?_) | (with_reducible refine v_par3 ?_) | (with_reducible refine e_iK ?_) | (with_reducible refine e_dnotin ?_)
  | (with_reducible refine iteT ?_) | (with_reducible refine iteF ?_))
local macro_rules | `(tactic| walk_at "go") => `(tactic| repeat walk_at "st")
/-! ### the pen -/
def penL (cl : Addr) (a r : Int) : List (Key × V) := [(Sum.inr "cells", .ref cl), (Sum.inr "place", .int a), (Sum.inr "rest", .int r)]
structure Pen where
  p : Addr
  cl : Addr
  cells : List Int
structure PenAt (g : Pen) (H : Hp) (n : Nat) : Prop where
  ex : ∃ (a r : Int), H g.p = some (.dK (penL g.cl a r)) ∧ H g.cl = some (.lst (g.cells.map V.int)) ∧ g.cells.length ≤ 63 ∧ 0 ≤ a ∧ a ≤ n ∧ 0 ≤ r
section
variable {g : Pen} {H H' : Hp} {n m : Nat} {q : Addr}
theorem PenAt.mono (h : PenAt g H n) (l : n ≤ m) : PenAt g H m := by
  obtain ⟨a, r, h1, h2, h3, h4, h5, h6⟩ := h.ex
  exact ⟨a, r, h1, h2, h3, h4, by omega, h6⟩
theorem PenAt.same (h : PenAt g H n) (s : Same H H') : PenAt g H' n := by
  obtain ⟨a, r, h1, h2, h3, h4, h5, h6⟩ := h.ex
  exact ⟨a, r, s _ _ h1, s _ _ h2, h3, h4, h5, h6⟩
theorem PenAt.keep (h : PenAt g H n) (s : Keep q H H') (n1 : g.p ≠ q) (n2 : g.cl ≠ q) : PenAt g H' n := by
  obtain ⟨a, r, h1, h2, h3, h4, h5, h6⟩ := h.ex
  exact ⟨a, r, s _ _ h1 n1, s _ _ h2 n2, h3, h4, h5, h6⟩
theorem PenAt.p_ne (h : PenAt g H n) (s : H q = none) : g.p ≠ q := by
  obtain ⟨a, r, h1, h2, h3, h4, h5, h6⟩ := h.ex
  exact ne_of_none h1 s
theorem PenAt.cl_ne (h : PenAt g H n) (s : H q = none) : g.cl ≠ q := by
  obtain ⟨a, r, h1, h2, h3, h4, h5, h6⟩ := h.ex
  exact ne_of_none h2 s
end
theorem kcp : ¬ ((Sum.inr ("cells" : Str) : Key) = Sum.inr ("place" : Str)) := by decide +kernel
theorem kcr : ¬ ((Sum.inr ("cells" : Str) : Key) = Sum.inr ("rest" : Str)) := by decide +kernel
theorem kpr : ¬ ((Sum.inr ("place" : Str) : Key) = Sum.inr ("rest" : Str)) := by decide +kernel
section
variable {H : Hp} {p cl : Addr} {a r z : Int}
theorem pen_cells (h : H p = some (.dK (penL cl a r))) : DGet H p (.str "cells") (some (.ref cl)) := by
  have e := DGet.k (k := Sum.inr "cells") h
  rw [penL, valV_pos rfl] at e
  exact e
theorem pen_place (h : H p = some (.dK (penL cl a r))) : DGet H p (.str "place") (some (.int a)) := by
  have e := DGet.k (k := Sum.inr "place") h
  rw [penL, valV_neg kcp, valV_pos rfl] at e
  exact e
theorem pen_rest (h : H p = some (.dK (penL cl a r))) : DGet H p (.str "rest") (some (.int r)) := by
  have e := DGet.k (k := Sum.inr "rest") h
  rw [penL, valV_neg kcr, valV_neg kpr, valV_pos rfl] at e
  exact e
theorem put_place : putK (penL cl a r) (Sum.inr "place") (.int z) = penL cl z r := by
  unfold putK penL
  rw [if_pos (by rw [valV_any]; first | (rw [valV_neg kcp, valV_pos rfl] <;> rfl) | (rw [valV_neg kcr, valV_neg kpr, valV_pos rfl] <;> rfl))]
  show [(if _ then _ else _), (if _ then _ else _), (if _ then _ else _)] = _
  rw [if_neg kcp, if_pos rfl, if_neg (fun e => kpr e.symm)]
theorem put_rest : putK (penL cl a r) (Sum.inr "rest") (.int z) = penL cl a z := by
  unfold putK penL
  rw [if_pos (by rw [valV_any]; first | (rw [valV_neg kcp, valV_pos rfl] <;> rfl) | (rw [valV_neg kcr, valV_neg kpr, valV_pos rfl] <;> rfl))]
  show [(if _ then _ else _), (if _ then _ else _), (if _ then _ else _)] = _
  rw [if_neg kcr, if_neg kpr, if_pos rfl]
theorem pen_setPlace (h : H p = some (.dK (penL cl a r))) : DPut H p (.str "place") (.int z) (upd H p (.dK (penL cl z r))) := by
  have e := DPut.k (k := Sum.inr "place") (v := .int z) h (by show 3 < sizeLine; decide)
  rw [put_place] at e
  exact e
theorem pen_setRest (h : H p = some (.dK (penL cl a r))) : DPut H p (.str "rest") (.int z) (upd H p (.dK (penL cl a z))) := by
  have e := DPut.k (k := Sum.inr "rest") (v := .int z) h (by show 3 < sizeLine; decide)
  rw [put_rest] at e
  exact e
end
/-! ### the module's built-in names -/
structure Txt (K : PySem.W.Frag) (mg : Str → Option Value) : Prop where
  len : mg "len" = none
  int : mg "int" = none
  list : mg "list" = none
def spDraw : Sp := fun vs H Q _ => ∃ (g : Pen) (m : Int) (n : Nat), vs = [.ref g.p, .int m] ∧ 0 < m ∧ m < 1000000 ∧ PenAt g H n ∧ n < 1000000 ∧
  ∀ (z : Int) (H' : Hp), 0 ≤ z → z < m → PenAt g H' (n + 1) → Keep g.p H H' → Q (.int z) H'
section
variable {P : Program} {w : World} {K : PySem.W.Frag} {mg : Str → Option Value} {base : Heap}
abbrev stdraw : Stmt := (top 47)
abbrev Ndraw : List Str := ["_law_pen_here", "_law_number", "_law_digit", "_law_at", "_law_cell", "_law_mixed"]
theorem scdraw : FnScope Ndraw ["_law_pen_here", "_law_number"] (defScope stdraw) := ⟨rfl, rfl, rfl, by decide +kernel, rfl, by decide +kernel, by decide +kernel⟩

theorem ok_draw (F : FnAt K mg "_law_draw" stdraw) (T : Txt K mg) : Def P w K mg base CX0 1 "_law_draw" ["_law_pen_here", "_law_number"] spDraw := by
  refine F.ok scdraw (fun _ _ _ _ _ _ us hl => match us, hl with | [_, _], _ => rfl) (fun vs H Q E h => ?_) (fun f cdv A outer s H vs Q E hr h => ?_)
  · obtain ⟨p, m, n, rfl, _⟩ := h
    rfl
  obtain ⟨⟨p, cl, cells⟩, m, n, rfl, hm0, hm1, hp, hn, k⟩ := h
  have hu := hu_of hr
  have nd := scdraw.nd
  refine ⟨_, (pss_cons (ps_if (pt_cmpR op_ge (pe_dget hu (pv 0) pe_str (fun _ _ => rfl)) (pv 1) (nomark _))
      (pss_cons (ps_set (i := 2) nd rfl (Or.inl rfl) (pe_op op_mod (pe_callTy c_int (by rfl) T.int (by decide +kernel) (pa_cons (pe_dget hu (pv 0) pe_str (fun _ _ => rfl)) pa_nil)) (pv 1)))
        (pss_cons (ps_dput hu (pv 0) pe_str (pe_op op_fdivW (pe_dget hu (pv 0) pe_str (fun _ _ => rfl)) (pv 1)) rfl)
        (pss_one (ps_ret (pv 2)))))
      pss_nil)
      (pss_cons (ps_set (i := 3) nd rfl (Or.inl rfl) (pe_dget hu (pv 0) pe_str (fun _ _ => rfl)))
      (pss_cons (ps_dput hu (pv 0) pe_str (pe_op op_add (pv 3) pe_int) rfl)
      (pss_cons (ps_set (i := 4) nd rfl (Or.inl rfl) (pe_op op_add (pe_op op_mul pe_int (pv 3)) pe_int))
      (pss_cutS (ps_if (pt_cmpR (op_neDK (K := K) rfl hr.units) (pe_dget hu (pv 0) pe_str (fun _ _ => rfl)) (pe_lst pa_nil) (nomark _))
      (pss_one (ps_set (i := 4) nd rfl (Or.inl rfl) (pe_ix (ix_LK (K := K) rfl) (pe_dget hu (pv 0) pe_str (fun _ _ => rfl)) (pe_op op_mod (pe_callTy c_int (by rfl) T.int (by decide +kernel) (pa_cons (pv 3) pa_nil)) (pe_callB (c_lenK (K := K) rfl) (by rfl) T.len PySem.boot_len (pa_cons (pe_dget hu (pv 0) pe_str (fun _ _ => rfl)) pa_nil))) (fun _ _ => rfl))))
      pss_nil)
      (pss_cutS (ps_if (PW.pt (pw_and (pt_cmpR op_lt (pv 3) (pe_callB (c_lenK (K := K) rfl) (by rfl) T.len PySem.boot_len (pa_cons (pe_dget hu (pv 0) pe_str (fun _ _ => rfl)) pa_nil)) (nomark _)) (pw_and1 (pt_cmpR op_ge (pv 4) (pe_op op_pow pe_int pe_int) (nomark _)))))
      (pss_cons (ps_dput hu (pv 0) pe_str (pe_op op_fdivW (pe_op op_sub (pv 4) (pe_op op_pow pe_int pe_int)) (pv 1)) rfl)
        (pss_one (ps_ret (pe_op op_mod (pe_callTy c_int (by rfl) T.int (by decide +kernel) (pa_cons (pe_op op_sub (pv 4) (pe_op op_pow pe_int pe_int)) pa_nil)) (pv 1)))))
      pss_nil)
      (pss_cons (ps_set (i := 5) nd rfl (Or.inl rfl) (pe_op op_mod (pe_callTy c_int (by rfl) T.int (by decide +kernel) (pa_cons (pe_op op_add (pe_op op_add (pe_op op_add (pe_op op_mul (pe_op op_mod (pe_callTy c_int (by rfl) T.int (by decide +kernel) (pa_cons (pv 4) pa_nil)) pe_int) pe_int) (pe_op op_mul (pe_op op_mul pe_int (pv 3)) (pv 3))) (pe_op op_mul pe_int (pv 3))) pe_int) pa_nil)) pe_int))
      (pss_cons (ps_set (i := 5) nd rfl (Or.inl rfl) (pe_op op_mod (pe_callTy c_int (by rfl) T.int (by decide +kernel) (pa_cons (pe_op op_add (pe_op op_mul (pv 5) (pe_op op_add (pv 5) pe_int)) (pe_op op_mul pe_int (pv 3))) pa_nil)) pe_int))
      (pss_one (ps_ret (pe_op op_mod (pe_callTy c_int (by rfl) T.int (by decide +kernel) (pa_cons (pe_op op_fdivW (pe_op op_mod (pe_callTy c_int (by rfl) T.int (by decide +kernel) (pa_cons (pe_op op_add (pe_op op_mul (pv 5) (pv 5)) (pe_op op_mul pe_int (pv 5))) pa_nil)) pe_int) pe_int) pa_nil)) (pv 1)))))))))))), ?_⟩
  refine s_start [some _, some _, none, none, none, none] rfl ?_
  obtain ⟨a, r, h1, h2, h3, h4, h5, h6⟩ := hp.ex
  dsimp only at h1 h2 h3 k ⊢
  have g1 := pen_rest h1
  have g2 := pen_place h1
  have g3 := pen_cells h1
  have fin : ∀ (H2 : Hp) (a2 r2 z : Int), H2 p = some (.dK (penL cl a2 r2)) → Keep p H H2 → 0 ≤ a2 → a2 ≤ a + 1 → 0 ≤ r2 → 0 ≤ z → z < m → Q (.int z) H2 := by
    intro H2 a2 r2 z e1 e2 e3 e4 e5 e6 e7
    have ne : cl ≠ p := ne_of h2 h1 (by intro z; cases z)
    exact k z H2 e6 e7 ⟨a2, r2, e1, e2 _ _ h2 ne, h3, e3, by omega, e5⟩ e2
  walk_at "go"
  refine if_dec (fun c => ?_) (fun c => ?_)
  · walk_at "go"
    refine v_put (pen_setRest h1) fun H1 s1 e1 => ?_
    walk_at "go"
    refine fin H1 _ _ _ e1 s1 h4 (by omega) (Int.ediv_nonneg h6 (by omega)) (Int.emod_nonneg _ (by omega)) (Int.emod_lt_of_pos _ hm0)
  · walk_at "go"
    refine v_put (pen_setPlace h1) fun H1 s1 e1 => ?_
    have ne : cl ≠ p := ne_of h2 h1 (by intro z; cases z)
    have h2' := s1 _ _ h2 ne
    have g1 := pen_rest e1
    have g3 := pen_cells e1
    walk_at "go"
    refine s_cut (fun σ' H' => ∃ c : Int, σ' = [some (.ref p), some (.int m), none, some (.int a), some (.int c), none] ∧ Same H1 H') ?_ ?_
    · walk_at "go"
      intro q H2 hq s2 e2
      refine v_neNilI (s2 _ _ h2') e2 ?_
      have g3 := pen_cells (s2 _ _ e1)
      walk_at "go"
      refine if_bool (fun c => ?_) (fun c => ?_)
      · have hne : 0 < cells.length := by
          cases cells with
          | nil => simp at c
          | cons _ _ => simp
        walk_at "go"
        · rw [List.length_map]; omega
        walk_at "go"
        rw [List.length_map]
        have hz0 : 0 ≤ a % (cells.length : Int) := Int.emod_nonneg _ (by omega)
        have hz1 : a % (cells.length : Int) < cells.length := Int.emod_lt_of_pos _ (by omega)
        have hlt : (a % (cells.length : Int)).toNat < cells.length := by omega
        refine v_ixL (s2 _ _ h2') (at_of (j := (a % (cells.length : Int)).toNat) (by omega) (by rw [List.getElem?_map, List.getElem?_eq_getElem hlt]; rfl)) ?_
        exact ⟨_, rfl, s2⟩
      · walk_at "go"
        exact ⟨_, rfl, s2⟩
    · rintro σ' H2 ⟨c, rfl, s2⟩
      have e2 := s2 _ _ e1
      have h22 := s2 _ _ h2'
      have g3 := pen_cells e2
      have kk : Keep p H H2 := s1.trans (Keep.of s2)
      have ze : (10 : Int) ^ (18 : Int).toNat = 1000000000000000000 := by decide
      refine s_cut (fun σ' H' => σ' = [some (.ref p), some (.int m), none, some (.int a), some (.int c), none] ∧ H' = H2) ?_ ?_
      · walk_at "go"
        refine if_dec (fun c1 => ?_) (fun c1 => ?_)
        · walk_at "go"
          rw [ze]
          refine if_dec (fun c2 => ?_) (fun c2 => ?_)
          · walk_at "go"
            rw [ze]
            refine v_put (pen_setRest e2) fun H3 s3 e3 => ?_
            walk_at "go"
            rw [ze]
            exact fin H3 _ _ _ e3 (kk.trans s3) (by omega) (by omega) (Int.ediv_nonneg (by omega) (by omega)) (Int.emod_nonneg _ (by omega)) (Int.emod_lt_of_pos _ hm0)
          · walk_at "go"
            exact ⟨rfl, rfl⟩
        · walk_at "go"
          exact ⟨rfl, rfl⟩
      · rintro σ' H' ⟨rfl, rfl⟩
        walk_at "go"
        exact fin H' _ _ _ e2 kk (by omega) (by omega) h6 (Int.emod_nonneg _ (by omega)) (Int.emod_lt_of_pos _ hm0)
end
end Cw
set_option Elab.async false
set_option linter.all false
set_option maxRecDepth 100000
set_option maxHeartbeats 4000000
namespace Cw
open PySem PySem.Spec L2
local macro_rules | `(tactic| walk_at "side") => `(tactic| first | omega | assumption | (dsimp only; omega) | (unfold CMul; omega) | exact ⟨by decide, by decide, by decide⟩ | exact wdiv (by first | assumption | decide | omega) (by first | assumption | decide | omega) | (simp only [List.length_cons, List.length_nil]; omega) | rfl)
local macro_rules | `(tactic| walk_at "hl") => `(tactic| first | assumption | exact upd_same | ((refine Cw.Same.at (by assumption) ?_); walk_at "hl") | ((refine Cw.Keep.at (by assumption) ?_ (by assumption)); walk_at "hl"))
local macro_rules | `(tactic| walk_at "st") => `(tactic| first
  | (with_reducible refine s_seq ?_) | (with_reducible refine g_nm ?_) | (with_reducible refine s_next ?_) | (with_reducible refine s_set ?_) | (with_reducible refine s_drop ?_) | (with_reducible refine s_ret ?_) | (with_reducible refine s_if ?_)
  | ((with_reducible refine e_varG ?_); refine ⟨_, (by with_unfolding_all rfl), ?_⟩) | (with_reducible refine e_c ?_) | (with_reducible refine e_op ?_) | (with_reducible refine e_un ?_)
  | (with_reducible refine e_cons ?_) | (with_reducible refine e_nil ?_) | (with_reducible refine e_cb ?_) | (with_reducible refine e_call ?_) | (with_reducible refine e_md ?_)
  | (with_reducible refine t_test ?_) | (with_reducible refine t_B ?_) | (with_reducible refine t_and ?_) | (with_reducible refine t_or ?_) | (with_reducible refine t_not ?_)
  | (with_reducible refine e_andV ?_) | (with_reducible refine e_orV ?_) | (with_reducible refine e_notV ?_) | (with_reducible refine e_if ?_)
  | (with_reducible refine v_I0 ?_) | ((with_reducible refine v_I ?c ?_); try (case c => walk_at "side")) | (with_reducible refine v_bl ?_)
  | ((with_reducible refine v_eq ?c ?_); (case c => with_unfolding_all rfl)) | ((with_reducible refine v_ne ?c ?_); (case c => with_unfolding_all rfl))
  | (with_reducible refine v_inti ?_) | (with_reducible refine v_intb ?_) | ((with_reducible refine v_lenG ?_); refine ⟨_, (by walk_at "hl"), ?_⟩)
  | ((with_reducible refine v_lenS ?c ?_); try (case c => walk_at "side"))
  | (with_reducible refine e_dnew ?_) | (with_reducible refine e_dget ?_) | (with_reducible refine s_dput ?_) | (with_reducible refine e_lst ?_) | (with_reducible refine e_tup ?_)
  | ((with_reducible refine v_lst ?c ?_); (case c => walk_at "side")) | ((with_reducible refine v_tup ?c ?_); (case c => walk_at "side"))
  | ((with_reducible refine v_dgetG ?_); refine ⟨_, (by assumption), ?_⟩)
  | (with_reducible refine e_sl ?_) | (with_reducible refine e_nopart ?_) | (with_reducible refine e_part ?_) | (with_reducible refine e_m1 ?_) | (with_reducible refine v_isS ?_) | (with_reducible refine v_int ?_)
  | (with_reducible refine e_lc ?_) | (with_reducible refine e_iStr ?_) | (with_reducible refine e_iEnumS ?_) | (with_reducible refine v_iEnumS ?_) | (with_reducible refine v_str ?_) | (with_reducible refine e_yes ?_) | (with_reducible refine e_fld ?_) | (with_reducible refine e_sfld ?_)
  | ((with_reducible refine v_addS ?c ?_); try (case c => walk_at "side")) | (with_reducible refine v_inS ?_) | (with_reducible refine v_notInS ?_) | (with_reducible refine v_ltS ?_)
  | ((with_reducible refine v_inLG ?_); refine ⟨_, (by walk_at "hl"), ?_⟩) | (with_reducible refine v_isiS ?_) | (with_reducible refine e_revS ?_) | ((with_reducible refine v_revS ?c ?_); try (case c => walk_at "side"))
  | ((with_reducible refine v_lenSetG ?_); refine ⟨_, (by walk_at "hl"), ?_⟩)
  | (with_reducible refine e_bm ?_) | (with_reducible refine e_bm0 ?_) | ((with_reducible refine v_tyLG ?_); refine ⟨_, (by walk_at "hl"), ?_⟩)
  | (with_reducible refine iteNT ?_) | (with_reducible refine iteNF ?_) | (with_reducible refine e_for ?_)
  | (with_reducible refine e_iL ?_) | (with_reducible refine e_iT ?_) | ((with_reducible refine v_iLG ?_); refine ⟨_, (by walk_at "hl"), ?_⟩) | (with_reducible refine e_iR1 ?_) | ((with_reducible refine v_iR1 ?c1 ?c2 ?_); try (case c1 => walk_at "side"); try (case c2 => walk_at "side"))
  | (with_reducible refine e_iR2 ?_) | ((with_reducible refine v_iR2 ?c1 ?_); try (case c1 => walk_at "side"))
  | (with_reducible refine e_pr0 ?_) | (with_reducible refine e_pr ?_) | (with_reducible refine e_disp ?_) | (with_reducible refine s_asgT ?_) | (with_reducible refine e_tryA ?_) | (with_reducible refine e_callS ?_) | (with_reducible refine e_mdS ?_) | (with_reducible refine e_par ?_) | (with_reducible refine v_par ?_) | (with_reducible refine e_par3 ?_) | (with_reducible refine v_par3 ?_) | (with_reducible refine e_iK ?_) | (with_reducible refine e_dnotin ?_)
  | (with_reducible refine iteT ?_) | (with_reducible refine iteF ?_))
local macro_rules | `(tactic| walk_at "go") => `(tactic| repeat walk_at "st")
structure TxtP (K : PySem.W.Frag) (mg : Str → Option Value) (C : Addr) : Prop where
  len : mg "len" = none
  int : mg "int" = none
  list : mg "list" = none
  isinstance : mg "isinstance" = none
  str : mg "str" = none
  all : mg "all" = none
  set : mg "set" = none
  tuple : mg "tuple" = none
  g_LETTERS : ∃ t, mg "LETTERS" = some (.str (tx LET) t)
  g_MOST_KINDS : ∃ t, mg "MOST_KINDS" = some (.int 8 t)
  Plan : ClsF K mg "Plan" C
  nK : NoAttr K C "kinds"
  nP : NoAttr K C "pairs"
  nO : NoAttr K C "own_crossing"
def spAreLetters : Sp := fun vs H Q _ => ∃ l : List Nat, vs = [.str (tx l)] ∧ l.length < 1000 ∧ ∀ H', Same H H' → Q (.bl (decide ((∀ c ∈ l, c ∈ LET) ∧ l.Nodup))) H'
def spAscending : Sp := fun vs H Q _ => ∃ l : List Nat, vs = [.str (tx l)] ∧ ∀ H', Same H H' → Q (.str (tx (ascOf l))) H'
def spIsList (K : PySem.W.Frag) : Sp := fun vs H Q _ => ∃ (p : Addr) (xs : List V), vs = [.ref p] ∧ SeqO K H p xs ∧ ∀ H', Same H H' → Q (.bl true) H'
def spNeedFew : Sp := fun vs H Q _ => ∃ l : List Nat, vs = [.str (tx l)] ∧ l.length ≤ 8 ∧ Q .non H
section
variable {P : Program} {w : World} {K : PySem.W.Frag} {mg : Str → Option Value} {base : Heap} {C : Addr}
abbrev stare_letters : Stmt := (top 38)
abbrev Nare_letters : List Str := ["value", "letter"]
theorem scare_letters : FnScope Nare_letters ["value"] (defScope stare_letters) := ⟨rfl, rfl, rfl, by decide +kernel, rfl, by decide +kernel, by decide +kernel⟩

theorem ok_are_letters (F : FnAt K mg "are_letters" stare_letters) (T : TxtP K mg C) : Def P w K mg base CX0 1 "are_letters" ["value"] spAreLetters := by
  refine F.ok scare_letters (fun _ _ _ _ _ _ us hl => match us, hl with | [_], _ => rfl) (fun vs H Q E h => ?_) (fun f cdv A outer s H vs Q E hr h => ?_)
  · obtain ⟨l, rfl, _⟩ := h
    rfl
  obtain ⟨l, rfl, hl, k⟩ := h
  have hu := hu_of hr
  have nd := scare_letters.nd
  refine ⟨_, (pss_one (ps_ret (pe_and (pe_callB (c_isiK (K := K) rfl) (by rfl) T.isinstance (by decide +kernel) (pa_cons (pv 0) (pa_cons (pe_bltn (v := .ty "str") (u := .type "str") (by rfl) T.str (by decide +kernel) rfl) pa_nil))) (pe_and (pe_callB (c_allK (K := K) rfl rfl) (by rfl) T.all (by decide +kernel) (pa_cons (pe_lc (own := [("letter", 1)]) (g := gName 1) (by rfl) nd (pi_str (pv 0)) (blkOk_by (own := [("letter", 1)]) (N := Nare_letters) (sc := defScope stare_letters) (by decide +kernel)) (fun _ _ _ _ _ => (pg_name (i := 1) nd rfl (Or.inl rfl))) (fun _ _ _ _ _ => pts_nil) (fun _ _ _ _ _ => (pe_cmpR op_inS (pv 1) (pe_globS T.g_LETTERS) (by rfl)))) pa_nil)) (pe_one (pe_cmpR op_eq (pe_callB c_lenSet (by rfl) T.len PySem.boot_len (pa_cons (pe_callTy (c_setS rfl) (by rfl) T.set (by decide +kernel) (pa_cons (pv 0) pa_nil)) pa_nil)) (pe_callB c_lenS (by rfl) T.len PySem.boot_len (pa_cons (pv 0) pa_nil)) (nomark _))))))), ?_⟩
  refine s_start [some _, none] rfl ?_
  walk_at "go"
  refine v_lcS (b := fun _ => true) (f := fun c => V.bl (decide (c ∈ LET))) (by omega) (fun c _ H1 s1 R r => ?_) (fun c _ _ H1 s1 R r => ?_) (fun D H1 hD s1 e1 => ?_)
  · walk_at "go"
    exact r H1 (Same.refl _)
  · walk_at "go"
    exact r H1 (Same.refl _)
  walk_at "go"
  have e2 : H1 D = some (.lst ((l.map fun c => decide (c ∈ LET)).map V.bl)) := by
    rw [e1, List.map_map, filter_yes]
    rfl
  refine v_all e2 ?_
  walk_at "go"
  have ha : (l.map fun c => decide (c ∈ LET)).all id = decide (∀ c ∈ l, c ∈ LET) := by
    rw [Bool.eq_iff_iff, List.all_eq_true, decide_eq_true_iff]
    simp
  rw [ha]
  refine if_dec (fun c => ?_) (fun c => ?_)
  · walk_at "go"
    refine v_setS (by omega) fun p H2 hp s2 e2 => ?_
    walk_at "go"
    have e3 : decide (V.int ((metOf (l.map fun c => tx [c])).length : Int) = V.int (l.length : Int)) = decide ((∀ c ∈ l, c ∈ LET) ∧ l.Nodup) := by
      rw [dec_int, Bool.eq_iff_iff, decide_eq_true_iff, beq_iff_eq]
      have := metOf_ones l
      constructor
      · intro e
        exact ⟨c, this.mp (by omega)⟩
      · intro e
        have := this.mpr e.2
        omega
    rw [e3]
    exact k H2 (s1.trans s2)
  · have e3 : decide ((∀ c ∈ l, c ∈ LET) ∧ l.Nodup) = false := decide_eq_false fun z => c z.1
    rw [e3] at k
    exact k H1 s1
abbrev stascending : Stmt := (top 39)
abbrev Nascending : List Str := ["letters", "letter"]
theorem scascending : FnScope Nascending ["letters"] (defScope stascending) := ⟨rfl, rfl, rfl, by decide +kernel, rfl, by decide +kernel, by decide +kernel⟩

theorem ok_ascending (F : FnAt K mg "ascending" stascending) (T : TxtP K mg C) : Def P w K mg base CX0 1 "ascending" ["letters"] spAscending := by
  refine F.ok scascending (fun _ _ _ _ _ _ us hl => match us, hl with | [_], _ => rfl) (fun vs H Q E h => ?_) (fun f cdv A outer s H vs Q E hr h => ?_)
  · obtain ⟨l, rfl, _⟩ := h
    rfl
  obtain ⟨l, rfl, k⟩ := h
  have hu := hu_of hr
  have nd := scascending.nd
  refine ⟨_, (pss_one (ps_ret (pe_joinK (K := K) rfl (pe_tx [] (by decide +kernel)) (pe_lc (own := [("letter", 1)]) (g := gName 1) (by rfl) nd (pi_str (pe_globS T.g_LETTERS)) (blkOk_by (own := [("letter", 1)]) (N := Nascending) (sc := defScope stascending) (by decide +kernel)) (fun _ _ _ _ _ => (pg_name (i := 1) nd rfl (Or.inl rfl))) (fun _ _ _ _ _ => (pts_one (pt_cmpR op_inS (pv 1) (pv 0) (by rfl)))) (fun _ _ _ _ _ => (pv 1)))))), ?_⟩
  refine s_start [some _, none] rfl ?_
  walk_at "go"
  refine v_lcS (l := LET) (b := fun c => decide (c ∈ l)) (f := fun c => V.str (tx [c])) (by decide) (fun c _ H1 s1 R r => ?_) (fun c _ _ H1 s1 R r => ?_) (fun D H1 hD s1 e1 => ?_)
  · walk_at "go"
    exact r H1 (Same.refl _)
  · walk_at "go"
    exact r H1 (Same.refl _)
  walk_at "go"
  rw [strs_ones] at e1
  refine v_join e1 ?_ ?_
  · rw [flat_ones]
    have := ascOf_len l
    unfold ascOf at this
    omega
  · rw [flat_ones]
    exact k H1 s1
abbrev stis_list : Stmt := (top 25)
abbrev Nis_list : List Str := ["value"]
theorem scis_list : FnScope Nis_list ["value"] (defScope stis_list) := ⟨rfl, rfl, rfl, by decide +kernel, rfl, by decide +kernel, by decide +kernel⟩

theorem ok_is_list (F : FnAt K mg "is_list" stis_list) (T : TxtP K mg C) : Def P w K mg base CX0 1 "is_list" ["value"] (spIsList K) := by
  refine F.ok scis_list (fun _ _ _ _ _ _ us hl => match us, hl with | [_], _ => rfl) (fun vs H Q E h => ?_) (fun f cdv A outer s H vs Q E hr h => ?_)
  · obtain ⟨p, xs, rfl, _⟩ := h
    rfl
  obtain ⟨p, xs, rfl, hp, k⟩ := h
  have hu := hu_of hr
  have nd := scis_list.nd
  refine ⟨_, (pss_one (ps_ret (pe_callB (c_isiTK (K := K) rfl) (by rfl) T.isinstance (by decide +kernel) (pa_cons (pv 0) (pa_cons (pe_tup (pa_cons (pe_bltn (v := .ty "list") (u := .type "list") (by rfl) T.list (by decide +kernel) rfl) (pa_cons (pe_bltn (v := .ty "tuple") (u := .type "tuple") (by rfl) T.tuple (by decide +kernel) rfl) pa_nil))) pa_nil))))), ?_⟩
  refine s_start [some _] rfl ?_
  walk_at "go"
  intro t H1 ht s1 e1
  walk_at "go"
  exact v_isiQ (hp.same s1) e1 (k H1 s1)
abbrev stneed_few : Stmt := (top 42)
abbrev Nneed_few : List Str := ["kinds"]
theorem scneed_few : FnScope Nneed_few ["kinds"] (defScope stneed_few) := ⟨rfl, rfl, rfl, by decide +kernel, rfl, by decide +kernel, by decide +kernel⟩

theorem ok_need_few (F : FnAt K mg "need_few" stneed_few) (T : TxtP K mg C) : Def P w K mg base CX0 1 "need_few" ["kinds"] spNeedFew := by
  refine F.ok scneed_few (fun _ _ _ _ _ _ us hl => match us, hl with | [_], _ => rfl) (fun vs H Q E h => ?_) (fun f cdv A outer s H vs Q E hr h => ?_)
  · obtain ⟨l, rfl, _⟩ := h
    rfl
  obtain ⟨l, rfl, hl, k⟩ := h
  have hu := hu_of hr
  have nd := scneed_few.nd
  refine ⟨_, (pss_one (ps_if (pt_cmpR op_gt (pe_callB c_lenS (by rfl) T.len PySem.boot_len (pa_cons (pv 0) pa_nil)) (pe_globI T.g_MOST_KINDS) (nomark _))
      (pss_one ps_never)
      pss_nil)), ?_⟩
  refine s_start [some _] rfl ?_
  walk_at "go"
  refine if_dec (fun c => ?_) (fun c => ?_)
  · omega
  · walk_at "go"
    exact k
end
end Cw
set_option Elab.async false
set_option linter.all false
set_option maxRecDepth 100000
set_option maxHeartbeats 4000000
namespace Cw
open PySem PySem.Spec L2
local macro_rules | `(tactic| walk_at "side") => `(tactic| first | omega | assumption | (dsimp only; omega) | (unfold CMul; omega) | exact ⟨by decide, by decide, by decide⟩ | exact wdiv (by first | assumption | decide | omega) (by first | assumption | decide | omega) | (simp only [List.length_cons, List.length_nil]; omega) | rfl)
local macro_rules | `(tactic| walk_at "hl") => `(tactic| first | assumption | exact upd_same | ((refine Cw.Same.at (by assumption) ?_); walk_at "hl") | ((refine Cw.Keep.at (by assumption) ?_ (by assumption)); walk_at "hl"))
local macro_rules | `(tactic| walk_at "st") => `(tactic| first
  | (with_reducible refine s_seq ?_) | (with_reducible refine g_nm ?_) | (with_reducible refine s_next ?_) | (with_reducible refine s_set ?_) | (with_reducible refine s_drop ?_) | (with_reducible refine s_ret ?_) | (with_reducible refine s_if ?_)
  | ((with_reducible refine e_varG ?_); refine ⟨_, (by with_unfolding_all rfl), ?_⟩) | (with_reducible refine e_c ?_) | (with_reducible refine e_op ?_) | (with_reducible refine e_un ?_)
  | (with_reducible refine e_cons ?_) | (with_reducible refine e_nil ?_) | (with_reducible refine e_cb ?_) | (with_reducible refine e_call ?_) | (with_reducible refine e_md ?_)
  | (with_reducible refine t_test ?_) | (with_reducible refine t_B ?_) | (with_reducible refine t_and ?_) | (with_reducible refine t_or ?_) | (with_reducible refine t_not ?_)
  | (with_reducible refine e_andV ?_) | (with_reducible refine e_orV ?_) | (with_reducible refine e_notV ?_) | (with_reducible refine e_if ?_)
  | (with_reducible refine v_I0 ?_) | ((with_reducible refine v_I ?c ?_); try (case c => walk_at "side")) | (with_reducible refine v_bl ?_)
  | ((with_reducible refine v_eq ?c ?_); (case c => with_unfolding_all rfl)) | ((with_reducible refine v_ne ?c ?_); (case c => with_unfolding_all rfl))
  | (with_reducible refine v_inti ?_) | (with_reducible refine v_intb ?_) | ((with_reducible refine v_lenG ?_); refine ⟨_, (by walk_at "hl"), ?_⟩)
  | ((with_reducible refine v_lenS ?c ?_); try (case c => walk_at "side"))
  | (with_reducible refine e_dnew ?_) | (with_reducible refine e_dget ?_) | (with_reducible refine s_dput ?_) | (with_reducible refine e_lst ?_) | (with_reducible refine e_tup ?_)
  | ((with_reducible refine v_lst ?c ?_); (case c => walk_at "side")) | ((with_reducible refine v_tup ?c ?_); (case c => walk_at "side"))
  | ((with_reducible refine v_dgetG ?_); refine ⟨_, (by assumption), ?_⟩)
  | (with_reducible refine e_sl ?_) | (with_reducible refine e_nopart ?_) | (with_reducible refine e_part ?_) | (with_reducible refine e_m1 ?_) | (with_reducible refine v_isS ?_) | (with_reducible refine v_int ?_)
  | (with_reducible refine e_lc ?_) | (with_reducible refine e_iStr ?_) | (with_reducible refine e_iEnumS ?_) | (with_reducible refine v_iEnumS ?_) | (with_reducible refine v_str ?_) | (with_reducible refine e_yes ?_) | (with_reducible refine e_fld ?_) | (with_reducible refine e_sfld ?_)
  | ((with_reducible refine v_addS ?c ?_); try (case c => walk_at "side")) | (with_reducible refine v_inS ?_) | (with_reducible refine v_notInS ?_) | (with_reducible refine v_ltS ?_)
  | ((with_reducible refine v_inLG ?_); refine ⟨_, (by walk_at "hl"), ?_⟩) | (with_reducible refine v_isiS ?_) | (with_reducible refine e_revS ?_) | ((with_reducible refine v_revS ?c ?_); try (case c => walk_at "side"))
  | ((with_reducible refine v_lenSetG ?_); refine ⟨_, (by walk_at "hl"), ?_⟩)
  | (with_reducible refine e_bm ?_) | (with_reducible refine e_bm0 ?_) | ((with_reducible refine v_tyLG ?_); refine ⟨_, (by walk_at "hl"), ?_⟩)
  | (with_reducible refine iteNT ?_) | (with_reducible refine iteNF ?_) | (with_reducible refine e_for ?_)
  | (with_reducible refine e_iL ?_) | (with_reducible refine e_iT ?_) | ((with_reducible refine v_iLG ?_); refine ⟨_, (by walk_at "hl"), ?_⟩) | (with_reducible refine e_iR1 ?_) | ((with_reducible refine v_iR1 ?c1 ?c2 ?_); try (case c1 => walk_at "side"); try (case c2 => walk_at "side"))
  | (with_reducible refine e_iR2 ?_) | ((with_reducible refine v_iR2 ?c1 ?_); try (case c1 => walk_at "side"))
  | (with_reducible refine e_pr0 ?_) | (with_reducible refine e_pr ?_) | (with_reducible refine e_disp ?_) | (with_reducible refine s_asgT ?_) | (with_reducible refine e_tryA ?_) | (with_reducible refine e_callS ?_) | (with_reducible refine e_mdS ?_) | (with_reducible refine e_par ?_) | (with_reducible refine v_par ?_) | (with_reducible refine e_par3 ?_) | (with_reducible refine v_par3 ?_) | (with_reducible refine e_iK ?_) | (with_reducible refine e_dnotin ?_)
  | (with_reducible refine iteT ?_) | (with_reducible refine iteF ?_))
local macro_rules | `(tactic| walk_at "go") => `(tactic| repeat walk_at "st")
def spChecked (K : PySem.W.Frag) : Sp := fun vs H Q _ => ∃ (ks : List Nat) (p : Addr) (ps : List (List Nat)), vs = [.str (tx ks), .ref p] ∧ SeqO K H p (strsV ps) ∧ ps.length < 1000 ∧ PairsIn ks ps ∧ (∀ c ∈ ks, c ∈ LET) ∧
  ∀ t H', H t = none → Same H H' → H' t = some (.tup (strsV (pairsOf (ps.map ascOf)))) → Q (.ref t) H'
def spCross : Sp := fun vs H Q _ => ∃ (ks : List Nat) (t : Addr) (ps : List (List Nat)), vs = [.str (tx ks), .ref t] ∧ H t = some (.tup (strsV ps)) ∧ ks.length < 1000 ∧ ks.Nodup ∧
  ∀ d H', H d = none → Same H H' → H' d = some (.dK (crossKV ks ps ks)) → Q (.ref d) H'
section
variable {P : Program} {w : World} {K : PySem.W.Frag} {mg : Str → Option Value} {base : Heap} {C : Addr}
abbrev stchecked_pairs : Stmt := (top 40)
abbrev Nchecked_pairs : List Str := ["kinds", "crossing", "found", "pair", "a", "b"]
theorem scchecked_pairs : FnScope Nchecked_pairs ["kinds", "crossing"] (defScope stchecked_pairs) := ⟨rfl, rfl, rfl, by decide +kernel, rfl, by decide +kernel, by decide +kernel⟩

theorem ok_checked_pairs (F : FnAt K mg "checked_pairs" stchecked_pairs) (T : TxtP K mg C) (D_is_list : Def P w K mg base CX0 1 "is_list" ["value"] (spIsList K)) (D_are_letters : Def P w K mg base CX0 1 "are_letters" ["value"] spAreLetters) (D_ascending : Def P w K mg base CX0 1 "ascending" ["letters"] spAscending) :
    Def P w K mg base CX0 2 "checked_pairs" ["kinds", "crossing"] (spChecked K) := by
  refine F.ok scchecked_pairs (fun _ _ _ _ _ _ us hl => match us, hl with | [_, _], _ => rfl) (fun vs H Q E h => ?_) (fun f cdv A outer s H vs Q E hr h => ?_)
  · obtain ⟨ks, p, ps, rfl, _⟩ := h
    rfl
  obtain ⟨ks, p, ps, rfl, hp, hl, hps, hks, k⟩ := h
  have hu := hu_of hr
  have nd := scchecked_pairs.nd
  refine ⟨_, (pss_cons (ps_if (pt_not (pt_val (pe_cd D_is_list hr pass0 (pa_cons (pv 1) pa_nil))))
      (pss_one ps_never)
      pss_nil)
      (pss_cons (ps_set (i := 2) nd rfl (Or.inr rfl) (pe_lst pa_nil))
      (pss_cons (ps_for PassesOwn.never rfl (pi_or (pi_listK (K := K) rfl (pv 1)) (pi_tupK (K := K) rfl (pv 1))) (pg_name (i := 3) nd rfl (Or.inl rfl))
      (pss_cutS (ps_if (PW.pt (pw_or (pt_not (pt_val (pe_callB (c_isiK (K := K) rfl) (by rfl) T.isinstance (by decide +kernel) (pa_cons (pv 3) (pa_cons (pe_bltn (v := .ty "str") (u := .type "str") (by rfl) T.str (by decide +kernel) rfl) pa_nil))))) (pw_or (pt_cmpR op_ne (pe_callB c_lenS (by rfl) T.len PySem.boot_len (pa_cons (pv 3) pa_nil)) pe_int (nomark _)) (pw_or1 (pt_not (pt_val (pe_cd D_are_letters hr pass0 (pa_cons (pv 3) pa_nil))))))))
        (pss_one ps_never)
        pss_nil)
        (pss_cutS (ps_if (PW.pt (pw_or (pt_cmpR op_notInS (pe_ix ix_str (pv 3) pe_int (fun _ _ => rfl)) (pv 0) (by rfl)) (pw_or1 (pt_cmpR op_notInS (pe_ix ix_str (pv 3) pe_int (fun _ _ => rfl)) (pv 0) (by rfl)))))
        (pss_one ps_never)
        pss_nil)
        (pss_one (ps_expr (pe_appK (K := K) rfl (pv 2) (pe_cd D_ascending hr pass0 (pa_cons (pv 3) pa_nil))))))))
      (pss_one (ps_ret (pe_callTy (c_tupleK (K := K) rfl) (by rfl) T.tuple (by decide +kernel) (pa_cons (pe_lc2 (own := [("a", 4), ("b", 5)]) (vs1 := [5]) (by rfl) nd (pi_str (pe_globS T.g_LETTERS)) (blkOk_by (own := [("a", 4), ("b", 5)]) (N := Nchecked_pairs) (sc := defScope stchecked_pairs) (by decide +kernel)) (by decide) (fun _ _ _ _ _ => (pg_name (i := 4) nd rfl (Or.inl rfl))) (fun _ _ _ _ _ => pts_nil) (fun _ _ _ _ _ => (pi_str (pe_globS T.g_LETTERS))) (fun _ _ _ _ _ => (pg_name (i := 5) nd rfl (Or.inl rfl))) (fun _ _ _ _ _ => (pts_one (pt_cmpR (op_inLK (K := K) rfl) (pe_op op_addS (pv 4) (pv 5)) (pv 2) (by rfl)))) (fun _ _ _ _ _ => (pe_op op_addS (pv 4) (pv 5)))) pa_nil))))))), ?_⟩
  refine s_start [some _, some _, none, none, none, none] rfl ?_
  walk_at "go"
  refine ⟨p, _, rfl, hp, fun H1 s1 => ?_⟩
  walk_at "go"
  intro q H2 hq s2 e2
  walk_at "go"
  refine e_forSeq (xs := strsV ps) hp (s1.trans s2) (fun Q q => by walk_at "go"; exact q) (fun k σ H' => ∃ x, σ = [some (.str (tx ks)), some (.ref p), some (.ref q), x, none, none] ∧ Same H H' ∧ H' q = some (.lst (strsV ((ps.take k).map ascOf)))) ⟨_, rfl, s1.trans s2, e2⟩ ?_ ?_ ?_
  · rintro i σ H' ⟨x, rfl, s3, e3⟩
    exact s3
  · rintro i v σ H3 H4 hi ⟨x, rfl, s3, e3⟩ ⟨rfl, hv⟩
    have hi' : i < ps.length := by simpa using hi
    obtain ⟨a, b, hab, hne, ha, hb⟩ := hps _ (List.getElem_mem hi')
    have hv' : v = .str (tx [a, b]) := by
      have : (strsV ps)[i]? = some (V.str (tx ps[i])) := by
        rw [List.getElem?_map, List.getElem?_eq_getElem hi']
        rfl
      rw [hv, hab] at this
      exact Option.some.inj this
    subst hv'
    have ha2 := hks a ha
    have hb2 := hks b hb
    refine s_cut (fun σ' H' => σ' = [some (.str (tx ks)), some (.ref p), some (.ref q), some (.str (tx [a, b])), none, none] ∧ Same H4 H') ?_ ?_
    · walk_at "go"
      refine if_ndec (fun c => absurd rfl c) (fun _ => ?_)
      walk_at "go"
      refine ⟨[a, b], rfl, by simp, fun H5 s5 => ?_⟩
      have e5 : decide ((∀ c ∈ [a, b], c ∈ LET) ∧ [a, b].Nodup) = true := by
        rw [decide_eq_true_iff]
        refine ⟨?_, by simp [hne]⟩
        intro c hc
        simp only [List.mem_cons, List.not_mem_nil, or_false] at hc
        rcases hc with rfl | rfl <;> assumption
      rw [e5]
      walk_at "go"
      exact ⟨rfl, s5⟩
    · rintro σ' H5 ⟨rfl, s5⟩
      refine s_cut (fun σ' H' => σ' = [some (.str (tx ks)), some (.ref p), some (.ref q), some (.str (tx [a, b])), none, none] ∧ H' = H5) ?_ ?_
      · walk_at "go"
        refine v_ixS (c := a) (by simp) rfl ?_
        walk_at "go"
        refine if_ndec (fun c => absurd ha c) (fun _ => ?_)
        walk_at "go"
        refine v_ixS (c := b) (by simp) rfl ?_
        walk_at "go"
        refine if_ndec (fun c => absurd hb c) (fun _ => ?_)
        walk_at "go"
        exact ⟨rfl, rfl⟩
      · rintro σ' H6 ⟨rfl, rfl⟩
        have e6 := s5 _ _ e3
        walk_at "go"
        refine ⟨[a, b], rfl, fun H7 s7 => ?_⟩
        walk_at "go"
        refine v_app (s7 _ _ e6) ?_ fun H8 s8 e8 => ?_
        · simp only [strsV, List.length_map, List.length_take]
          omega
        refine ⟨_, rfl, fun b' o hb' => s8 _ _ (s7 _ _ (s5 _ _ (s3 _ _ hb'))) (ne_of_none hb' (L2.Same.free s1 hq)), ?_⟩
        rw [e8, List.take_add_one, List.getElem?_eq_getElem hi', hab, List.map_append]
        simp only [strsV, List.map_append]
        rfl
  · rintro σ H3 ⟨x, rfl, s3, e3⟩
    walk_at "go"
    rw [List.take_of_length_le (by simp)] at e3
    refine v_lc2S (lb := LET) (b := fun a b => decide ([a, b] ∈ ps.map ascOf)) (f := fun a b => V.str (tx [a, b])) (by decide) (by decide) (fun c _ H1 s1 R r => r) (fun c d _ _ H1 s1 R r => ?_) (fun c d _ _ _ H1 s1 R r => ?_) (fun D H5 hD s5 e5 => ?_)
    · have e1 := s1 _ _ e3
      walk_at "go"
      exact r H1 (Same.refl _)
    · walk_at "go"
      exact r H1 (Same.refl _)
    · walk_at "go"
      refine v_tuple e5 fun t H6 ht s6 e6 => ?_
      refine k t H6 (L2.Same.free s3 (L2.Same.free s5 ht)) ((s3.trans s5).trans s6) ?_
      rw [e6]
      unfold strsV pairsOf
      rw [List.map_flatMap]
      simp only [List.map_map]
      rfl
abbrev stcrossing_table : Stmt := (top 44)
abbrev Ncrossing_table : List Str := ["kinds", "pairs", "found", "kind", "other"]
theorem sccrossing_table : FnScope Ncrossing_table ["kinds", "pairs"] (defScope stcrossing_table) := ⟨rfl, rfl, rfl, by decide +kernel, rfl, by decide +kernel, by decide +kernel⟩

theorem ok_crossing_table (F : FnAt K mg "crossing_table" stcrossing_table) (T : TxtP K mg C) : Def P w K mg base CX0 1 "crossing_table" ["kinds", "pairs"] spCross := by
  refine F.ok sccrossing_table (fun _ _ _ _ _ _ us hl => match us, hl with | [_, _], _ => rfl) (fun vs H Q E h => ?_) (fun f cdv A outer s H vs Q E hr h => ?_)
  · obtain ⟨ks, t, ps, rfl, _⟩ := h
    rfl
  obtain ⟨ks, t, ps, rfl, ht, hl, hnd, k⟩ := h
  have hu := hu_of hr
  have nd := sccrossing_table.nd
  refine ⟨_, (pss_cons (ps_set (i := 2) nd rfl (Or.inl rfl) pe_dnewK)
      (pss_cons (ps_for PassesOwn.never rfl (pi_str (pv 0)) (pg_name (i := 3) nd rfl (Or.inr rfl))
      (pss_one (ps_dput hu (pv 2) (pv 3) (pe_joinK (K := K) rfl (pe_tx [] (by decide +kernel)) (pe_lc (own := [("other", 4)]) (g := gName 4) (by rfl) nd (pi_str (pv 0)) (blkOk_by (own := [("other", 4)]) (N := Ncrossing_table) (sc := defScope stcrossing_table) (by decide +kernel)) (fun _ _ _ _ _ => (pg_name (i := 4) nd rfl (Or.inl rfl))) (fun _ _ _ _ _ => (pts_one (PW.pt (pw_or (pt_cmpR (op_inLK (K := K) rfl) (pe_op op_addS (pv 3) (pv 4)) (pv 1) (by rfl)) (pw_or1 (pt_cmpR (op_inLK (K := K) rfl) (pe_op op_addS (pv 4) (pv 3)) (pv 1) (by rfl))))))) (fun _ _ _ _ _ => (pv 4)))) rfl)))
      (pss_one (ps_ret (pv 2))))), ?_⟩
  refine s_start [some _, some _, none, none, none] rfl ?_
  walk_at "go"
  intro d H1 hd s1 e1
  walk_at "go"
  refine for_it (walk_tx ks) (fun k σ H' => ∃ x, σ = [some (.str (tx ks)), some (.ref t), some (.ref d), x, none] ∧ Same H H' ∧ H' d = some (.dK (crossKV ks ps (ks.take k)))) ⟨_, rfl, s1, e1⟩ (fun _ _ _ _ _ => trivial) ?_ ?_
  · rintro i v σ H2 H3 hi ⟨x, rfl, s2, e2⟩ ⟨rfl, rfl⟩
    have h0 := s2 _ _ ht
    show sDPut _ _ _ _ _ _
    walk_at "go"
    refine v_lcS (b := fun o => decide ([ks.getD i 0, o] ∈ ps) || decide ([o, ks.getD i 0] ∈ ps)) (f := fun c => V.str (tx [c])) (by omega) (fun c _ H1 s1 R r => ?_) (fun c _ _ H1 s1 R r => ?_) (fun D H4 hD s4 e4 => ?_)
    · have h1 := s1 _ _ h0
      walk_at "go"
      refine v_inT (SqT.of h1) ?_
      walk_at "go"
      refine if_dec (fun c1 => ?_) (fun c1 => ?_)
      · rw [show [ks.getD i 0] ++ [c] = [ks.getD i 0, c] from rfl] at c1
        rw [decide_eq_true c1, Bool.true_or] at r
        exact r H1 (Same.refl _)
      · rw [show [ks.getD i 0] ++ [c] = [ks.getD i 0, c] from rfl] at c1
        walk_at "go"
        refine v_inT (SqT.of h1) ?_
        walk_at "go"
        rw [decide_eq_false c1, Bool.false_or] at r
        exact r H1 (Same.refl _)
    · walk_at "go"
      exact r H1 (Same.refl _)
    walk_at "go"
    rw [strs_ones] at e4
    refine v_join e4 ?_ ?_
    · rw [flat_ones]
      have := crossOf_len ks ps (ks.getD i 0)
      unfold crossOf at this
      omega
    rw [flat_ones]
    walk_at "go"
    have e5 := s4 _ _ e2
    have hz : valV (crossKV ks ps (ks.take i)) (Sum.inr (tx [ks.getD i 0])) = none := letV_none (take_notin hnd hi)
    refine v_put (DPut.cross e5 hz ?_) fun H6 s6 e6 => ?_
    · unfold crossKV
      rw [List.length_map, List.length_take]
      omega
    refine ⟨_, rfl, fun b o hb => s6 _ _ (s4 _ _ (s2 _ _ hb)) (ne_of_none hb hd), ?_⟩
    rw [e6, take_getD hi]
    unfold crossKV
    rw [List.map_append]
    rfl
  · rintro σ H2 ⟨x, rfl, s2, e2⟩
    rw [List.take_of_length_le (Nat.le_refl _)] at e2
    walk_at "go"
    exact k d H2 hd s2 e2
end
end Cw
set_option Elab.async false
set_option linter.all false
set_option maxRecDepth 100000
set_option maxHeartbeats 4000000
/-! C(..) as a call with a promise of its own -/
namespace Cw
open PySem PySem.Spec L2
/-- from what a caller wants of C(..) to what __init__ promises -/
def Conv (C : Addr) (sp0 sp : Sp) : Prop := ∀ vs H Q E, sp vs H Q E → ∀ x dx, H x = none → H dx = none → dx ≠ x → sp0 (.ref x :: vs) (upd (upd H dx (.own x)) x (.ins C dx [])) (fun v H2 => v = .non ∧ Q (.ref x) H2) E
structure CDef (P : Program) (w : World) (K : PySem.W.Frag) (mg : Str → Option Value) (base : Heap) (CX : CXT) (k : Nat) (x : Str) (C : Addr) (sp : Sp) : Prop where
  ex : ∃ f fd ps sp0, mg x = some (.ref C) ∧ Mk K C f ∧ Binds K fd ps [] ∧ FnOk P w K mg base CX k f fd ps sp0 ∧ Conv C sp0 sp
section
variable {X : Cx} {CX : CXT} {k : Nat} {sp : Sp} {E : XK} {x : Str} {C : Addr} {p pos : PySem.Pos} {e : Expr} {es : List Expr} {t : TA}
theorem pe_mk (D : CDef X.prog X.w X.K X.mg X.base CX k x C sp) (hr : Room (k + 1) X.A) (hx : Passes CX X E) (ha : PA X (e :: es) t) (hg : Gl X x := by rfl) (hdb : (x == ("__debug__" : Str)) = false := by decide)
    (he : starEach (e :: es) X.env = (false, eval e X.env) :: starEach es X.env := by rfl) (hpl : (backTo pos (starEach es X.env)).any (·.1) = false := by rfl) : PE X (.Call (.Name x p) (e :: es) [] pos) (tCall sp [] E t) := by
  obtain ⟨f, fd, ps, sp0, hm, M, hb, F, cv⟩ := D.ex
  refine ⟨fun pins s σ H Q I h => ?_⟩
  refine wpAny_Call_Name_kw (ld_glob I hg hm ?_ hdb)
  refine PySem.W.callWith_K (h₀ := X.base) I.ok.mod.kin M.kp (thn (ha.run pos pins s σ H _ I h) fun us s1 ⟨vs, H1, I1, r, q⟩ => ⟨I1.kIn, ?_⟩) he hpl
  refine run_make M F hr hb .nil hx I1 r fun a da n1 n2 n3 => ?_
  have q : sp (vs ++ []) H1 Q E := q
  rw [List.append_nil] at q ⊢
  exact cv vs H1 Q E q a da n1 n2 n3
end
/-- a method with defaults, all parameters given -/
structure MAtD (K : PySem.W.Frag) (C : Addr) (m qual : Str) (st : Stmt) (dvs : List V) : Prop where
  ex : ∃ f fd, PySem.W.findIn K (.ref C) m = some (some (.ref f)) ∧ PySem.W.isFn K (.ref f) = true ∧ FunD K m qual (defArgs st) (defBody st) (defScope st) dvs [] f fd
section
variable {P : Program} {w : World} {K : PySem.W.Frag} {mg : Str → Option Value} {base : Heap} {CX : CXT} {k : Nat} {C : Addr} {x qual : Str} {ps N : List Str} {sp sp0 : Sp} {st : Stmt} {dvs : List V}
/-- C(..) by its __init__ -/
structure CMk (P : Program) (w : World) (K : PySem.W.Frag) (mg : Str → Option Value) (base : Heap) (CX : CXT) (k : Nat) (x : Str) (C : Addr) (sp : Sp) (ps : List Str) (qual : Str) (st : Stmt) (dvs : List V) : Prop where
  ex : ∃ f fd sp0, mg x = some (.ref C) ∧ Mk K C f ∧ Binds K fd ps [] ∧ FnOk P w K mg base CX k f fd ps sp0 ∧ Conv C sp0 sp ∧ FunD K "__init__" qual (defArgs st) (defBody st) (defScope st) dvs [] f fd
theorem CMk.cdef (D : CMk P w K mg base CX k x C sp ps qual st dvs) : CDef P w K mg base CX k x C sp := by
  obtain ⟨f, fd, sp0, a, b, c, d, e, _⟩ := D.ex
  exact ⟨f, fd, ps, sp0, a, b, c, d, e⟩
/-- C(..) by its __init__, that lets nothing out; h: how the arguments bind where all are given -/
theorem MAtD.make (F : MAtD K C "__init__" qual st dvs) (cf : ClsF K mg x C) (S : FnScope N ps (defScope st)) (hd : dvs ≠ [])
    (hb : ∀ (T : Addr) (kV doc pm : Value) (an : Option Addr) (cdv ct : Value) (us its : List Value), us.length = ps.length → its.length = dvs.length →
      ∃ k, bindArgs (PySem.W.fnOf "__init__" qual (defArgs st) (defBody st) (defScope st) (.ref T) kV doc pm an cdv ct) ⟨us, []⟩ = seqItems? (.ref T) >>= k ∧ k (some its.toArray) = pure (ps.zip (us ++ its.drop dvs.length)))
    (len : ∀ vs H Q E, sp0 vs H Q E → vs.length = ps.length) (cv : Conv C sp0 sp)
    (hbody : ∀ (f : Addr) (cdv : Value) (A : Around) (outer : List Env) (s : Shared) (H : Hp) (vs : List V) (Q : VK) (E : XK), Room k (A.deeper (PyProof.Rows.envOfC qual (defScope st) s.heap.objs.size f cdv)) → sp0 vs H Q E →
      ∃ t, PSs (cxOf CX0 P w K mg base N qual (defScope st) f cdv A outer s H E).nox (defBody st) t ∧ t { nx := fun _ H' => Q .non H', rt := Q } (start N vs) H) : CMk P w K mg base CX0 (k + 1) x C sp ps qual st dvs := by
  obtain ⟨f, fd, h1, h2, F⟩ := F.ex
  have B : Binds K fd ps [] := by
    obtain ⟨ds, r, b⟩ := F.binds1 (ps := ps) ps.length dvs.length hd (by omega) fun T kV doc pm an cdv ct us its l1 l2 => hb T kV doc pm an cdv ct us its l1 l2
    rw [List.drop_of_length_le (Nat.le_refl _)] at r
    cases r
    exact b
  refine ⟨f, fd, sp0, cf.at, ⟨cf.mks, h1, h2, cf.kp⟩, B, F.ok S len fun cdv A outer s H vs Q E hr h => ?_, cv, F⟩
  obtain ⟨t, a, b⟩ := hbody f cdv A outer s H vs Q E hr h
  exact ⟨t, a.nox, b⟩
theorem CDef.mono {j : Nat} (D : CDef P w K mg base CX j x C sp) (h : j ≤ k) : CDef P w K mg base CX k x C sp := by
  obtain ⟨f, fd, ps, sp0, a, b, c, d, e⟩ := D.ex
  exact ⟨f, fd, ps, sp0, a, b, c, d.mono h, e⟩
end
end Cw
set_option Elab.async false
set_option linter.all false
set_option maxRecDepth 100000
set_option maxHeartbeats 4000000
/-! enumerate(text) -/
namespace Cw
open PySem PySem.Spec L2
def Itx (l : List Nat) : It := ⟨fun i _ => i < l.length, fun i H v H' => ∃ T c, v = .ref T ∧ H T = none ∧ H' = upd H T (.tup [.int (i : Nat), .str (tx [c])]) ∧ l[i]? = some c, fun i _ => l.length ≤ i⟩
theorem turn_enumS {P : Program} {w : World} {K : PySem.W.Frag} {elts : List Expr} {kk : Nat} {tpos : PySem.Pos} (l : List Nat) (t : Tok) (e it : Addr) (hne : e ≠ it) :
    Turn P w K (.Tuple elts kk tpos) (Itx l) [e, it] e (fun i h => i ≤ l.length ∧ (∃ old, IsEnum h e it (i : Nat) old) ∧ h.IsStrIter it (strIterType (tx l)) (tx l) t i) where
  mem := by simp
  obj := fun i h st b hb => by
    obtain ⟨_, ⟨old, he⟩, ⟨o, ho, hc, hd⟩⟩ := st
    simp only [List.mem_cons, List.not_mem_nil, or_false] at hb
    rcases hb with z | z
    · subst z; exact ⟨_, he, fun v q => nomatch q⟩
    · subst z; exact ⟨o, ho, fun v q => by rw [hd] at q; cases q⟩
  keep := fun i h h' st k => by
    obtain ⟨a, ⟨old, he⟩, ⟨o, ho, r⟩⟩ := st
    exact ⟨a, ⟨old, k e (by simp) _ he⟩, ⟨o, k it (by simp) o ho, r⟩⟩
  item := by
    intro X hP hw hK hc i pins s σ H E I hf st hg
    subst hP hw hK
    obtain ⟨hi, st⟩ := st
    have hg : i < l.length := hg
    have W := WalksT.enumerateD (A := X.A) (Draws.text (prog := X.prog) (w := X.w) (A := X.A.in1) (I.ok.hd hc) it (tx l) t) e hne (by simp [hne]) (by simp)
    have hel : e < s.heap.objs.size := by obtain ⟨⟨_, he⟩, _⟩ := st; exact Heap.lt_size he
    have hil : it < s.heap.objs.size := by obtain ⟨_, ⟨_, q, _⟩⟩ := st; exact Heap.lt_size q
    refine W.item i s _ E (by simpa using hg) st fun T vals h' tk hv hT isT mid kp => ⟨_, rfl, W.go elts kk tpos i T { s with heap := h', toks := tk } _ E mid fun h2 st2 kp2 => ?_⟩
    obtain ⟨t', x, hx, rfl⟩ := hv
    obtain ⟨c, u, hc', rfl⟩ := hx
    have hTw := W.apart i T h' mid
    obtain ⟨o, ho, r⟩ := isT
    have isT2 : h2.IsTuple T #[.int i t', .str ⟨#[c]⟩ u] := ⟨o, kp2 T o hTw ho, r⟩
    have new : ObjOk X.prog X.w (upd H T (.tup [.int (i : Nat), .str (tx [c])])) h2 T (.tup [.int (i : Nat), .str (tx [c])]) := ⟨by show 2 ≤ sizeLine; decide, [.int i t', .str ⟨#[c]⟩ u], .cons ⟨_, rfl⟩ (.cons ⟨_, rfl⟩ .nil), isT2⟩
    refine ⟨.ref T, _, I.turnedNew (ch := [e, it]) (t' := tk) (fun b ob hb q => kp2 b ob hb (kp b ob hb q)) hf hT new, rfl, ⟨T, c, rfl, I.hok.fresh hT, rfl, by simpa using hc'⟩, ⟨hg, st2⟩, fun b hb => ?_⟩
    have hb2 : b < T := by
      simp only [List.mem_cons, List.not_mem_nil, or_false] at hb
      rcases hb with z | z
      · rw [z]; exact Nat.lt_of_lt_of_le hel hT
      · rw [z]; exact Nat.lt_of_lt_of_le hil hT
    rw [upd_ne (Nat.ne_of_lt hb2)]
    exact (hf b hb).1
  done := by
    intro X hP hw hK hc i pins s σ H E I hf st hg
    subst hP hw hK
    obtain ⟨hi, st⟩ := st
    have hg : l.length ≤ i := hg
    have e1 : i = (tx l).cps.size := by
      have : (tx l).cps.size = l.length := by simp
      omega
    subst e1
    have W := WalksT.enumerateD (A := X.A) (Draws.text (prog := X.prog) (w := X.w) (A := X.A.in1) (I.ok.hd hc) it (tx l) t) e hne (by simp [hne]) (by simp)
    exact W.done s _ E st fun h' tk kp => ⟨rfl, I.turnedL kp hf⟩
  self := fun A i s Q E st h => by
    obtain ⟨_, ⟨_, he⟩, _⟩ := st
    exact wpAny_pyIter_enum he h
def iEnumS (ta : TA) : TI := fun σ H R => ta σ H fun vs H1 => ∃ l : List Nat, vs = [.str (tx l)] ∧ R (Itx l) H1
theorem pi_enumS {X : Cx} {e : Expr} {ta : TA} {p pos tpos : PySem.Pos} {elts : List Expr} {kk : Nat} (hg : Gl X "enumerate") (hm : X.mg "enumerate" = none) (ha : PA X [e] ta) (hs : starEach [e] X.env = [(false, eval e X.env)] := by rfl) :
    PI X (.Tuple elts kk tpos) (.Call (.Name "enumerate" p) [e] [] pos) (iEnumS ta) := by
  refine ⟨fun pins s σ H R I h => ?_⟩
  refine PyProof.Rows.Call_ (ld_blt I hg hm PyProof.Rows.boot_enumerate (PyProof.Rows.callWith_type1 (thn (ha.run pos pins s σ H _ I h) fun us s1 ⟨vs, H1, I1, r1, l, ex, q⟩ => ?_) hs rfl))
  subst ex
  obtain ⟨u, rfl, t, rfl⟩ := vals1 r1
  refine call_enumerate_str fun h' he hit hsz hk => wpAny_pyIter_enum he ?_
  have I2 : L2.Inv X pins σ H1 { s1 with heap := h' } := I1.kept (t' := s1.toks) hk
  refine ⟨s1.heap.objs.size + 1, [s1.heap.objs.size + 1, s1.heap.objs.size], _, _, H1, rfl, I2, turn_enumS l t (s1.heap.objs.size + 1) s1.heap.objs.size (Nat.succ_ne_self _), ⟨Nat.zero_le _, ⟨.none, he⟩, hit⟩, fun b hb => ?_, q⟩
  have hle : s1.heap.objs.size ≤ b := by
    simp only [List.mem_cons, List.not_mem_nil, or_false] at hb
    rcases hb with z | z
    · rw [z]; exact Nat.le_succ _
    · rw [z]; exact Nat.le_refl _
  exact I1.fpOk hle (I1.hok.fresh hle)
theorem walk_enumS (l : List Nat) : Walk (Itx l) l.length (fun _ => True) (fun i H v H' => ∃ T c, v = .ref T ∧ H T = none ∧ H' = upd H T (.tup [.int (i : Nat), .str (tx [c])]) ∧ l[i]? = some c) :=
  ⟨fun _ _ hi _ => hi, fun _ _ => Nat.le_refl _, fun _ _ _ _ _ _ y => y⟩
section
variable {σ : St} {H : Hp}
theorem e_iEnumS {ta : TA} {R : It → Hp → Prop} (q : ta σ H fun vs H1 => ∃ l : List Nat, vs = [.str (tx l)] ∧ R (Itx l) H1) : iEnumS ta σ H R := q
theorem v_iEnumS {P : List Nat → Prop} {l : List Nat} (q : P l) : ∃ l' : List Nat, [V.str (tx l)] = [.str (tx l')] ∧ P l' := ⟨l, rfl, q⟩
end
end Cw
set_option Elab.async false
set_option linter.all false
set_option maxRecDepth 100000
set_option maxHeartbeats 4000000
/-! pairs of a number and a text, compared -/
namespace Cw
open PySem PySem.Spec L2
def pairCmp (ri : Int → Int → Bool) (rs : List Nat → List Nat → Bool) (z : Bool) (n : Int) (a : List Nat) (m : Int) (b : List Nat) : Bool := if n = m then (if a = b then z else rs a b) else ri n m
def rPair (f : Int → List Nat → Int → List Nat → Bool) : R2 := fun x y H Q => ∃ (p q : Addr) (n m : Int) (a b : List Nat), x = .ref p ∧ y = .ref q ∧ H p = some (.tup [.int n, .str (tx a)]) ∧ H q = some (.tup [.int m, .str (tx b)]) ∧ Q (.bl (f n a m b)) H
theorem v_pair {f : Int → List Nat → Int → List Nat → Bool} {H : Hp} {Q : VK} {p q : Addr} {n m : Int} {a b : List Nat} (h1 : H p = some (.tup [.int n, .str (tx a)])) (h2 : H q = some (.tup [.int m, .str (tx b)])) (k : Q (.bl (f n a m b)) H) : rPair f (.ref p) (.ref q) H Q := ⟨p, q, n, m, a, b, rfl, rfl, h1, h2, k⟩
abbrev cmpLt := pairCmp (fun i j => decide (i < j)) (fun a b => decide (a < b)) false
abbrev cmpLe := pairCmp (fun i j => decide (i ≤ j)) (fun a b => !decide (b < a)) true
abbrev cmpGt := pairCmp (fun i j => decide (j < i)) (fun a b => decide (b < a)) false
abbrev cmpGe := pairCmp (fun i j => decide (j ≤ i)) (fun a b => !decide (a < b)) true
theorem eqAt_two {A : Around} {s : Shared} {n m : Int} {a b : List Nat} {t t' u u' : Tok} (j : Nat) (h1 : j < #[Value.int n t, Value.str (tx a) u].size) (h2 : j < #[Value.int m t', Value.str (tx b) u'].size) :
    SeqAt.EqAt A s #[Value.int n t, Value.str (tx a) u][j] #[Value.int m t', Value.str (tx b) u'][j] (if j = 0 then decide (n = m) else decide (a = b)) := by
  have hj : j = 0 ∨ j = 1 := by
    have : j < 2 := h1
    omega
  rcases hj with e | e
  · subst e
    show SeqAt.EqAt A s (.int n t) (.int m t') (decide (n = m))
    have z : (n == m) = decide (n = m) := by rw [Bool.eq_iff_iff]; simp
    rw [← z]
    exact SeqAt.EqAt.int_int _ _ _ _
  · subst e
    show SeqAt.EqAt A s (.str (tx a) u) (.str (tx b) u') (decide (a = b))
    have z : (tx a == tx b) = decide (a = b) := by rw [Bool.eq_iff_iff, beq_iff_eq, decide_eq_true_iff, tx_inj]
    rw [← z]
    exact SeqAt.EqAt.str_str _ _ _ _
section
variable {X : Cx} {op : CmpOp} {ri : Int → Int → Bool} {rs : List Nat → List Nat → Bool} {z : Bool}
theorem pair_op (hop : ∀ u v, compareOp op u v = richCompare op u v)
    (hi : ∀ (A : Around) (s : Shared) (i j : Int) (t u : Tok), Ob.RcOp op A s (.int i t) (.int j u) (ri i j))
    (hs : ∀ (A : Around) (s : Shared) (a b : List Nat) (t u : Tok), Ob.RcOp op A s (.str (tx a) t) (.str (tx b) u) (rs a b))
    (ht : ∀ {A : Around} {s : Shared} {l b : Addr} {it it2 : Array Value} {e r : Nat → Bool}, s.heap.IsTuple l it → s.heap.IsTuple b it2 → A.units < cLine → (∀ j (h1 : j < it.size) (h2 : j < it2.size), SeqAt.EqAt A.in1 s it[j] it2[j] (e j)) →
      (∀ j (h1 : j < it.size) (h2 : j < it2.size), e j = false → Ob.RcOp op A.in1 s it[j] it2[j] (r j)) → it.size = 2 → it2.size = 2 → Ob.RcOp op A s (.ref l) (.ref b) (Ob.lexAt e r z 0 2))
    (hu : X.A.units < cLine) : OpR X (compareOp op) (rPair (pairCmp ri rs z)) := by
  intro pins s σ H x y v u Q I rx ry h
  obtain ⟨p, q, n, m, a, b, rfl, rfl, h1, h2, k⟩ := h
  cases rx
  cases ry
  obtain ⟨its, r1, p1, _⟩ := I.tuple (SqT.of h1)
  obtain ⟨its2, r2, p2, _⟩ := I.tuple (SqT.of h2)
  obtain ⟨w1, w2, rfl, ⟨t, rfl⟩, ⟨t2, rfl⟩⟩ := vals2 r1
  obtain ⟨w3, w4, rfl, ⟨t3, rfl⟩, ⟨t4, rfl⟩⟩ := vals2 r2
  have R := ht (A := X.A) (s := s) (e := fun j => if j = 0 then decide (n = m) else decide (a = b)) (r := fun j => if j = 0 then ri n m else rs a b) p1 p2 hu (fun j g1 g2 => eqAt_two j g1 g2) (fun j g1 g2 _ => by
    have hj : j = 0 ∨ j = 1 := by
      have : j < 2 := g1
      omega
    rcases hj with e | e
    · subst e; exact hi _ _ _ _ _ _
    · subst e; exact hs _ _ _ _ _ _) rfl rfl
  have e : Ob.lexAt (fun j => if j = 0 then decide (n = m) else decide (a = b)) (fun j => if j = 0 then ri n m else rs a b) z 0 2 = pairCmp ri rs z n a m b := by
    unfold pairCmp
    rw [Ob.lexAt_succ, Ob.lexAt_succ, Ob.lexAt_zero]
    simp only [if_true, decide_eq_true_eq, Nat.zero_add, Nat.one_ne_zero, if_false]
  rw [e] at R
  rw [hop]
  exact R X.prog X.w X.xe (EP X pins σ Q) ⟨.bl _, H, I, rfl, k⟩
theorem op_pairLt (hu : X.A.units < cLine) : OpR X (compareOp .Lt) (rPair cmpLt) :=
  pair_op (fun _ _ => rfl) (fun _ _ i j t u => Ob.RcOp.lt_int i j t u) (fun A s a b t u prog w E Q h => by
    have h : Q (.bool (decide ((tx a).cps.toList < (tx b).cps.toList))) s := by simpa using h
    exact PySem.P.lt_str h) (fun h1 h2 h3 h4 h5 e1 e2 => by
    have R := Ob.RcOp.tuples_lt h1 h2 h3 h4 h5
    rw [e1, e2] at R
    exact R) hu
theorem op_pairLe (hu : X.A.units < cLine) : OpR X (compareOp .LtE) (rPair cmpLe) :=
  pair_op (fun _ _ => rfl) (fun _ _ i j t u => Ob.RcOp.le_int i j t u) (fun A s a b t u prog w E Q h => by
    have h : Q (.bool (!decide ((tx b).cps.toList < (tx a).cps.toList))) s := by simpa using h
    exact PySem.P.le_str h) (fun h1 h2 h3 h4 h5 e1 e2 => by
    have R := Ob.RcOp.tuples_le h1 h2 h3 h4 h5
    rw [e1, e2] at R
    exact R) hu
theorem op_pairGt (hu : X.A.units < cLine) : OpR X (compareOp .Gt) (rPair cmpGt) :=
  pair_op (fun _ _ => rfl) (fun _ _ i j t u => Ob.RcOp.gt_int i j t u) (fun A s a b t u prog w E Q h => by
    have h : Q (.bool (decide ((tx b).cps.toList < (tx a).cps.toList))) s := by simpa using h
    exact PySem.P.gt_str h) (fun h1 h2 h3 h4 h5 e1 e2 => by
    have R := Ob.RcOp.tuples_gt h1 h2 h3 h4 h5
    rw [e1, e2] at R
    exact R) hu
theorem op_pairGe (hu : X.A.units < cLine) : OpR X (compareOp .GtE) (rPair cmpGe) :=
  pair_op (fun _ _ => rfl) (fun _ _ i j t u => Ob.RcOp.ge_int i j t u) (fun A s a b t u prog w E Q h => by
    have h : Q (.bool (!decide ((tx a).cps.toList < (tx b).cps.toList))) s := by simpa using h
    exact PySem.P.ge_str h) (fun h1 h2 h3 h4 h5 e1 e2 => by
    have R := Ob.RcOp.tuples_ge h1 h2 h3 h4 h5
    rw [e1, e2] at R
    exact R) hu
end
end Cw
set_option Elab.async false
set_option linter.all false
set_option maxRecDepth 100000
set_option maxHeartbeats 4000000
namespace Cw
open PySem PySem.Spec L2
local macro_rules | `(tactic| walk_at "side") => `(tactic| first | omega | assumption | (dsimp only; omega) | (unfold CMul; omega) | exact ⟨by decide, by decide, by decide⟩ | exact wdiv (by first | assumption | decide | omega) (by first | assumption | decide | omega) | (simp only [List.length_cons, List.length_nil]; omega) | rfl)
local macro_rules | `(tactic| walk_at "hl") => `(tactic| first | assumption | exact upd_same | ((refine Cw.Same.at (by assumption) ?_); walk_at "hl") | ((refine Cw.Keep.at (by assumption) ?_ (by assumption)); walk_at "hl"))
local macro_rules | `(tactic| walk_at "st") => `(tactic| first
  | (with_reducible refine s_seq ?_) | (with_reducible refine g_nm ?_) | (with_reducible refine s_next ?_) | (with_reducible refine s_set ?_) | (with_reducible refine s_drop ?_) | (with_reducible refine s_ret ?_) | (with_reducible refine s_if ?_)
  | ((with_reducible refine e_varG ?_); refine ⟨_, (by with_unfolding_all rfl), ?_⟩) | (with_reducible refine e_c ?_) | (with_reducible refine e_op ?_) | (with_reducible refine e_un ?_)
  | (with_reducible refine e_cons ?_) | (with_reducible refine e_nil ?_) | (with_reducible refine e_cb ?_) | (with_reducible refine e_call ?_) | (with_reducible refine e_md ?_)
  | (with_reducible refine t_test ?_) | (with_reducible refine t_B ?_) | (with_reducible refine t_and ?_) | (with_reducible refine t_or ?_) | (with_reducible refine t_not ?_)
  | (with_reducible refine e_andV ?_) | (with_reducible refine e_orV ?_) | (with_reducible refine e_notV ?_) | (with_reducible refine e_if ?_)
  | (with_reducible refine v_I0 ?_) | ((with_reducible refine v_I ?c ?_); try (case c => walk_at "side")) | (with_reducible refine v_bl ?_)
  | ((with_reducible refine v_eq ?c ?_); (case c => with_unfolding_all rfl)) | ((with_reducible refine v_ne ?c ?_); (case c => with_unfolding_all rfl))
  | (with_reducible refine v_inti ?_) | (with_reducible refine v_intb ?_) | ((with_reducible refine v_lenG ?_); refine ⟨_, (by walk_at "hl"), ?_⟩)
  | ((with_reducible refine v_lenS ?c ?_); try (case c => walk_at "side"))
  | (with_reducible refine e_dnew ?_) | (with_reducible refine e_dget ?_) | (with_reducible refine s_dput ?_) | (with_reducible refine e_lst ?_) | (with_reducible refine e_tup ?_)
  | ((with_reducible refine v_lst ?c ?_); (case c => walk_at "side")) | ((with_reducible refine v_tup ?c ?_); (case c => walk_at "side"))
  | ((with_reducible refine v_dgetG ?_); refine ⟨_, (by assumption), ?_⟩)
  | (with_reducible refine e_sl ?_) | (with_reducible refine e_nopart ?_) | (with_reducible refine e_part ?_) | (with_reducible refine e_m1 ?_) | (with_reducible refine v_isS ?_) | (with_reducible refine v_int ?_)
  | (with_reducible refine e_lc ?_) | (with_reducible refine e_iStr ?_) | (with_reducible refine e_iEnumS ?_) | (with_reducible refine v_iEnumS ?_) | (with_reducible refine v_str ?_) | (with_reducible refine e_yes ?_) | (with_reducible refine e_fld ?_) | (with_reducible refine e_sfld ?_)
  | ((with_reducible refine v_addS ?c ?_); try (case c => walk_at "side")) | (with_reducible refine v_inS ?_) | (with_reducible refine v_notInS ?_) | (with_reducible refine v_ltS ?_)
  | ((with_reducible refine v_inLG ?_); refine ⟨_, (by walk_at "hl"), ?_⟩) | (with_reducible refine v_isiS ?_) | (with_reducible refine e_revS ?_) | ((with_reducible refine v_revS ?c ?_); try (case c => walk_at "side"))
  | ((with_reducible refine v_lenSetG ?_); refine ⟨_, (by walk_at "hl"), ?_⟩)
  | (with_reducible refine e_bm ?_) | (with_reducible refine e_bm0 ?_) | ((with_reducible refine v_tyLG ?_); refine ⟨_, (by walk_at "hl"), ?_⟩)
  | (with_reducible refine iteNT ?_) | (with_reducible refine iteNF ?_) | (with_reducible refine e_for ?_)
  | (with_reducible refine e_iL ?_) | (with_reducible refine e_iT ?_) | ((with_reducible refine v_iLG ?_); refine ⟨_, (by walk_at "hl"), ?_⟩) | (with_reducible refine e_iR1 ?_) | ((with_reducible refine v_iR1 ?c1 ?c2 ?_); try (case c1 => walk_at "side"); try (case c2 => walk_at "side"))
  | (with_reducible refine e_iR2 ?_) | ((with_reducible refine v_iR2 ?c1 ?_); try (case c1 => walk_at "side"))
  | (with_reducible refine e_pr0 ?_) | (with_reducible refine e_pr ?_) | (with_reducible refine e_disp ?_) | (with_reducible refine s_asgT ?_) | (with_reducible refine e_tryA ?_) | (with_reducible refine e_callS ?_) | (with_reducible refine e_mdS ?_) | (with_reducible refine e_par ?_) | (with_reducible refine v_par ?_) | (with_reducible refine e_par3 ?_) | (with_reducible refine v_par3 ?_) | (with_reducible refine e_iK ?_) | (with_reducible refine e_dnotin ?_)
  | (with_reducible refine iteT ?_) | (with_reducible refine iteF ?_))
local macro_rules | `(tactic| walk_at "go") => `(tactic| repeat walk_at "st")
def planF (ks : List Nat) (t d : Addr) : List (Str × V) := putF "own_crossing" (.ref d) (putF "pairs" (.ref t) (putF "kinds" (.str (tx ks)) []))
theorem nkp : ¬ (("kinds" : Str) = "pairs") := by decide +kernel
theorem nko : ¬ (("kinds" : Str) = "own_crossing") := by decide +kernel
theorem npo : ¬ (("pairs" : Str) = "own_crossing") := by decide +kernel
section
variable {ks : List Nat} {t d : Addr}
theorem planF_k : (planF ks t d).lookup ("kinds" : Str) = some (.str (tx ks)) := by
  unfold planF
  rw [lookup_putF, if_neg nko, lookup_putF, if_neg nkp, lookup_putF, if_pos rfl]
theorem planF_p : (planF ks t d).lookup ("pairs" : Str) = some (.ref t) := by
  unfold planF
  rw [lookup_putF, if_neg npo, lookup_putF, if_pos rfl]
theorem planF_o : (planF ks t d).lookup ("own_crossing" : Str) = some (.ref d) := by
  unfold planF
  rw [lookup_putF, if_pos rfl]
end
/-- a plan of the kinds ks and the pairs ps stands at x -/
structure PlanAt (C : Addr) (H : Hp) (x : Addr) (ks : List Nat) (ps : List (List Nat)) : Prop where
  ex : ∃ dx t d, H x = some (.ins C dx (planF ks t d)) ∧ H t = some (.tup (strsV ps)) ∧ H d = some (.dK (crossKV ks ps ks))
theorem PlanAt.same {C : Addr} {H H' : Hp} {x : Addr} {ks : List Nat} {ps : List (List Nat)} (h : PlanAt C H x ks ps) (s : Same H H') : PlanAt C H' x ks ps := by
  obtain ⟨dx, t, d, a, b, c⟩ := h.ex
  exact ⟨dx, t, d, s _ _ a, s _ _ b, s _ _ c⟩
/-- the plan at x does not rest on the object at b -/
def PlanOff (C : Addr) (H : Hp) (x b : Addr) : Prop := ∃ dx ks t d, H x = some (.ins C dx (planF ks t d)) ∧ b ≠ t ∧ b ≠ d
theorem PlanOff.same {C : Addr} {H H' : Hp} {x b : Addr} (h : PlanOff C H x b) (s : Same H H') : PlanOff C H' x b := by
  obtain ⟨dx, ks, t, d, e, n⟩ := h
  exact ⟨dx, ks, t, d, s _ _ e, n⟩
theorem PlanAt.off {C : Addr} {H H' : Hp} {x b : Addr} {ks : List Nat} {ps : List (List Nat)} (h : PlanAt C H x ks ps) (n : PlanOff C H x b) (nx : x ≠ b) (k : Keep b H H') : PlanAt C H' x ks ps := by
  obtain ⟨dx, t, d, a1, a2, a3⟩ := h.ex
  obtain ⟨dx', ks', t', d', e, n1, n2⟩ := n
  rw [a1] at e
  injection e with e
  injection e with _ _ e
  have e1 := planF_p (ks := ks) (t := t) (d := d)
  rw [e, planF_p] at e1
  injection e1 with e1
  injection e1 with e1
  have e2 := planF_o (ks := ks) (t := t) (d := d)
  rw [e, planF_o] at e2
  injection e2 with e2
  injection e2 with e2
  exact ⟨dx, t, d, k _ _ a1 nx, k _ _ a2 (fun z => n1 (z.symm.trans e1.symm)), k _ _ a3 (fun z => n2 (z.symm.trans e2.symm))⟩
/-- the kinds and pairs of Plan(l, ps) -/
abbrev kindsOf (l : List Nat) : List Nat := ascOf l
abbrev prsOf (ps : List (List Nat)) : List (List Nat) := pairsOf (ps.map ascOf)
def PlanArgs (K : PySem.W.Frag) (H : Hp) (l : List Nat) (p : Addr) (ps : List (List Nat)) : Prop := SeqO K H p (strsV ps) ∧ ps.length < 1000 ∧ PairsIn l ps ∧ (∀ c ∈ l, c ∈ LET) ∧ l.Nodup ∧ l.length ≤ 8
def spPlan0 (K : PySem.W.Frag) (C : Addr) : Sp := fun vs H Q _ => ∃ (x dx : Addr) (l : List Nat) (p : Addr) (ps : List (List Nat)), vs = [.ref x, .str (tx l), .ref p] ∧ H x = some (.ins C dx []) ∧ PlanArgs K H l p ps ∧
  ∀ H', Keep x H H' → PlanAt C H' x (kindsOf l) (prsOf ps) → (∀ b o, H b = some o → b ≠ x → PlanOff C H' x b) → Q .non H'
def spPlan (K : PySem.W.Frag) (C : Addr) : Sp := fun vs H Q _ => ∃ (l : List Nat) (p : Addr) (ps : List (List Nat)), vs = [.str (tx l), .ref p] ∧ PlanArgs K H l p ps ∧ ∀ x H', H x = none → Same H H' → PlanAt C H' x (kindsOf l) (prsOf ps) → (∀ b o, H b = some o → PlanOff C H' x b) → Q (.ref x) H'
theorem conv_plan (K : PySem.W.Frag) (C : Addr) : Conv C (spPlan0 K C) (spPlan K C) := by
  rintro vs H Q E ⟨l, p, ps, rfl, ⟨hp, hr⟩, k⟩ x dx hx hdx hne
  refine ⟨x, dx, l, p, ps, rfl, upd_same, ⟨hp.go fun o ho => by rw [upd_ne (ne_of_none ho hx), upd_ne (ne_of_none ho hdx)]; exact ho, hr⟩, fun H' s' a off => ⟨rfl, k x H' hx (fun b o hb => ?_) a fun b o hb => off b o (by rw [upd_ne (ne_of_none hb hx), upd_ne (ne_of_none hb hdx)]; exact hb) (ne_of_none hb hx)⟩⟩
  refine s' b o ?_ (ne_of_none hb hx)
  rw [upd_ne (ne_of_none hb hx), upd_ne (ne_of_none hb hdx)]
  exact hb
theorem asc_len {l : List Nat} (h1 : ∀ c ∈ l, c ∈ LET) (h2 : l.Nodup) : (ascOf l).length = l.length := by
  have p : (ascOf l).Perm l := by
    refine (List.perm_ext_iff_of_nodup (ascOf_nodup l) h2).mpr fun c => ?_
    rw [ascOf_mem]
    exact ⟨fun z => z.2, fun z => ⟨h1 c z, z⟩⟩
  exact p.length_eq
section
variable {P : Program} {w : World} {K : PySem.W.Frag} {mg : Str → Option Value} {base : Heap} {C : Addr}
abbrev stPlan_init : Stmt := (inClass (top 43) 0)
abbrev NPlan_init : List Str := ["self", "kinds", "crossing"]
theorem scPlan_init : FnScope NPlan_init ["self", "kinds", "crossing"] (defScope stPlan_init) := ⟨rfl, rfl, rfl, by decide +kernel, rfl, by decide +kernel, by decide +kernel⟩

theorem ok_Plan {dvs : List V} (F : MAtD K C "__init__" "Plan.__init__" stPlan_init dvs) (hd : dvs.length = 1) (T : TxtP K mg C) (D_are_letters : Def P w K mg base CX0 1 "are_letters" ["value"] spAreLetters) (D_ascending : Def P w K mg base CX0 1 "ascending" ["letters"] spAscending)
    (D_checked_pairs : Def P w K mg base CX0 2 "checked_pairs" ["kinds", "crossing"] (spChecked K)) (D_need_few : Def P w K mg base CX0 1 "need_few" ["kinds"] spNeedFew) (D_crossing_table : Def P w K mg base CX0 1 "crossing_table" ["kinds", "pairs"] spCross) :
    CMk P w K mg base CX0 3 "Plan" C (spPlan K C) ["self", "kinds", "crossing"] "Plan.__init__" stPlan_init dvs := by
  refine F.make (sp0 := spPlan0 K C) T.Plan scPlan_init (by intro z; rw [z] at hd; cases hd) (fun T kV doc pm an cdv ct us its l1 l2 => ?_) (fun vs H Q E h => ?_) (conv_plan K C) (fun f cdv A outer s H vs Q E hr h => ?_)
  · rw [hd] at l2 ⊢
    match us, l1, its, l2 with
    | [_, _, _], _, [_], _ => exact ⟨_, rfl, rfl⟩
  · obtain ⟨x, dx, l, p, ps, rfl, _⟩ := h
    rfl
  obtain ⟨x, dx, l, p, ps, rfl, hx, ⟨hp, h1, h2, h3, h4, h5⟩, k⟩ := h
  have hu := hu_of hr
  have nd := scPlan_init.nd
  replace D_are_letters := D_are_letters.mono (show 1 ≤ 2 by decide)
  replace D_ascending := D_ascending.mono (show 1 ≤ 2 by decide)
  replace D_need_few := D_need_few.mono (show 1 ≤ 2 by decide)
  replace D_crossing_table := D_crossing_table.mono (show 1 ≤ 2 by decide)
  refine ⟨_, (pss_cons (ps_if (pt_not (pt_val (pe_cd D_are_letters hr pass0 (pa_cons (pv 1) pa_nil))))
      (pss_one ps_never)
      pss_nil)
      (pss_cons (ps_flK (K := K) rfl (pv 0) (pe_cd D_ascending hr pass0 (pa_cons (pv 1) pa_nil)) rfl)
      (pss_cons (ps_flK (K := K) rfl (pv 0) (pe_cd D_checked_pairs hr pass0 (pa_cons (pe_flK (K := K) rfl (pv 0) rfl) (pa_cons (pv 2) pa_nil))) rfl)
      (pss_cons (ps_expr (pe_cd D_need_few hr pass0 (pa_cons (pe_flK (K := K) rfl (pv 0) rfl) pa_nil)))
      (pss_one (ps_flK (K := K) rfl (pv 0) (pe_cd D_crossing_table hr pass0 (pa_cons (pe_flK (K := K) rfl (pv 0) rfl) (pa_cons (pe_flK (K := K) rfl (pv 0) rfl) pa_nil))) rfl)))))), ?_⟩
  refine s_start [some _, some _, some _] rfl ?_
  walk_at "go"
  refine ⟨l, rfl, by omega, fun H1 s1 => ?_⟩
  rw [decide_eq_true (show (∀ c ∈ l, c ∈ LET) ∧ l.Nodup from ⟨h3, h4⟩)]
  walk_at "go"
  refine ⟨l, rfl, fun H2 s2 => ?_⟩
  walk_at "go"
  have s12 := s1.trans s2
  refine v_sfld (s12 _ _ hx) T.Plan.cl T.nK (by decide) fun H3 s3 e3 => ?_
  have hp3 := (hp.same s12).keepI s3 (s12 _ _ hx)
  walk_at "go"
  refine v_fld e3 T.Plan.cl T.nK (by rw [lookup_putF, if_pos rfl]) ?_
  walk_at "go"
  refine ⟨ascOf l, p, ps, rfl, hp3, h1, ?_, fun c hc => (ascOf_mem.mp hc).1, fun t H4 ht s4 e4 => ?_⟩
  · intro q hq
    obtain ⟨a, b, e, n, ha, hb⟩ := h2 q hq
    exact ⟨a, b, e, n, ascOf_mem.mpr ⟨h3 a ha, ha⟩, ascOf_mem.mpr ⟨h3 b hb, hb⟩⟩
  walk_at "go"
  refine v_sfld (s4 _ _ e3) T.Plan.cl T.nP (by show 1 < 1000; decide) fun H5 s5 e5 => ?_
  have nt : t ≠ x := fun z => by rw [z, e3] at ht; cases ht
  have e5t := s5 _ _ e4 nt
  walk_at "go"
  refine v_fld e5 T.Plan.cl T.nK (by rw [lookup_putF, if_neg nkp, lookup_putF, if_pos rfl]) ?_
  walk_at "go"
  refine ⟨ascOf l, rfl, by rw [asc_len h3 h4]; exact h5, ?_⟩
  walk_at "go"
  refine v_fld e5 T.Plan.cl T.nK (by rw [lookup_putF, if_neg nkp, lookup_putF, if_pos rfl]) ?_
  walk_at "go"
  refine v_fld e5 T.Plan.cl T.nP (by rw [lookup_putF, if_pos rfl]) ?_
  walk_at "go"
  refine ⟨ascOf l, t, _, rfl, e5t, by have := ascOf_len l; omega, ascOf_nodup l, fun d H6 hd s6 e6 => ?_⟩
  walk_at "go"
  refine v_sfld (s6 _ _ e5) T.Plan.cl T.nO (by show 2 < 1000; decide) fun H7 s7 e7 => ?_
  have ndx : d ≠ x := fun z => by rw [z, e5] at hd; cases hd
  refine k H7 (fun b o hb nb => s7 _ _ (s6 _ _ (s5 _ _ (s4 _ _ (s3 _ _ (s12 _ _ hb) nb)) nb)) nb) ⟨dx, t, d, e7, s7 _ _ (s6 _ _ e5t) nt, s7 _ _ e6 ndx⟩ fun b o hb nb => ⟨dx, _, t, d, e7, ?_, ?_⟩
  · exact ne_of_none (s3 _ _ (s12 _ _ hb) nb) ht
  · exact ne_of_none (s5 _ _ (s4 _ _ (s3 _ _ (s12 _ _ hb) nb)) nb) hd
end
end Cw
set_option Elab.async false
set_option linter.all false
set_option maxRecDepth 100000
set_option maxHeartbeats 4000000
/-! names: one step, as a plain function -/
namespace Cw
open PySem PySem.Spec L2
/-- the name (turned about) without its last letters out of part, and these -/
def splitB (part : List Nat) : List Nat → List Nat → List Nat × List Nat
  | [], b => ([], b)
  | x :: r, b => if x ∈ part then splitB part r (x :: b) else (x :: r, b)
def putIn (k : Nat) (b : List Nat) : List Nat := b.takeWhile (fun c => decide (c < k)) ++ k :: b.dropWhile (fun c => decide (c < k))
def stepAt (k : Nat) (ra b : List Nat) : List Nat := if ra.head? = some k then ra.tail.reverse ++ b else ra.reverse ++ putIn k b
def stepOf (part name : List Nat) (k : Nat) : List Nat := stepAt k (splitB part name.reverse []).1 (splitB part name.reverse []).2
def joinOf (ks : List Nat) (ps : List (List Nat)) (name way : List Nat) : List Nat := way.foldl (fun n k => stepOf (crossOf ks ps k) n k) name
def backOf (ks : List Nat) (ps : List (List Nat)) (name : List Nat) : List Nat := joinOf ks ps [] name.reverse
def wayOf (ks : List Nat) (ps : List (List Nat)) (name goal : List Nat) : List Nat := joinOf ks ps (backOf ks ps name) goal
theorem splitB_eq (part : List Nat) : ∀ ra b : List Nat, (splitB part ra b).1.reverse ++ (splitB part ra b).2 = ra.reverse ++ b
  | [], b => rfl
  | x :: r, b => by
    unfold splitB
    by_cases h : x ∈ part
    · rw [if_pos h, splitB_eq part r (x :: b), List.reverse_cons, List.append_assoc]
      rfl
    · rw [if_neg h]
theorem putIn_len (k : Nat) (b : List Nat) : (putIn k b).length = b.length + 1 := by
  unfold putIn
  have h : (b.takeWhile (fun c => decide (c < k)) ++ b.dropWhile (fun c => decide (c < k))).length = b.length := by rw [List.takeWhile_append_dropWhile]
  rw [List.length_append] at h
  rw [List.length_append, List.length_cons]
  omega
theorem putIn_mem {k c : Nat} {b : List Nat} (h : c ∈ putIn k b) : c = k ∨ c ∈ b := by
  unfold putIn at h
  rw [List.mem_append, List.mem_cons] at h
  rcases h with h | h | h
  · exact .inr (List.takeWhile_sublist _ |>.subset h)
  · exact .inl h
  · exact .inr (List.dropWhile_sublist _ |>.subset h)
theorem stepAt_len (k : Nat) (ra b : List Nat) : (stepAt k ra b).length ≤ ra.length + b.length + 1 := by
  unfold stepAt
  split
  · rw [List.length_append, List.length_reverse, List.length_tail]
    omega
  · rw [List.length_append, List.length_reverse, putIn_len]
    omega
theorem stepAt_mem {k c : Nat} {ra b : List Nat} (h : c ∈ stepAt k ra b) : c = k ∨ c ∈ ra.reverse ++ b := by
  unfold stepAt at h
  split at h
  · rw [List.mem_append, List.mem_reverse] at h
    rcases h with h | h
    · exact .inr (List.mem_append_left _ (List.mem_reverse.mpr (List.mem_of_mem_tail h)))
    · exact .inr (List.mem_append_right _ h)
  · rw [List.mem_append] at h
    rcases h with h | h
    · exact .inr (List.mem_append_left _ h)
    · rcases putIn_mem h with e | e
      · exact .inl e
      · exact .inr (List.mem_append_right _ e)
theorem stepOf_len (part name : List Nat) (k : Nat) : (stepOf part name k).length ≤ name.length + 1 := by
  have h := congrArg List.length (splitB_eq part name.reverse [])
  simp only [List.length_append, List.length_reverse, List.length_nil] at h
  have := stepAt_len k (splitB part name.reverse []).1 (splitB part name.reverse []).2
  unfold stepOf
  omega
theorem stepOf_mem {part name : List Nat} {k c : Nat} (h : c ∈ stepOf part name k) : c = k ∨ c ∈ name := by
  have := stepAt_mem h
  rw [splitB_eq, List.reverse_reverse, List.append_nil] at this
  exact this
theorem joinOf_len (ks : List Nat) (ps : List (List Nat)) : ∀ (way name : List Nat), (joinOf ks ps name way).length ≤ name.length + way.length
  | [], name => Nat.le_refl _
  | k :: r, name => by
    show (joinOf ks ps (stepOf (crossOf ks ps k) name k) r).length ≤ _
    have := joinOf_len ks ps r (stepOf (crossOf ks ps k) name k)
    have := stepOf_len (crossOf ks ps k) name k
    rw [List.length_cons]
    omega
theorem joinOf_mem {ks : List Nat} {ps : List (List Nat)} {c : Nat} : ∀ {way name : List Nat}, c ∈ joinOf ks ps name way → c ∈ name ∨ c ∈ way
  | [], name, h => .inl h
  | k :: r, name, h => by
    rcases joinOf_mem (way := r) (name := stepOf (crossOf ks ps k) name k) h with z | z
    · rcases stepOf_mem z with e | e
      · exact .inr (e ▸ List.mem_cons_self ..)
      · exact .inl e
    · exact .inr (List.mem_cons_of_mem _ z)
theorem joinOf_snoc {ks : List Nat} {ps : List (List Nat)} {name way : List Nat} {k : Nat} : joinOf ks ps name (way ++ [k]) = stepOf (crossOf ks ps k) (joinOf ks ps name way) k := by
  unfold joinOf
  rw [List.foldl_append]
  rfl
theorem backOf_len (ks : List Nat) (ps : List (List Nat)) (name : List Nat) : (backOf ks ps name).length ≤ name.length := by
  have := joinOf_len ks ps name.reverse []
  rw [List.length_reverse, List.length_nil] at this
  unfold backOf
  omega
theorem backOf_mem {ks : List Nat} {ps : List (List Nat)} {c : Nat} {name : List Nat} (h : c ∈ backOf ks ps name) : c ∈ name := by
  rcases joinOf_mem h with z | z
  · cases z
  · exact List.mem_reverse.mp z
theorem wayOf_len (ks : List Nat) (ps : List (List Nat)) (name goal : List Nat) : (wayOf ks ps name goal).length ≤ name.length + goal.length := by
  have := joinOf_len ks ps goal (backOf ks ps name)
  have := backOf_len ks ps name
  unfold wayOf
  omega
/-! ### letters at their places -/
theorem at_last {x : Nat} {r b : List Nat} : atI ((x :: r).reverse ++ b) (((x :: r).length : Int) - 1) = some x := by
  have e : (((x :: r).length : Int) - 1) = ((r.length : Nat) : Int) := by
    rw [List.length_cons]
    omega
  rw [e]
  refine atI_nat ?_
  rw [List.reverse_cons, List.append_assoc, List.getElem?_append_right (by rw [List.length_reverse]; exact Nat.le_refl _), List.length_reverse, Nat.sub_self]
  rfl
theorem at_mid {x : Nat} {a b : List Nat} : atI (a ++ x :: b) ((a.length : Nat) : Int) = some x := by
  refine atI_nat ?_
  rw [List.getElem?_append_right (Nat.le_refl _), Nat.sub_self]
  rfl
theorem lt_one {a k : Nat} : decide ([a] < [k]) = decide (a < k) := by
  refine decide_eq_decide.mpr ⟨fun h => ?_, fun h => List.Lex.rel h⟩
  cases h with
  | rel h => exact h
  | cons h => cases h
section
variable {σ : St} {H : Hp} {tb : TS} {D : Ends} {tt : TT}
theorem g_nm {i : Nat} {v : V} {Q : St → Hp → Prop} (q : Q (σ.set i (some v)) H) : gName i v σ H Q := q
theorem s_while (W : Nat → St → Hp → Prop) (m : Nat) (h0 : W m σ H) (hs : ∀ m σ H, W m σ H → tt σ H fun b H1 => if b = true then ∃ N : St → Hp → Prop, (∀ σ' H', N σ' H' → ∃ m', m' < m ∧ W m' σ' H') ∧ tb { D with nx := N, ct := N, bk := D.nx } σ H1 else D.nx σ H1) : tWhile tt tb D σ H := ⟨W, ⟨m, h0⟩, hs⟩
theorem v_turn {W : Nat → St → Hp → Prop} {m : Nat} (q : tb { D with nx := fun σ' H' => ∃ m', m' < m ∧ W m' σ' H', ct := fun σ' H' => ∃ m', m' < m ∧ W m' σ' H', bk := D.nx } σ H) : ∃ N : St → Hp → Prop, (∀ σ' H', N σ' H' → ∃ m', m' < m ∧ W m' σ' H') ∧ tb { D with nx := N, ct := N, bk := D.nx } σ H := ⟨_, fun _ _ h => h, q⟩
end
section
variable {H : Hp} {Q : VK} {K : PySem.W.Frag} {p q : Addr}
theorem ok_strs {ls : List (List Nat)} (h : ∀ l ∈ ls, ∀ c ∈ l, c < 1000) : ∀ x ∈ ls.map tx, PyData.strOk x = true := by
  intro x hx
  obtain ⟨l, hl, rfl⟩ := List.mem_map.mp hx
  exact ok_tx (h l hl)
theorem map_tx_inj {a b : List (List Nat)} : a.map tx = b.map tx ↔ a = b := by
  constructor
  · intro h
    induction a generalizing b with
    | nil => cases b with
      | nil => rfl
      | cons y b => cases h
    | cons x a ih => cases b with
      | nil => cases h
      | cons y b =>
        rw [List.map_cons, List.map_cons] at h
        injection h with h1 h2
        rw [tx_inj.mp h1, ih h2]
  · intro h
    rw [h]
theorem strsV_map (ls : List (List Nat)) : strsV ls = (ls.map tx).map V.str := by
  unfold strsV
  rw [List.map_map]
  rfl
theorem v_eqT {a b : List (List Nat)} (h1 : H p = some (.tup (strsV a))) (h2 : H q = some (.tup (strsV b))) (ha : ∀ l ∈ a, ∀ c ∈ l, c < 1000) (hb : ∀ l ∈ b, ∀ c ∈ l, c < 1000) (k : Q (.bl (decide (a = b))) H) : rEqD K (.ref p) (.ref q) H Q := by
  rw [strsV_map] at h1 h2
  refine ⟨.tuple ((a.map tx).map PyData.str), .tuple ((b.map tx).map PyData.str), .tup (SqT.of h1) (dp_strs _), .tup (SqT.of h2) (dp_strs _), shaped_strsT _ (ok_strs ha), shaped_strsT _ (ok_strs hb), ?_⟩
  have e : PyData.eqv (.tuple ((a.map tx).map PyData.str)) (.tuple ((b.map tx).map PyData.str)) = decide (a = b) := by
    show PyData.eqvAll _ _ = _
    rw [eqvAll_strs, decide_eq_decide]
    exact map_tx_inj
  rw [e]
  exact k
end
end Cw
set_option Elab.async false
set_option linter.all false
set_option maxRecDepth 100000
set_option maxHeartbeats 4000000
namespace Cw
open PySem PySem.Spec L2
local macro_rules | `(tactic| walk_at "side") => `(tactic| first | omega | assumption | (dsimp only; omega) | (unfold CMul; omega) | exact ⟨by decide, by decide, by decide⟩ | exact wdiv (by first | assumption | decide | omega) (by first | assumption | decide | omega) | (simp only [List.length_cons, List.length_nil]; omega) | rfl)
local macro_rules | `(tactic| walk_at "hl") => `(tactic| first | assumption | exact upd_same | ((refine Cw.Same.at (by assumption) ?_); walk_at "hl") | ((refine Cw.Keep.at (by assumption) ?_ (by assumption)); walk_at "hl"))
local macro_rules | `(tactic| walk_at "st") => `(tactic| first
  | (with_reducible refine s_seq ?_) | (with_reducible refine g_nm ?_) | (with_reducible refine s_next ?_) | (with_reducible refine s_set ?_) | (with_reducible refine s_drop ?_) | (with_reducible refine s_ret ?_) | (with_reducible refine s_if ?_)
  | ((with_reducible refine e_varG ?_); refine ⟨_, (by with_unfolding_all rfl), ?_⟩) | (with_reducible refine e_c ?_) | (with_reducible refine e_op ?_) | (with_reducible refine e_un ?_)
  | (with_reducible refine e_cons ?_) | (with_reducible refine e_nil ?_) | (with_reducible refine e_cb ?_) | (with_reducible refine e_call ?_) | (with_reducible refine e_md ?_)
  | (with_reducible refine t_test ?_) | (with_reducible refine t_B ?_) | (with_reducible refine t_and ?_) | (with_reducible refine t_or ?_) | (with_reducible refine t_not ?_)
  | (with_reducible refine e_andV ?_) | (with_reducible refine e_orV ?_) | (with_reducible refine e_notV ?_) | (with_reducible refine e_if ?_)
  | (with_reducible refine v_I0 ?_) | ((with_reducible refine v_I ?c ?_); try (case c => walk_at "side")) | (with_reducible refine v_bl ?_)
  | ((with_reducible refine v_eq ?c ?_); (case c => with_unfolding_all rfl)) | ((with_reducible refine v_ne ?c ?_); (case c => with_unfolding_all rfl))
  | (with_reducible refine v_inti ?_) | (with_reducible refine v_intb ?_) | ((with_reducible refine v_lenG ?_); refine ⟨_, (by walk_at "hl"), ?_⟩)
  | ((with_reducible refine v_lenS ?c ?_); try (case c => walk_at "side"))
  | (with_reducible refine e_dnew ?_) | (with_reducible refine e_dget ?_) | (with_reducible refine s_dput ?_) | (with_reducible refine e_lst ?_) | (with_reducible refine e_tup ?_)
  | ((with_reducible refine v_lst ?c ?_); (case c => walk_at "side")) | ((with_reducible refine v_tup ?c ?_); (case c => walk_at "side"))
  | ((with_reducible refine v_dgetG ?_); refine ⟨_, (by assumption), ?_⟩)
  | (with_reducible refine e_sl ?_) | (with_reducible refine e_nopart ?_) | (with_reducible refine e_part ?_) | (with_reducible refine e_m1 ?_) | (with_reducible refine v_isS ?_) | (with_reducible refine v_int ?_)
  | (with_reducible refine e_lc ?_) | (with_reducible refine e_iStr ?_) | (with_reducible refine e_iEnumS ?_) | (with_reducible refine v_iEnumS ?_) | (with_reducible refine v_str ?_) | (with_reducible refine e_yes ?_) | (with_reducible refine e_fld ?_) | (with_reducible refine e_sfld ?_)
  | ((with_reducible refine v_addS ?c ?_); try (case c => walk_at "side")) | (with_reducible refine v_inS ?_) | (with_reducible refine v_notInS ?_) | (with_reducible refine v_ltS ?_)
  | ((with_reducible refine v_inLG ?_); refine ⟨_, (by walk_at "hl"), ?_⟩) | (with_reducible refine v_isiS ?_) | (with_reducible refine e_revS ?_) | ((with_reducible refine v_revS ?c ?_); try (case c => walk_at "side"))
  | ((with_reducible refine v_lenSetG ?_); refine ⟨_, (by walk_at "hl"), ?_⟩)
  | (with_reducible refine e_bm ?_) | (with_reducible refine e_bm0 ?_) | ((with_reducible refine v_tyLG ?_); refine ⟨_, (by walk_at "hl"), ?_⟩)
  | (with_reducible refine iteNT ?_) | (with_reducible refine iteNF ?_) | (with_reducible refine e_for ?_)
  | (with_reducible refine e_iL ?_) | (with_reducible refine e_iT ?_) | ((with_reducible refine v_iLG ?_); refine ⟨_, (by walk_at "hl"), ?_⟩) | (with_reducible refine e_iR1 ?_) | ((with_reducible refine v_iR1 ?c1 ?c2 ?_); try (case c1 => walk_at "side"); try (case c2 => walk_at "side"))
  | (with_reducible refine e_iR2 ?_) | ((with_reducible refine v_iR2 ?c1 ?_); try (case c1 => walk_at "side"))
  | (with_reducible refine e_pr0 ?_) | (with_reducible refine e_pr ?_) | (with_reducible refine e_disp ?_) | (with_reducible refine s_asgT ?_) | (with_reducible refine e_tryA ?_) | (with_reducible refine e_callS ?_) | (with_reducible refine e_mdS ?_) | (with_reducible refine e_par ?_) | (with_reducible refine v_par ?_) | (with_reducible refine e_par3 ?_) | (with_reducible refine v_par3 ?_) | (with_reducible refine e_iK ?_) | (with_reducible refine e_dnotin ?_)
  | (with_reducible refine iteT ?_) | (with_reducible refine iteF ?_))
local macro_rules | `(tactic| walk_at "go") => `(tactic| repeat walk_at "st")
/-- letters alone -/
def PsOk (ps : List (List Nat)) : Prop := ∀ l ∈ ps, ∀ c ∈ l, c < 1000
def spPlanEq (C : Addr) : Sp := fun vs H Q _ => ∃ (x y : Addr) (ks ks' : List Nat) (ps ps' : List (List Nat)), vs = [.ref x, .ref y] ∧ PlanAt C H x ks ps ∧ PlanAt C H y ks' ps' ∧ PsOk ps ∧ PsOk ps' ∧ Q (.bl (decide (ks = ks' ∧ ps = ps'))) H
def spStepped (C : Addr) : Sp := fun vs H Q _ => ∃ (x : Addr) (ks : List Nat) (ps : List (List Nat)) (name : List Nat) (k : Nat), vs = [.ref x, .str (tx name), .str (tx [k])] ∧ PlanAt C H x ks ps ∧ k ∈ ks ∧ name.length ≤ 100000 ∧ Q (.str (tx (stepOf (crossOf ks ps k) name k))) H
def spJoined (C : Addr) : Sp := fun vs H Q _ => ∃ (x : Addr) (ks : List Nat) (ps : List (List Nat)) (name way : List Nat), vs = [.ref x, .str (tx name), .str (tx way)] ∧ PlanAt C H x ks ps ∧ (∀ c ∈ way, c ∈ ks) ∧ name.length + way.length ≤ 100000 ∧ Q (.str (tx (joinOf ks ps name way))) H
def spBack (C : Addr) : Sp := fun vs H Q _ => ∃ (x : Addr) (ks : List Nat) (ps : List (List Nat)) (name : List Nat), vs = [.ref x, .str (tx name)] ∧ PlanAt C H x ks ps ∧ (∀ c ∈ name, c ∈ ks) ∧ name.length ≤ 50000 ∧ Q (.str (tx (backOf ks ps name))) H
def spWayFrom (C : Addr) : Sp := fun vs H Q _ => ∃ (x : Addr) (ks : List Nat) (ps : List (List Nat)) (name goal : List Nat), vs = [.ref x, .str (tx name), .str (tx goal)] ∧ PlanAt C H x ks ps ∧ (∀ c ∈ name, c ∈ ks) ∧ (∀ c ∈ goal, c ∈ ks) ∧ name.length ≤ 50000 ∧ goal.length ≤ 50000 ∧ Q (.str (tx (wayOf ks ps name goal))) H
section
variable {P : Program} {w : World} {K : PySem.W.Frag} {mg : Str → Option Value} {base : Heap} {C : Addr}
abbrev stPlan_eq : Stmt := (inClass (top 43) 2)
abbrev NPlan_eq : List Str := ["self", "other"]
theorem scPlan_eq : FnScope NPlan_eq ["self", "other"] (defScope stPlan_eq) := ⟨rfl, rfl, rfl, by decide +kernel, rfl, by decide +kernel, by decide +kernel⟩

theorem ok_Plan_eq (F : MAt K C "__eq__" "Plan.__eq__" stPlan_eq) (T : TxtP K mg C) : MDef P w K mg base CX0 1 C "__eq__" ["self", "other"] (spPlanEq C) := by
  refine F.ok scPlan_eq (fun _ _ _ _ _ _ us hl => match us, hl with | [_, _], _ => rfl) (fun vs H Q E h => ?_) (fun f cdv A outer s H vs Q E hr h => ?_)
  · obtain ⟨x, y, ks, ks', ps, ps', rfl, _⟩ := h
    rfl
  obtain ⟨x, y, ks, ks', ps, ps', rfl, h1, h2, o1, o2, k⟩ := h
  have hu := hu_of hr
  have nd := scPlan_eq.nd
  refine ⟨_, (pss_one (ps_ret (pe_and (pe_callB (c_isiK (K := K) rfl) (by rfl) T.isinstance (by decide +kernel) (pa_cons (pv 1) (pa_cons (pe_globC T.Plan.at) pa_nil))) (pe_and (pe_cmpR op_eq (pe_flK (K := K) rfl (pv 0) rfl) (pe_flK (K := K) rfl (pv 1) rfl) (nomark _)) (pe_one (pe_cmpR (op_eqDK (K := K) rfl hr.units) (pe_flK (K := K) rfl (pv 0) rfl) (pe_flK (K := K) rfl (pv 1) rfl) (nomark _))))))), ?_⟩
  refine s_start [some _, some _] rfl ?_
  obtain ⟨dx, t, d, a1, a2, a3⟩ := h1.ex
  obtain ⟨dy, t', d', b1, b2, b3⟩ := h2.ex
  walk_at "go"
  refine v_isiC T.Plan b1 ?_
  walk_at "go"
  refine v_fld a1 T.Plan.cl T.nK planF_k ?_
  walk_at "go"
  refine v_fld b1 T.Plan.cl T.nK planF_k ?_
  walk_at "go"
  rw [dec_tx]
  refine if_dec (fun c => ?_) (fun c => ?_)
  · walk_at "go"
    refine v_fld a1 T.Plan.cl T.nP planF_p ?_
    walk_at "go"
    refine v_fld b1 T.Plan.cl T.nP planF_p ?_
    walk_at "go"
    refine v_eqT a2 b2 o1 o2 ?_
    have e : decide (ks = ks' ∧ ps = ps') = decide (ps = ps') := decide_eq_decide.mpr ⟨fun z => z.2, fun z => ⟨c, z⟩⟩
    rw [e] at k
    exact k
  · rw [decide_eq_false fun z => c z.1] at k
    exact k
abbrev ststepped : Stmt := (top 12)
abbrev Nstepped : List Str := ["plan", "name", "kind", "partners", "place"]
theorem scstepped : FnScope Nstepped ["plan", "name", "kind"] (defScope ststepped) := ⟨rfl, rfl, rfl, by decide +kernel, rfl, by decide +kernel, by decide +kernel⟩

theorem ok_stepped (F : FnAt K mg "stepped" ststepped) (T : TxtP K mg C) : Def P w K mg base CX0 1 "stepped" ["plan", "name", "kind"] (spStepped C) := by
  refine F.ok scstepped (fun _ _ _ _ _ _ us hl => match us, hl with | [_, _, _], _ => rfl) (fun vs H Q E h => ?_) (fun f cdv A outer s H vs Q E hr h => ?_)
  · obtain ⟨x, ks, ps, name, k, rfl, _⟩ := h
    rfl
  obtain ⟨x, ks, ps, name, k, rfl, h1, hk, hl, q⟩ := h
  have hu := hu_of hr
  have nd := scstepped.nd
  refine ⟨_, (pss_cons (ps_set (i := 3) nd rfl (Or.inl rfl) (pe_dget hu (pe_flK (K := K) rfl (pv 0) rfl) (pv 2) (fun _ _ => rfl)))
      (pss_cons (ps_set (i := 4) nd rfl (Or.inl rfl) (pe_callB c_lenS (by rfl) T.len PySem.boot_len (pa_cons (pv 1) pa_nil)))
      (pss_cutS (ps_while PassesOwn.never (PW.pt (pw_and (pt_cmpR op_gt (pv 4) pe_int (nomark _)) (pw_and1 (pt_cmpR op_inS (pe_ix ix_str (pv 1) (pe_op op_sub (pv 4) pe_int) (fun _ _ => rfl)) (pv 3) (by rfl)))))
      (pss_one (ps_set (i := 4) nd rfl (Or.inl rfl) (pe_op op_sub (pv 4) pe_int))))
      (pss_cutS (ps_if (PW.pt (pw_and (pt_cmpR op_gt (pv 4) pe_int (nomark _)) (pw_and1 (pt_cmpR op_eq (pe_ix ix_str (pv 1) (pe_op op_sub (pv 4) pe_int) (fun _ _ => rfl)) (pv 2) (nomark _)))))
      (pss_one (ps_ret (pe_op op_addS (pe_slice sl_S (pv 1) po_none (po_some (pe_op op_sub (pv 4) pe_int))) (pe_slice sl_S (pv 1) (po_some (pv 4)) po_none))))
      pss_nil)
      (pss_cutS (ps_while PassesOwn.never (PW.pt (pw_and (pt_cmpR op_lt (pv 4) (pe_callB c_lenS (by rfl) T.len PySem.boot_len (pa_cons (pv 1) pa_nil)) (nomark _)) (pw_and1 (pt_cmpR op_ltS (pe_ix ix_str (pv 1) (pv 4) (fun _ _ => rfl)) (pv 2) (nomark _)))))
      (pss_one (ps_set (i := 4) nd rfl (Or.inl rfl) (pe_op op_add (pv 4) pe_int))))
      (pss_one (ps_ret (pe_op op_addS (pe_op op_addS (pe_slice sl_S (pv 1) po_none (po_some (pv 4))) (pv 2)) (pe_slice sl_S (pv 1) (po_some (pv 4)) po_none))))))))), ?_⟩
  refine s_start [some _, some _, some _, none, none] rfl ?_
  obtain ⟨dx, t, d, a1, a2, a3⟩ := h1.ex
  walk_at "go"
  refine v_fld a1 T.Plan.cl T.nO planF_o ?_
  walk_at "go"
  refine v_dget (dget_let (g := fun k => V.str (tx (crossOf ks ps k))) a3 hk) ?_
  walk_at "go"
  refine s_cut (fun σ H' => ∃ ra b : List Nat, name = ra.reverse ++ b ∧ splitB (crossOf ks ps k) name.reverse [] = (ra, b) ∧ σ = [some (.ref x), some (.str (tx name)), some (.str (tx [k])), some (.str (tx (crossOf ks ps k))), some (.int (ra.length : Nat))] ∧ H' = H) ?_ ?_
  · refine s_while (fun m σ H' => ∃ ra b : List Nat, m = ra.length ∧ name = ra.reverse ++ b ∧ splitB (crossOf ks ps k) name.reverse [] = splitB (crossOf ks ps k) ra b ∧ σ = [some (.ref x), some (.str (tx name)), some (.str (tx [k])), some (.str (tx (crossOf ks ps k))), some (.int (ra.length : Nat))] ∧ H' = H) name.length ⟨name.reverse, [], by simp, by simp, rfl, by simp, rfl⟩ ?_
    rintro m σ H' ⟨ra, b, rfl, e1, e2, rfl, rfl⟩
    walk_at "go"
    cases ra with
    | nil =>
      refine if_dec (fun c => absurd c (by simp)) (fun _ => ?_)
      walk_at "go"
      exact ⟨[], b, e1, e2, rfl, rfl⟩
    | cons y r =>
      refine if_dec (fun _ => ?_) (fun c => absurd (by simp) c)
      walk_at "go"
      refine v_ixS (c := y) (by omega) (by rw [e1]; exact at_last) ?_
      walk_at "go"
      refine if_dec (fun c => ?_) (fun c => ?_)
      · refine v_turn ?_
        walk_at "go"
        refine ⟨r.length, by simp, r, y :: b, rfl, ?_, ?_, ?_, rfl⟩
        · rw [e1, List.reverse_cons, List.append_assoc]
          rfl
        · rw [e2]
          show (if y ∈ crossOf ks ps k then _ else _) = _
          rw [if_pos c]
        · have e : (((y :: r).length : Nat) : Int) - 1 = (r.length : Nat) := by
            rw [List.length_cons]
            omega
          rw [e]
          rfl
      · walk_at "go"
        refine ⟨y :: r, b, e1, ?_, rfl, rfl⟩
        rw [e2]
        show (if y ∈ crossOf ks ps k then _ else _) = _
        rw [if_neg c]
  rintro σ H' ⟨ra, b, e1, e2, rfl, rfl⟩
  have hl2 : ra.length + b.length = name.length := by
    rw [e1, List.length_append, List.length_reverse]
  have q : Q (.str (tx (stepAt k ra b))) H' := by
    have e : stepOf (crossOf ks ps k) name k = stepAt k ra b := by
      unfold stepOf
      rw [e2]
    rw [e] at q
    exact q
  refine s_cut (fun σ H2 => ra.head? ≠ some k ∧ σ = [some (.ref x), some (.str (tx name)), some (.str (tx [k])), some (.str (tx (crossOf ks ps k))), some (.int (ra.length : Nat))] ∧ H2 = H') ?_ ?_
  · walk_at "go"
    cases ra with
    | nil =>
      refine if_dec (fun c => absurd c (by simp)) (fun _ => ?_)
      walk_at "go"
      exact ⟨by simp, rfl, rfl⟩
    | cons y r =>
      refine if_dec (fun _ => ?_) (fun c => absurd (by simp) c)
      walk_at "go"
      refine v_ixS (c := y) (by omega) (by rw [e1]; exact at_last) ?_
      walk_at "go"
      rw [dec_tx]
      refine if_dec (fun c => ?_) (fun c => ?_)
      · walk_at "go"
        have ey : y = k := by
          injection c
        subst ey
        have e3 : (((y :: r).length : Nat) : Int) - 1 = (r.length : Nat) := by
          rw [List.length_cons]
          omega
        rw [e3]
        refine v_slTo (by omega) (by omega) ?_
        walk_at "go"
        refine v_slFrom (by omega) (by omega) ?_
        have e4 : name.take ((r.length : Nat) : Int).toNat = r.reverse := by
          rw [e1, List.reverse_cons, List.append_assoc]
          exact List.take_left' (by simp)
        have e5 : name.drop (((y :: r).length : Nat) : Int).toNat = b := by
          rw [e1]
          exact List.drop_left' (by simp)
        rw [e4, e5]
        refine v_addS (by rw [List.length_reverse]; rw [List.length_cons] at hl2; omega) ?_
        have e6 : stepAt y (y :: r) b = r.reverse ++ b := by
          unfold stepAt
          rw [if_pos (show (y :: r).head? = some y from rfl)]
          rfl
        rw [e6] at q
        exact q
      · walk_at "go"
        refine ⟨?_, rfl, rfl⟩
        intro z
        injection z with z
        exact c (by rw [z])
  rintro σ H2 ⟨hh, rfl, rfl⟩
  refine s_cut (fun σ H3 => ∃ c d : List Nat, b = c ++ d ∧ putIn k b = c ++ k :: d ∧ σ = [some (.ref x), some (.str (tx name)), some (.str (tx [k])), some (.str (tx (crossOf ks ps k))), some (.int ((ra.length + c.length : Nat) : Int))] ∧ H3 = H2) ?_ ?_
  · refine s_while (fun m σ H3 => ∃ c d : List Nat, m = d.length ∧ b = c ++ d ∧ putIn k b = c ++ putIn k d ∧ σ = [some (.ref x), some (.str (tx name)), some (.str (tx [k])), some (.str (tx (crossOf ks ps k))), some (.int ((ra.length + c.length : Nat) : Int))] ∧ H3 = H2) b.length ⟨[], b, rfl, rfl, rfl, rfl, rfl⟩ ?_
    rintro m σ H3 ⟨c, d, rfl, e3, e4, rfl, rfl⟩
    have hl3 : ra.length + (c.length + d.length) = name.length := by
      rw [← hl2, e3, List.length_append]
    walk_at "go"
    cases d with
    | nil =>
      refine if_dec (fun z => ?_) (fun _ => ?_)
      · rw [List.length_nil] at hl3
        omega
      walk_at "go"
      exact ⟨c, [], e3, e4, rfl, rfl⟩
    | cons y r =>
      rw [List.length_cons] at hl3
      refine if_dec (fun _ => ?_) (fun z => by omega)
      walk_at "go"
      refine v_ixS (c := y) (by omega) ?_ ?_
      · rw [e1, e3, ← List.append_assoc]
        have := at_mid (x := y) (a := ra.reverse ++ c) (b := r)
        rw [List.length_append, List.length_reverse] at this
        exact this
      walk_at "go"
      rw [lt_one]
      refine if_dec (fun z => ?_) (fun z => ?_)
      · refine v_turn ?_
        walk_at "go"
        refine ⟨r.length, by simp, c ++ [y], r, rfl, ?_, ?_, ?_, rfl⟩
        · rw [e3, List.append_assoc]
          rfl
        · rw [e4, List.append_assoc]
          congr 1
          unfold putIn
          rw [List.takeWhile_cons_of_pos (by simpa using z), List.dropWhile_cons_of_pos (by simpa using z)]
          rfl
        · have e : ((ra.length + c.length : Nat) : Int) + 1 = ((ra.length + (c ++ [y]).length : Nat) : Int) := by
            rw [List.length_append, List.length_singleton]
            omega
          rw [e]
          rfl
      · walk_at "go"
        refine ⟨c, y :: r, e3, ?_, rfl, rfl⟩
        rw [e4]
        congr 1
        unfold putIn
        rw [List.takeWhile_cons_of_neg (by simpa using z), List.dropWhile_cons_of_neg (by simpa using z)]
        rfl
  rintro σ H3 ⟨c, d, e3, e4, rfl, rfl⟩
  have hl3 : ra.length + (c.length + d.length) = name.length := by
    rw [← hl2, e3, List.length_append]
  walk_at "go"
  refine v_slTo (by omega) (by omega) ?_
  have e5 : name.take ((ra.length + c.length : Nat) : Int).toNat = ra.reverse ++ c := by
    rw [e1, e3, ← List.append_assoc]
    exact List.take_left' (by rw [List.length_append, List.length_reverse]; omega)
  have e6 : name.drop ((ra.length + c.length : Nat) : Int).toNat = d := by
    rw [e1, e3, ← List.append_assoc]
    exact List.drop_left' (by rw [List.length_append, List.length_reverse]; omega)
  rw [e5]
  have l1 : (ra.reverse ++ c).length + [k].length ≤ 1000000 := by
    rw [List.length_append, List.length_reverse, List.length_singleton]
    omega
  have l2 : (ra.reverse ++ c ++ [k]).length + d.length ≤ 1000000 := by
    rw [List.length_append, List.length_append, List.length_reverse, List.length_singleton]
    omega
  walk_at "go"
  refine v_slFrom (by omega) (by omega) ?_
  rw [e6]
  refine v_addS l2 ?_
  have e7 : stepAt k ra b = ra.reverse ++ c ++ [k] ++ d := by
    unfold stepAt
    rw [if_neg hh, e4]
    simp
  rw [e7] at q
  exact q
abbrev stjoined : Stmt := (top 13)
abbrev Njoined : List Str := ["plan", "name", "way", "kind"]
theorem scjoined : FnScope Njoined ["plan", "name", "way"] (defScope stjoined) := ⟨rfl, rfl, rfl, by decide +kernel, rfl, by decide +kernel, by decide +kernel⟩

theorem ok_joined (F : FnAt K mg "joined" stjoined) (D_stepped : Def P w K mg base CX0 1 "stepped" ["plan", "name", "kind"] (spStepped C)) : Def P w K mg base CX0 2 "joined" ["plan", "name", "way"] (spJoined C) := by
  refine F.ok scjoined (fun _ _ _ _ _ _ us hl => match us, hl with | [_, _, _], _ => rfl) (fun vs H Q E h => ?_) (fun f cdv A outer s H vs Q E hr h => ?_)
  · obtain ⟨x, ks, ps, name, k, rfl, _⟩ := h
    rfl
  obtain ⟨x, ks, ps, name, way, rfl, h1, hk, hl, q⟩ := h
  have hu := hu_of hr
  have nd := scjoined.nd
  refine ⟨_, (pss_cons (ps_for PassesOwn.never rfl (pi_str (pv 2)) (pg_name (i := 3) nd rfl (Or.inl rfl))
      (pss_one (ps_set (i := 1) nd rfl (Or.inl rfl) (pe_cd D_stepped hr pass0 (pa_cons (pv 0) (pa_cons (pv 1) (pa_cons (pv 3) pa_nil)))))))
      (pss_one (ps_ret (pv 1)))), ?_⟩
  refine s_start [some _, some _, some _, none] rfl ?_
  walk_at "go"
  refine for_it (walk_tx way) (fun i σ H' => ∃ z, σ = [some (.ref x), some (.str (tx (joinOf ks ps name (way.take i)))), some (.str (tx way)), z] ∧ H' = H) ⟨_, rfl, rfl⟩ (fun _ _ _ _ _ => trivial) ?_ ?_
  · rintro i v σ H2 H3 hi ⟨z, rfl, rfl⟩ ⟨rfl, rfl⟩
    walk_at "go"
    refine ⟨x, ks, ps, _, way.getD i 0, rfl, h1, hk _ (getD_mem hi), ?_, ?_⟩
    · have := joinOf_len ks ps (way.take i) name
      rw [List.length_take] at this
      omega
    walk_at "go"
    rw [← joinOf_snoc, ← take_getD hi]
    exact ⟨_, rfl, rfl⟩
  · rintro σ H2 ⟨z, rfl, rfl⟩
    walk_at "go"
    rw [List.take_of_length_le (Nat.le_refl _)]
    exact q
end
end Cw
set_option Elab.async false
set_option linter.all false
set_option maxRecDepth 100000
set_option maxHeartbeats 4000000
/-! errors of one's own without values -/
namespace Cw
open PySem PySem.Spec L2
/-- an error class of the text, down from ValueError, without an __init__ -/
structure ExcF (K : PySem.W.Frag) (mg : Str → Option Value) (x : Str) (C : Addr) : Prop where
  «at» : mg x = some (.ref C)
  exc : PySem.W.excIn K C [.type "ValueError", .type "Exception", .type "BaseException", .type "object"] "ValueError.__new__" = true
  kp : PySem.W.keepIn K (.ref C) = true
  ty : PySem.W.typeIn K (.ref C) = some (.type "type")
  ec : ExcC K C
section
variable {X : Cx} {C : Addr} {x : Str} {p pos : PySem.Pos}
theorem pmk_own0 (F : ExcF X.K X.mg x C) (hg : Gl X x := by rfl) (hdb : (x == ("__debug__" : Str)) = false := by decide) : PMk X (.Call (.Name x p) [] [] pos) (fun _ H Q => Q (.ref C) none H) := by
  intro pins s σ H Q I h
  refine PySem.wpAny_Call_Name_kw (ld_glob I hg F.at ?_ hdb)
  refine PySem.W.callWith_K0 I.kIn F.kp ?_
  show wpAny _ _ (call (.ref C) []) _ _ _
  obtain ⟨bm, N, nm, qn, bs, hdct, sn, sub, ab, col, dd, k0, k1, k2, k3, k5, mN, hC, hN, hni, T⟩ := exc_obj I.kIn F.exc
  refine wpAny_call_exc_subT PySem.F.excBase_ValueError T hC hN hni (fun h' e hm => ?_) (Nat.zero_le _)
  exact mk_of I hm (raises_own F.ec.hs F.ty) h (I.hok.gone hm.new)
end
theorem v_gTup2 {K : PySem.W.Frag} {n i j : Nat} {σ : St} {H : Hp} {Q : St → Hp → Prop} {p : Addr} {a b : V} (hn : n = 2) (h : H p = some (.tup [a, b])) (q : Q ((σ.set i (some a)).set j (some b)) H) : gTup K n (gCons (gName i) (gCons (gName j) gNil)) (.ref p) σ H Q :=
  ⟨p, _, rfl, SqT.of h, hn.symm, a, [b], rfl, b, [], rfl, rfl, q⟩
theorem e_md {C : Addr} {m : Str} {sp : Sp} {E : XK} {ta : TE} {t : TA} {σ : St} {H : Hp} {Q : VK} (q : ta σ H fun x H1 => ∃ a dx fs, x = .ref a ∧ H1 a = some (.ins C dx fs) ∧ fs.lookup m = none ∧ t σ H1 fun vs H2 => sp (x :: vs) H2 Q E) : tMeth C m sp [] E ta t σ H Q := by
  have e : tMeth C m sp [] E ta t = fun σ H Q => ta σ H fun x H1 => ∃ a dx fs, x = .ref a ∧ H1 a = some (.ins C dx fs) ∧ fs.lookup m = none ∧ t σ H1 fun vs H2 => sp (x :: vs) H2 Q E := by
    unfold tMeth
    simp only [List.append_nil]
  rw [e]
  exact q
theorem v_md {P : Addr → Prop} {C a dx : Addr} {fs : List (Str × V)} {m : Str} {H : Hp} (h : H a = some (.ins C dx fs)) (hn : fs.lookup m = none) (q : P a) : ∃ a' dx fs, V.ref a = .ref a' ∧ H a' = some (.ins C dx fs) ∧ fs.lookup m = none ∧ P a' := ⟨a, dx, fs, rfl, h, hn, q⟩
/-- a suite that is walked only where q holds -/
theorem pss_given {X : Cx} {b : List Stmt} {t : TS} {q : Prop} (h : q → PSs X b t) : PSs X b (fun D σ H => q ∧ t D σ H) := by
  by_cases e : q
  · exact ⟨fun pins s σ H D I z => (h e).run pins s σ H D I z.2⟩
  · exact ⟨fun pins s σ H D I z => absurd z.1 e⟩
end Cw
set_option Elab.async false
set_option linter.all false
set_option maxRecDepth 100000
set_option maxHeartbeats 4000000
namespace Cw
open PySem PySem.Spec L2
local macro_rules | `(tactic| walk_at "side") => `(tactic| first | omega | assumption | (dsimp only; omega) | (unfold CMul; omega) | exact ⟨by decide, by decide, by decide⟩ | exact wdiv (by first | assumption | decide | omega) (by first | assumption | decide | omega) | (simp only [List.length_cons, List.length_nil]; omega) | rfl)
local macro_rules | `(tactic| walk_at "hl") => `(tactic| first | assumption | exact upd_same | ((refine Cw.Same.at (by assumption) ?_); walk_at "hl") | ((refine Cw.Keep.at (by assumption) ?_ (by assumption)); walk_at "hl"))
local macro_rules | `(tactic| walk_at "st") => `(tactic| first
  | (with_reducible refine s_seq ?_) | (with_reducible refine g_nm ?_) | (with_reducible refine s_next ?_) | (with_reducible refine s_set ?_) | (with_reducible refine s_drop ?_) | (with_reducible refine s_ret ?_) | (with_reducible refine s_if ?_)
  | ((with_reducible refine e_varG ?_); refine ⟨_, (by with_unfolding_all rfl), ?_⟩) | (with_reducible refine e_c ?_) | (with_reducible refine e_op ?_) | (with_reducible refine e_un ?_)
  | (with_reducible refine e_cons ?_) | (with_reducible refine e_nil ?_) | (with_reducible refine e_cb ?_) | (with_reducible refine e_call ?_) | (with_reducible refine e_md ?_)
  | (with_reducible refine t_test ?_) | (with_reducible refine t_B ?_) | (with_reducible refine t_and ?_) | (with_reducible refine t_or ?_) | (with_reducible refine t_not ?_)
  | (with_reducible refine e_andV ?_) | (with_reducible refine e_orV ?_) | (with_reducible refine e_notV ?_) | (with_reducible refine e_if ?_)
  | (with_reducible refine v_I0 ?_) | ((with_reducible refine v_I ?c ?_); try (case c => walk_at "side")) | (with_reducible refine v_bl ?_)
  | ((with_reducible refine v_eq ?c ?_); (case c => with_unfolding_all rfl)) | ((with_reducible refine v_ne ?c ?_); (case c => with_unfolding_all rfl))
  | (with_reducible refine v_inti ?_) | (with_reducible refine v_intb ?_) | ((with_reducible refine v_lenG ?_); refine ⟨_, (by walk_at "hl"), ?_⟩)
  | ((with_reducible refine v_lenS ?c ?_); try (case c => walk_at "side"))
  | (with_reducible refine e_dnew ?_) | (with_reducible refine e_dget ?_) | (with_reducible refine s_dput ?_) | (with_reducible refine e_lst ?_) | (with_reducible refine e_tup ?_)
  | ((with_reducible refine v_lst ?c ?_); (case c => walk_at "side")) | ((with_reducible refine v_tup ?c ?_); (case c => walk_at "side"))
  | ((with_reducible refine v_dgetG ?_); refine ⟨_, (by assumption), ?_⟩)
  | (with_reducible refine e_sl ?_) | (with_reducible refine e_nopart ?_) | (with_reducible refine e_part ?_) | (with_reducible refine e_m1 ?_) | (with_reducible refine v_isS ?_) | (with_reducible refine v_int ?_)
  | (with_reducible refine e_lc ?_) | (with_reducible refine e_iStr ?_) | (with_reducible refine e_iEnumS ?_) | (with_reducible refine v_iEnumS ?_) | (with_reducible refine v_str ?_) | (with_reducible refine e_yes ?_) | (with_reducible refine e_fld ?_) | (with_reducible refine e_sfld ?_)
  | ((with_reducible refine v_addS ?c ?_); try (case c => walk_at "side")) | (with_reducible refine v_inS ?_) | (with_reducible refine v_notInS ?_) | (with_reducible refine v_ltS ?_)
  | ((with_reducible refine v_inLG ?_); refine ⟨_, (by walk_at "hl"), ?_⟩) | (with_reducible refine v_isiS ?_) | (with_reducible refine e_revS ?_) | ((with_reducible refine v_revS ?c ?_); try (case c => walk_at "side"))
  | ((with_reducible refine v_lenSetG ?_); refine ⟨_, (by walk_at "hl"), ?_⟩)
  | (with_reducible refine e_bm ?_) | (with_reducible refine e_bm0 ?_) | ((with_reducible refine v_tyLG ?_); refine ⟨_, (by walk_at "hl"), ?_⟩)
  | (with_reducible refine iteNT ?_) | (with_reducible refine iteNF ?_) | (with_reducible refine e_for ?_)
  | (with_reducible refine e_iL ?_) | (with_reducible refine e_iT ?_) | ((with_reducible refine v_iLG ?_); refine ⟨_, (by walk_at "hl"), ?_⟩) | (with_reducible refine e_iR1 ?_) | ((with_reducible refine v_iR1 ?c1 ?c2 ?_); try (case c1 => walk_at "side"); try (case c2 => walk_at "side"))
  | (with_reducible refine e_iR2 ?_) | ((with_reducible refine v_iR2 ?c1 ?_); try (case c1 => walk_at "side"))
  | (with_reducible refine e_pr0 ?_) | (with_reducible refine e_pr ?_) | (with_reducible refine e_disp ?_) | (with_reducible refine s_asgT ?_) | (with_reducible refine e_tryA ?_) | (with_reducible refine e_callS ?_) | (with_reducible refine e_mdS ?_) | (with_reducible refine e_par ?_) | (with_reducible refine v_par ?_) | (with_reducible refine e_par3 ?_) | (with_reducible refine v_par3 ?_) | (with_reducible refine e_iK ?_) | (with_reducible refine e_dnotin ?_)
  | (with_reducible refine iteT ?_) | (with_reducible refine iteF ?_))
local macro_rules | `(tactic| walk_at "go") => `(tactic| repeat walk_at "st")
def roomF (x : Addr) (name : List Nat) : List (Str × V) := putF "name" (.str (tx name)) (putF "plan" (.ref x) [])
theorem npn : ¬ (("plan" : Str) = "name") := by decide +kernel
theorem roomF_p {x : Addr} {name : List Nat} : (roomF x name).lookup ("plan" : Str) = some (.ref x) := by
  unfold roomF
  rw [lookup_putF, if_neg npn, lookup_putF, if_pos rfl]
theorem roomF_n {x : Addr} {name : List Nat} : (roomF x name).lookup ("name" : Str) = some (.str (tx name)) := by
  unfold roomF
  rw [lookup_putF, if_pos rfl]
/-- a room of the plan at x stands at r -/
structure RoomAt (R : Addr) (H : Hp) (r x : Addr) (name : List Nat) : Prop where
  ex : ∃ dx, H r = some (.ins R dx (roomF x name))
theorem RoomAt.same {R : Addr} {H H' : Hp} {r x : Addr} {name : List Nat} (h : RoomAt R H r x name) (s : Same H H') : RoomAt R H' r x name := by
  obtain ⟨dx, e⟩ := h.ex
  exact ⟨dx, s _ _ e⟩
structure TxtR (K : PySem.W.Frag) (mg : Str → Option Value) (C R O : Addr) : Prop extends TxtP K mg C where
  enumerate : mg "enumerate" = none
  g_MOST_LETTERS : ∃ t, mg "MOST_LETTERS" = some (.int 2000 t)
  Room : ClsF K mg "Room" R
  nPl : NoAttr K R "plan"
  nNm : NoAttr K R "name"
  OtherPlan : ExcF K mg "OtherPlan" O
def spNeedWay (C : Addr) : Sp := fun vs H Q _ => ∃ (x : Addr) (ks : List Nat) (ps : List (List Nat)) (way : List Nat), vs = [.ref x, .str (tx way)] ∧ PlanAt C H x ks ps ∧ (∀ c ∈ way, c ∈ ks) ∧ way.length ≤ 2000 ∧ ∀ H', Same H H' → Q (.str (tx way)) H'
/-- two plans, and what is due if they are equal and if not -/
def Plans2 (C : Addr) (H : Hp) (x y : Addr) (e : Bool) : Prop := ∃ (ks ks' : List Nat) (ps ps' : List (List Nat)), PlanAt C H x ks ps ∧ PlanAt C H y ks' ps' ∧ PsOk ps ∧ PsOk ps' ∧ e = decide (ks = ks' ∧ ps = ps')
def spNeedSame (C O : Addr) : Sp := fun vs H Q E => ∃ (x y : Addr) (e : Bool), vs = [.ref x, .ref y] ∧ Plans2 C H x y e ∧ (e = true → Q .non H) ∧ (e = false → E (.ref O) none H)
def spRoom0 (C R : Addr) : Sp := fun vs H Q _ => ∃ (r dx x : Addr) (ks : List Nat) (ps : List (List Nat)) (way : List Nat), vs = [.ref r, .ref x, .str (tx way)] ∧ H r = some (.ins R dx []) ∧ PlanAt C H x ks ps ∧ (∀ c ∈ way, c ∈ ks) ∧ way.length ≤ 2000 ∧
  ∀ H', Keep r H H' → RoomAt R H' r x (joinOf ks ps [] way) → Q .non H'
def spRoom (C R : Addr) : Sp := fun vs H Q _ => ∃ (x : Addr) (ks : List Nat) (ps : List (List Nat)) (way : List Nat), vs = [.ref x, .str (tx way)] ∧ PlanAt C H x ks ps ∧ (∀ c ∈ way, c ∈ ks) ∧ way.length ≤ 2000 ∧ ∀ r H', H r = none → Same H H' → RoomAt R H' r x (joinOf ks ps [] way) → Q (.ref r) H'
theorem PlanAt.none {C : Addr} {H : Hp} {x : Addr} {ks : List Nat} {ps : List (List Nat)} (h : PlanAt C H x ks ps) {a b : Addr} {o u : HO} (ha : H a = none) (hb : H b = none) : PlanAt C (upd (upd H a o) b u) x ks ps := by
  refine h.same fun c z hc => ?_
  rw [upd_ne (ne_of_none hc hb), upd_ne (ne_of_none hc ha)]
  exact hc
theorem conv_room (C R : Addr) : Conv R (spRoom0 C R) (spRoom C R) := by
  rintro vs H Q E ⟨x, ks, ps, way, rfl, hp, h1, h2, k⟩ r dx hx hdx hne
  refine ⟨r, dx, x, ks, ps, way, rfl, upd_same, hp.none hdx hx, h1, h2, fun H' s' a => ⟨rfl, k r H' hx (fun b o hb => ?_) a⟩⟩
  refine s' b o ?_ (ne_of_none hb hx)
  rw [upd_ne (ne_of_none hb hx), upd_ne (ne_of_none hb hdx)]
  exact hb
section
variable {P : Program} {w : World} {K : PySem.W.Frag} {mg : Str → Option Value} {base : Heap} {C R O : Addr}
abbrev stneed_way : Stmt := (top 28)
abbrev Nneed_way : List Str := ["plan", "way", "index", "letter"]
theorem scneed_way : FnScope Nneed_way ["plan", "way"] (defScope stneed_way) := ⟨rfl, rfl, rfl, by decide +kernel, rfl, by decide +kernel, by decide +kernel⟩

theorem ok_need_way (F : FnAt K mg "need_way" stneed_way) (T : TxtR K mg C R O) : Def P w K mg base CX0 1 "need_way" ["plan", "way"] (spNeedWay C) := by
  refine F.ok scneed_way (fun _ _ _ _ _ _ us hl => match us, hl with | [_, _], _ => rfl) (fun vs H Q E h => ?_) (fun f cdv A outer s H vs Q E hr h => ?_)
  · obtain ⟨x, ks, ps, way, rfl, _⟩ := h
    rfl
  obtain ⟨x, ks, ps, way, rfl, h1, hk, hl, q⟩ := h
  have hu := hu_of hr
  have nd := scneed_way.nd
  refine ⟨_, (pss_cons (ps_if (pt_not (pt_val (pe_callB (c_isiK (K := K) rfl) (by rfl) T.isinstance (by decide +kernel) (pa_cons (pv 1) (pa_cons (pe_bltn (v := .ty "str") (u := .type "str") (by rfl) T.str (by decide +kernel) rfl) pa_nil)))))
      (pss_one ps_never)
      pss_nil)
      (pss_cons (ps_for PassesOwn.never rfl (pi_enumS (by rfl) T.enumerate (pa_cons (pv 1) pa_nil)) (pg_tup rfl (pgs_cons (pg_name (i := 2) nd rfl (Or.inl rfl)) (pgs_cons (pg_name (i := 3) nd rfl (Or.inl rfl)) pgs_nil)))
      (pss_one (ps_if (pt_cmpR op_notInS (pv 3) (pe_flK (K := K) rfl (pv 0) rfl) (by rfl))
        (pss_one ps_never)
        pss_nil)))
      (pss_cons (ps_if (pt_cmpR op_gt (pe_callB c_lenS (by rfl) T.len PySem.boot_len (pa_cons (pv 1) pa_nil)) (pe_globI T.g_MOST_LETTERS) (nomark _))
      (pss_one ps_never)
      pss_nil)
      (pss_one (ps_ret (pv 1)))))), ?_⟩
  refine s_start [some _, some _, none, none] rfl ?_
  walk_at "go"
  refine for_it (walk_enumS way) (fun i σ H' => ∃ y z, σ = [some (.ref x), some (.str (tx way)), y, z] ∧ Same H H') ⟨_, _, rfl, Same.refl _⟩ (fun _ _ _ _ _ => trivial) ?_ ?_
  · rintro i v σ H2 H3 hi ⟨y, z, rfl, s2⟩ ⟨t, c, rfl, ht, rfl, hc⟩
    have s3 : Same H (upd H2 t (.tup [.int (i : Nat), .str (tx [c])])) := s2.trans (Same.new ht)
    obtain ⟨dx, t', d, a1, a2, a3⟩ := h1.ex
    refine v_gTup2 rfl upd_same ?_
    walk_at "go"
    refine v_fld (s3 _ _ a1) T.Plan.cl T.nK planF_k ?_
    walk_at "go"
    refine if_ndec (fun z => absurd (hk c (List.mem_of_getElem? hc)) z) (fun _ => ?_)
    walk_at "go"
    exact ⟨_, _, rfl, s3⟩
  · rintro σ H2 ⟨y, z, rfl, s2⟩
    walk_at "go"
    refine if_dec (fun c => ?_) (fun c => ?_)
    · omega
    walk_at "go"
    exact q H2 s2
abbrev stneed_same : Stmt := (top 29)
abbrev Nneed_same : List Str := ["plan", "other"]
theorem scneed_same : FnScope Nneed_same ["plan", "other"] (defScope stneed_same) := ⟨rfl, rfl, rfl, by decide +kernel, rfl, by decide +kernel, by decide +kernel⟩

theorem ok_need_same (F : FnAt K mg "need_same" stneed_same) (T : TxtR K mg C R O) (N_Plan_eq : MDef P w K mg base CX0 1 C "__eq__" ["self", "other"] (spPlanEq C)) : Def P w K mg base (L2.CX P w) 3 "need_same" ["plan", "other"] (spNeedSame C O) := by
  refine F.okX scneed_same (fun _ _ _ _ _ _ us hl => match us, hl with | [_, _], _ => rfl) (fun vs H Q E h => ?_) (fun f cdv A outer s H vs Q E hr h => ?_)
  · obtain ⟨x, y, e, rfl, _⟩ := h
    rfl
  obtain ⟨x, y, e, rfl, ⟨ks, ks', ps, ps', p1, p2, o1, o2, he⟩, q1, q2⟩ := h
  have hu := hu_of hr
  have nd := scneed_same.nd
  refine ⟨_, (pss_one (ps_if (pt_cmpR (op_neM N_Plan_eq T.Plan.ne T.Plan.ob hr pass0) (pv 0) (pv 1) (nomark _))
      (pss_one (ps_raise rfl (takes_of rfl rfl rfl rfl) (pmk_own0 T.OtherPlan)))
      pss_nil)), ?_⟩
  refine s_start [some _, some _] rfl ?_
  walk_at "go"
  obtain ⟨dx, t, d, a1, a2, a3⟩ := p1.ex
  obtain ⟨dy, t', d', b1, b2, b3⟩ := p2.ex
  refine v_M2n a1 b1 ?_
  refine ⟨x, y, ks, ks', ps, ps', rfl, p1, p2, o1, o2, ?_⟩
  refine ⟨_, rfl, ?_⟩
  walk_at "go"
  refine if_ndec (fun c => ?_) (fun c => ?_)
  · exact q2 (by rw [he, decide_eq_false c])
  · walk_at "go"
    exact q1 (by rw [he, decide_eq_true c])
abbrev stRoom_init : Stmt := (inClass (top 31) 0)
abbrev NRoom_init : List Str := ["self", "plan", "way"]
theorem scRoom_init : FnScope NRoom_init ["self", "plan", "way"] (defScope stRoom_init) := ⟨rfl, rfl, rfl, by decide +kernel, rfl, by decide +kernel, by decide +kernel⟩

theorem ok_Room {dvs : List V} (F : MAtD K R "__init__" "Room.__init__" stRoom_init dvs) (hd : dvs.length = 1) (T : TxtR K mg C R O) (D_need_way : Def P w K mg base CX0 1 "need_way" ["plan", "way"] (spNeedWay C)) (D_joined : Def P w K mg base CX0 2 "joined" ["plan", "name", "way"] (spJoined C)) :
    CMk P w K mg base CX0 3 "Room" R (spRoom C R) ["self", "plan", "way"] "Room.__init__" stRoom_init dvs := by
  refine F.make (sp0 := spRoom0 C R) T.Room scRoom_init (by intro z; rw [z] at hd; cases hd) (fun T kV doc pm an cdv ct us its l1 l2 => ?_) (fun vs H Q E h => ?_) (conv_room C R) (fun f cdv A outer s H vs Q E hr h => ?_)
  · rw [hd] at l2 ⊢
    match us, l1, its, l2 with
    | [_, _, _], _, [_], _ => exact ⟨_, rfl, rfl⟩
  · obtain ⟨r, dx, x, ks, ps, way, rfl, _⟩ := h
    rfl
  obtain ⟨r, dx, x, ks, ps, way, rfl, hx, hp, h1, h2, k⟩ := h
  have hu := hu_of hr
  have nd := scRoom_init.nd
  replace D_need_way := D_need_way.mono (show 1 ≤ 2 by decide)
  refine ⟨_, (pss_cons (ps_flK (K := K) rfl (pv 0) (pv 1) rfl)
      (pss_one (ps_flK (K := K) rfl (pv 0) (pe_cd D_joined hr pass0 (pa_cons (pv 1) (pa_cons (pe_tx [] (by decide +kernel)) (pa_cons (pe_cd D_need_way hr pass0 (pa_cons (pv 1) (pa_cons (pv 2) pa_nil))) pa_nil)))) rfl))), ?_⟩
  refine s_start [some _, some _, some _] rfl ?_
  walk_at "go"
  refine v_sfld hx T.Room.cl T.nPl (by decide) fun H1 s1 e1 => ?_
  walk_at "go"
  have hp1 : PlanAt C H1 x ks ps := by
    obtain ⟨dx', t', d, a1, a2, a3⟩ := hp.ex
    exact ⟨dx', t', d, s1 _ _ a1 (fun z => by rw [z, hx] at a1; injection a1 with a1; injection a1 with _ _ a1; cases a1), s1 _ _ a2 (ne_of a2 hx (by intro z; cases z)), s1 _ _ a3 (ne_of a3 hx (by intro z; cases z))⟩
  refine ⟨x, ks, ps, way, rfl, hp1, h1, h2, fun H2 s2 => ?_⟩
  walk_at "go"
  refine ⟨x, ks, ps, [], way, rfl, hp1.same s2, h1, by rw [List.length_nil]; omega, ?_⟩
  walk_at "go"
  refine v_sfld (s2 _ _ e1) T.Room.cl T.nNm (by show 1 < 1000; decide) fun H3 s3 e3 => ?_
  refine k H3 (fun b o hb nb => s3 _ _ (s2 _ _ (s1 _ _ hb nb)) nb) ⟨dx, e3⟩
end
end Cw
set_option Elab.async false
set_option linter.all false
set_option maxRecDepth 100000
set_option maxHeartbeats 4000000
namespace Cw
open PySem PySem.Spec L2
local macro_rules | `(tactic| walk_at "side") => `(tactic| first | omega | assumption | (dsimp only; omega) | (unfold CMul; omega) | exact ⟨by decide, by decide, by decide⟩ | exact wdiv (by first | assumption | decide | omega) (by first | assumption | decide | omega) | (simp only [List.length_cons, List.length_nil]; omega) | rfl)
local macro_rules | `(tactic| walk_at "hl") => `(tactic| first | assumption | exact upd_same | ((refine Cw.Same.at (by assumption) ?_); walk_at "hl") | ((refine Cw.Keep.at (by assumption) ?_ (by assumption)); walk_at "hl"))
local macro_rules | `(tactic| walk_at "st") => `(tactic| first
  | (with_reducible refine s_seq ?_) | (with_reducible refine g_nm ?_) | (with_reducible refine s_next ?_) | (with_reducible refine s_set ?_) | (with_reducible refine s_drop ?_) | (with_reducible refine s_ret ?_) | (with_reducible refine s_if ?_)
  | ((with_reducible refine e_varG ?_); refine ⟨_, (by with_unfolding_all rfl), ?_⟩) | (with_reducible refine e_c ?_) | (with_reducible refine e_op ?_) | (with_reducible refine e_un ?_)
  | (with_reducible refine e_cons ?_) | (with_reducible refine e_nil ?_) | (with_reducible refine e_cb ?_) | (with_reducible refine e_call ?_) | (with_reducible refine e_md ?_)
  | (with_reducible refine t_test ?_) | (with_reducible refine t_B ?_) | (with_reducible refine t_and ?_) | (with_reducible refine t_or ?_) | (with_reducible refine t_not ?_)
  | (with_reducible refine e_andV ?_) | (with_reducible refine e_orV ?_) | (with_reducible refine e_notV ?_) | (with_reducible refine e_if ?_)
  | (with_reducible refine v_I0 ?_) | ((with_reducible refine v_I ?c ?_); try (case c => walk_at "side")) | (with_reducible refine v_bl ?_)
  | ((with_reducible refine v_eq ?c ?_); (case c => with_unfolding_all rfl)) | ((with_reducible refine v_ne ?c ?_); (case c => with_unfolding_all rfl))
  | (with_reducible refine v_inti ?_) | (with_reducible refine v_intb ?_) | ((with_reducible refine v_lenG ?_); refine ⟨_, (by walk_at "hl"), ?_⟩)
  | ((with_reducible refine v_lenS ?c ?_); try (case c => walk_at "side"))
  | (with_reducible refine e_dnew ?_) | (with_reducible refine e_dget ?_) | (with_reducible refine s_dput ?_) | (with_reducible refine e_lst ?_) | (with_reducible refine e_tup ?_)
  | ((with_reducible refine v_lst ?c ?_); (case c => walk_at "side")) | ((with_reducible refine v_tup ?c ?_); (case c => walk_at "side"))
  | ((with_reducible refine v_dgetG ?_); refine ⟨_, (by assumption), ?_⟩)
  | (with_reducible refine e_sl ?_) | (with_reducible refine e_nopart ?_) | (with_reducible refine e_part ?_) | (with_reducible refine e_m1 ?_) | (with_reducible refine v_isS ?_) | (with_reducible refine v_int ?_)
  | (with_reducible refine e_lc ?_) | (with_reducible refine e_iStr ?_) | (with_reducible refine e_iEnumS ?_) | (with_reducible refine v_iEnumS ?_) | (with_reducible refine v_str ?_) | (with_reducible refine e_yes ?_) | (with_reducible refine e_fld ?_) | (with_reducible refine e_sfld ?_)
  | ((with_reducible refine v_addS ?c ?_); try (case c => walk_at "side")) | (with_reducible refine v_inS ?_) | (with_reducible refine v_notInS ?_) | (with_reducible refine v_ltS ?_)
  | ((with_reducible refine v_inLG ?_); refine ⟨_, (by walk_at "hl"), ?_⟩) | (with_reducible refine v_isiS ?_) | (with_reducible refine e_revS ?_) | ((with_reducible refine v_revS ?c ?_); try (case c => walk_at "side"))
  | ((with_reducible refine v_lenSetG ?_); refine ⟨_, (by walk_at "hl"), ?_⟩)
  | (with_reducible refine e_bm ?_) | (with_reducible refine e_bm0 ?_) | ((with_reducible refine v_tyLG ?_); refine ⟨_, (by walk_at "hl"), ?_⟩)
  | (with_reducible refine iteNT ?_) | (with_reducible refine iteNF ?_) | (with_reducible refine e_for ?_)
  | (with_reducible refine e_iL ?_) | (with_reducible refine e_iT ?_) | ((with_reducible refine v_iLG ?_); refine ⟨_, (by walk_at "hl"), ?_⟩) | (with_reducible refine e_iR1 ?_) | ((with_reducible refine v_iR1 ?c1 ?c2 ?_); try (case c1 => walk_at "side"); try (case c2 => walk_at "side"))
  | (with_reducible refine e_iR2 ?_) | ((with_reducible refine v_iR2 ?c1 ?_); try (case c1 => walk_at "side"))
  | (with_reducible refine e_pr0 ?_) | (with_reducible refine e_pr ?_) | (with_reducible refine e_disp ?_) | (with_reducible refine s_asgT ?_) | (with_reducible refine e_tryA ?_) | (with_reducible refine e_callS ?_) | (with_reducible refine e_mdS ?_) | (with_reducible refine e_par ?_) | (with_reducible refine v_par ?_) | (with_reducible refine e_par3 ?_) | (with_reducible refine v_par3 ?_) | (with_reducible refine e_iK ?_) | (with_reducible refine e_dnotin ?_)
  | (with_reducible refine iteT ?_) | (with_reducible refine iteF ?_))
local macro_rules | `(tactic| walk_at "go") => `(tactic| repeat walk_at "st")
theorem Plans2.same {C : Addr} {H H' : Hp} {x y : Addr} {e : Bool} (h : Plans2 C H x y e) (s : Same H H') : Plans2 C H' x y e := by
  obtain ⟨ks, ks', ps, ps', a, b, c⟩ := h
  exact ⟨ks, ks', ps, ps', a.same s, b.same s, c⟩
def spRoomLen (R : Addr) : Sp := fun vs H Q _ => ∃ (r x : Addr) (name : List Nat), vs = [.ref r] ∧ RoomAt R H r x name ∧ name.length ≤ 100000 ∧ Q (.int name.length) H
/-- two rooms, and whether their plans are equal -/
structure Rooms2 (C R : Addr) (H : Hp) (r x : Addr) (a : List Nat) (r' y : Addr) (b : List Nat) (e : Bool) : Prop where
  one : RoomAt R H r x a
  two : RoomAt R H r' y b
  pl : Plans2 C H x y e
  la : a.length ≤ 2000
  lb : b.length ≤ 2000
theorem Rooms2.same {C R : Addr} {H H' : Hp} {r x : Addr} {a : List Nat} {r' y : Addr} {b : List Nat} {e : Bool} (h : Rooms2 C R H r x a r' y b e) (s : Same H H') : Rooms2 C R H' r x a r' y b e := ⟨h.one.same s, h.two.same s, h.pl.same s, h.la, h.lb⟩
def spRoomEq (C R : Addr) : Sp := fun vs H Q _ => ∃ (r x : Addr) (a : List Nat) (r' y : Addr) (b : List Nat) (e : Bool), vs = [.ref r, .ref r'] ∧ Rooms2 C R H r x a r' y b e ∧ Q (.bl (e && decide (a = b))) H
def spRoomCmp (f : Int → List Nat → Int → List Nat → Bool) (C R O : Addr) : Sp := fun vs H Q E => ∃ (r x : Addr) (a : List Nat) (r' y : Addr) (b : List Nat) (e : Bool), vs = [.ref r, .ref r'] ∧ Rooms2 C R H r x a r' y b e ∧
  (e = true → ∀ H', Same H H' → Q (.bl (f a.length a b.length b)) H') ∧ (e = false → E (.ref O) none H)
def spWayTo (C R O : Addr) : Sp := fun vs H Q E => ∃ (r x : Addr) (a : List Nat) (r' y : Addr) (b : List Nat) (e : Bool) (ks : List Nat) (ps : List (List Nat)), vs = [.ref r, .ref r'] ∧ Rooms2 C R H r x a r' y b e ∧
  PlanAt C H x ks ps ∧ (∀ c ∈ a, c ∈ ks) ∧ (e = true → ∀ c ∈ b, c ∈ ks) ∧ (e = true → Q (.str (tx (wayOf ks ps a b))) H) ∧ (e = false → E (.ref O) none H)
def spDistance (C R O : Addr) : Sp := fun vs H Q E => ∃ (r x : Addr) (a : List Nat) (r' y : Addr) (b : List Nat) (e : Bool) (ks : List Nat) (ps : List (List Nat)), vs = [.ref r, .ref r'] ∧ Rooms2 C R H r x a r' y b e ∧
  PlanAt C H x ks ps ∧ (∀ c ∈ a, c ∈ ks) ∧ (e = true → ∀ c ∈ b, c ∈ ks) ∧ (e = true → Q (.int (wayOf ks ps a b).length) H) ∧ (e = false → E (.ref O) none H)
theorem roomF_no {x : Addr} {name : List Nat} {m : Str} (h1 : ¬ m = "name") (h2 : ¬ m = "plan") : (roomF x name).lookup m = none := by
  unfold roomF
  rw [lookup_putF, if_neg h1, lookup_putF, if_neg h2]
  rfl
theorem roomF_way {x : Addr} {name : List Nat} : (roomF x name).lookup ("way_to" : Str) = none := roomF_no (by decide +kernel) (by decide +kernel)
theorem roomF_dist {x : Addr} {name : List Nat} : (roomF x name).lookup ("distance" : Str) = none := roomF_no (by decide +kernel) (by decide +kernel)
section
variable {P : Program} {w : World} {K : PySem.W.Frag} {mg : Str → Option Value} {base : Heap} {C R O : Addr}
abbrev stRoom_len : Stmt := (inClass (top 31) 1)
abbrev NRoom_len : List Str := ["self"]
theorem scRoom_len : FnScope NRoom_len ["self"] (defScope stRoom_len) := ⟨rfl, rfl, rfl, by decide +kernel, rfl, by decide +kernel, by decide +kernel⟩

theorem ok_Room_len (F : MAt K R "__len__" "Room.__len__" stRoom_len) (T : TxtR K mg C R O) : MDef P w K mg base CX0 1 R "__len__" ["self"] (spRoomLen R) := by
  refine F.ok scRoom_len (fun _ _ _ _ _ _ us hl => match us, hl with | [_], _ => rfl) (fun vs H Q E h => ?_) (fun f cdv A outer s H vs Q E hr h => ?_)
  · obtain ⟨r, x, name, rfl, _⟩ := h
    rfl
  obtain ⟨r, x, name, rfl, ha, hl, q⟩ := h
  have hu := hu_of hr
  have nd := scRoom_len.nd
  refine ⟨_, (pss_one (ps_ret (pe_callB c_lenS (by rfl) T.len PySem.boot_len (pa_cons (pe_flK (K := K) rfl (pv 0) rfl) pa_nil)))), ?_⟩
  refine s_start [some _] rfl ?_
  obtain ⟨dx, a1⟩ := ha.ex
  walk_at "go"
  refine v_fld a1 T.Room.cl T.nNm roomF_n ?_
  walk_at "go"
  exact q
abbrev stRoom_eq : Stmt := (inClass (top 31) 9)
abbrev NRoom_eq : List Str := ["self", "other"]
theorem scRoom_eq : FnScope NRoom_eq ["self", "other"] (defScope stRoom_eq) := ⟨rfl, rfl, rfl, by decide +kernel, rfl, by decide +kernel, by decide +kernel⟩

theorem ok_Room_eq (F : MAt K R "__eq__" "Room.__eq__" stRoom_eq) (T : TxtR K mg C R O) (M_Plan_eq : MDef P w K mg base CX0 1 C "__eq__" ["self", "other"] (spPlanEq C)) : MDef P w K mg base CX0 2 R "__eq__" ["self", "other"] (spRoomEq C R) := by
  refine F.ok scRoom_eq (fun _ _ _ _ _ _ us hl => match us, hl with | [_, _], _ => rfl) (fun vs H Q E h => ?_) (fun f cdv A outer s H vs Q E hr h => ?_)
  · obtain ⟨r, x, a, r', y, b, e, rfl, _⟩ := h
    rfl
  obtain ⟨r, x, a, r', y, b, e, rfl, h, q⟩ := h
  have hu := hu_of hr
  have nd := scRoom_eq.nd
  refine ⟨_, (pss_one (ps_ret (pe_and (pe_callB (c_isiK (K := K) rfl) (by rfl) T.isinstance (by decide +kernel) (pa_cons (pv 1) (pa_cons (pe_globC T.Room.at) pa_nil))) (pe_and (pe_cmpR (op_cmpM (op := .Eq) (fun _ _ => rfl) M_Plan_eq hr pass0) (pe_flK (K := K) rfl (pv 0) rfl) (pe_flK (K := K) rfl (pv 1) rfl) (nomark _)) (pe_one (pe_cmpR op_eq (pe_flK (K := K) rfl (pv 0) rfl) (pe_flK (K := K) rfl (pv 1) rfl) (nomark _))))))), ?_⟩
  refine s_start [some _, some _] rfl ?_
  obtain ⟨dr, a1⟩ := h.one.ex
  obtain ⟨dr', b1⟩ := h.two.ex
  obtain ⟨ks, ks', ps, ps', p1, p2, o1, o2, he⟩ := h.pl
  obtain ⟨dx, t, d, c1, c2, c3⟩ := p1.ex
  obtain ⟨dy, t', d', d1, d2, d3⟩ := p2.ex
  walk_at "go"
  refine v_isiC T.Room b1 ?_
  walk_at "go"
  refine v_fld a1 T.Room.cl T.nPl roomF_p ?_
  walk_at "go"
  refine v_fld b1 T.Room.cl T.nPl roomF_p ?_
  refine v_M2 c1 d1 ⟨x, y, ks, ks', ps, ps', rfl, p1, p2, o1, o2, ?_⟩
  rw [← he]
  walk_at "go"
  cases e with
  | true =>
    walk_at "go"
    refine v_fld a1 T.Room.cl T.nNm roomF_n ?_
    walk_at "go"
    refine v_fld b1 T.Room.cl T.nNm roomF_n ?_
    walk_at "go"
    rw [dec_tx]
    exact q
  | false =>
    walk_at "go"
    exact q
end
end Cw
set_option Elab.async false
set_option linter.all false
set_option maxRecDepth 100000
set_option maxHeartbeats 4000000
/-! what the laws' own helpers need: copies of dicts, pop, several names at once, walks over dicts -/
namespace Cw
open PySem PySem.Spec L2
section
variable {σ : St} {H : Hp} {Q : VK} {D : Ends} {K : PySem.W.Frag} {X : Cx}
def rDictD : List V → Hp → VK → Prop := fun xs H Q => ∃ (a : Addr) (kvs : List (Key × V)), xs = [.ref a] ∧ Rd H a (.dK kvs) ∧ ∀ p, H p = none → Q (.ref p) (upd H p (.dK kvs))
theorem c_dict : CallR X (.type "dict") rDictD := call_dictD
theorem v_dict {a : Addr} {kvs : List (Key × V)} (h : H a = some (.dK kvs)) (q : ∀ p H', H p = none → Same H H' → H' p = some (.dK kvs) → Q (.ref p) H') : rDictD [.ref a] H Q := ⟨a, kvs, rfl, .inl h, fun p hp => q p _ hp (Same.new hp) upd_same⟩
theorem v_listD {a : Addr} {kvs : List (Key × V)} (h : H a = some (.dK kvs)) (q : ∀ p H', H p = none → Same H H' → H' p = some (.lst (kvs.map fun kv => kV kv.1)) → Q (.ref p) H') : rListD [.ref a] H Q := ⟨a, kvs, rfl, h, fun p hp => q p _ hp (Same.new hp) upd_same⟩
theorem pe_popK {o e : Expr} {to te : TE} {apos cpos : PySem.Pos} (h : X.K = K) (ho : PE X o to) (he : PE X e te) (hbase : attributeBase o "pop" X.env (eval o X.env) = eval o X.env := by rfl)
    (hfew : ((backTo cpos (starEach [e] X.env)).all (fun x => !x.1) && (backToKw cpos (keywordEach [] X.env)).all (fun x => x.1.isSome) && decide ([e].length + ([] : List Keyword).length + (if ([] : List Keyword).isEmpty then 0 else 1) < 30)) = true := by rfl)
    (hline : (apos.endLine == cpos.line) = true := by rfl) (hs : starEach [e] X.env = (false, eval e X.env) :: starEach [] X.env := by rfl) (hplain : (backTo cpos (starEach [] X.env)).any (·.1) = false := by rfl) :
    PE X (.Call (.Attribute o "pop" apos) [e] [] cpos) (tBM K "list" rPopAt to (tCons te tNil)) := h ▸ pe_bm PySem.F.plainAttrs_list PySem.F.slot_list_pop PySem.F.type_list_pop mt_popAt ho (pa_cons he pa_nil hs) hbase hfew hline hs hplain
theorem v_pop {p : Addr} {xs : List V} {i : Int} {y : V} (h : H p = some (.lst xs)) (h0 : 0 ≤ i) (h1 : i < xs.length) (h2 : xs.length ≤ 1000000) (hy : xs[i.toNat]? = some y) (q : ∀ H', Keep p H H' → H' p = some (.lst (xs.eraseIdx i.toNat)) → Q y H') : rPopAt (.ref p) [.int i] H Q := by
  refine ⟨p, xs, i, i.toNat, y, rfl, rfl, h, by omega, by omega, ?_, hy, q _ Keep.put upd_same⟩
  unfold seqIndex?
  simp only [if_neg (show ¬ i < 0 by omega)]
  first
    | rw [if_pos (by omega)]
    | simp [h0, h1]
theorem e_par {i j : Nat} {ta : TA} (q : ta σ H fun vs H1 => ∃ v w, vs = [v, w] ∧ D.nx ((σ.set i (some v)).set j (some w)) H1) : tPar i j ta D σ H := q
theorem v_par {v w : V} {P : V → V → Prop} (q : P v w) : ∃ v' w', [v, w] = [v', w'] ∧ P v' w' := ⟨v, w, rfl, q⟩
theorem e_par3 {i j l : Nat} {ta : TA} (q : ta σ H fun vs H1 => ∃ u v w, vs = [u, v, w] ∧ D.nx (((σ.set i (some u)).set j (some v)).set l (some w)) H1) : tPar3 i j l ta D σ H := q
theorem v_par3 {u v w : V} {P : V → V → V → Prop} (q : P u v w) : ∃ u' v' w', [u, v, w] = [u', v', w'] ∧ P u' v' w' := ⟨u, v, w, rfl, q⟩
theorem e_lock {t : TS} {d : Addr} {u : HO} (h : H d = some u) (m : Mut (some u)) (q : ∀ od, t ⟨fun σ' H' => H' d = some (.frz od u) ∧ D.nx σ' (upd H' d u), fun v H' => H' d = some (.frz od u) ∧ D.rt v (upd H' d u), fun σ' H' => H' d = some (.frz od u) ∧ D.bk σ' (upd H' d u), fun σ' H' => H' d = some (.frz od u) ∧ D.ct σ' (upd H' d u)⟩ σ (upd H d (.frz od u))) : tLock t D σ H := ⟨d, u, h, m, q⟩
theorem e_iK {td : TE} {R : It → Hp → Prop} (q : td σ H fun x H1 => ∃ d o, x = .ref d ∧ ((∃ kvs, H1 d = some (.frz o (.dK kvs)) ∧ R (Itk d o kvs) H1) ∨ ∃ kvs, H1 d = some (.frz o (.dT kvs)) ∧ R (Itkt d o kvs) H1)) : iKeys td σ H R := q
theorem v_iK {d : Addr} {od : Obj} {kvs : List (Key × V)} {R : It → Hp → Prop} (h : H d = some (.frz od (.dK kvs))) (q : R (Itk d od kvs) H) : ∃ d' o, V.ref d = .ref d' ∧ ((∃ kvs, H d' = some (.frz o (.dK kvs)) ∧ R (Itk d' o kvs) H) ∨ ∃ kvs, H d' = some (.frz o (.dT kvs)) ∧ R (Itkt d' o kvs) H) := ⟨d, od, rfl, .inl ⟨kvs, h, q⟩⟩
theorem e_dnotin {ty td : TE} (q : ty σ H fun y H1 => td σ H1 fun x H2 => ∃ a o, x = .ref a ∧ DGet H2 a y o ∧ Q (.bl (!o.isSome)) H2) : tDNotIn ty td σ H Q := q
theorem v_dnotin {a : Addr} {y : V} {o : Option V} {P : Option V → Prop} (h : DGet H a y o) (q : P o) : ∃ a' o, V.ref a = .ref a' ∧ DGet H a' y o ∧ P o := ⟨a, o, rfl, h, q⟩
end
theorem erase_perm {α : Type} : ∀ (l : List α) (i : Nat) (h : i < l.length), (l[i] :: l.eraseIdx i).Perm l
  | x :: r, 0, _ => .refl _
  | x :: r, i + 1, h => by
    have h' : i < r.length := by simpa using h
    have ih := erase_perm r i h'
    show (r[i] :: x :: r.eraseIdx i).Perm (x :: r)
    exact (List.Perm.swap x _ _).trans (ih.cons x)
theorem erase_map {α β : Type} (f : α → β) : ∀ (l : List α) (i : Nat), (l.map f).eraseIdx i = (l.eraseIdx i).map f
  | [], _ => rfl
  | x :: r, 0 => rfl
  | x :: r, i + 1 => by
    show f x :: (r.map f).eraseIdx i = f x :: (r.eraseIdx i).map f
    rw [erase_map f r i]
/-! ### tables by letters -/
def tabKV (ls : List Nat) (f : Nat → List Nat) : List (Key × V) := ls.map fun c => ((Sum.inr (tx [c]) : Key), V.str (tx (f c)))
structure Tab (ls : List Nat) (f : Nat → List Nat) : Prop where
  nd : ls.Nodup
  lt : ∀ c ∈ ls, c ∈ LET
  len : ls.length ≤ 8
  sub : ∀ a ∈ ls, ∀ b ∈ f a, b ∈ ls ∧ b ≠ a ∧ a ∈ f b
  gl : ∀ a ∈ ls, (f a).length ≤ 8
def tabPairs (ls : List Nat) (f : Nat → List Nat) : List (List Nat) := pairsOf (ls.flatMap fun a => (f a).map fun b => ascOf [a, b])
theorem tab_get {H : Hp} {d : Addr} {ls : List Nat} {f : Nat → List Nat} {k : Nat} (h : H d = some (.dK (tabKV ls f))) (hk : k ∈ ls) : DGet H d (.str (tx [k])) (some (.str (tx (f k)))) := dget_let (g := fun c => V.str (tx (f c))) h hk
theorem tab_getF {H : Hp} {d : Addr} {o : Obj} {ls : List Nat} {f : Nat → List Nat} {k : Nat} (h : H d = some (.frz o (.dK (tabKV ls f)))) (hk : k ∈ ls) : DGet H d (.str (tx [k])) (some (.str (tx (f k)))) :=
  .inl ⟨_, Sum.inr (tx [k]), .inr ⟨o, h⟩, rfl, (letV_some (g := fun c => V.str (tx (f c))) hk).symm⟩
theorem tab_keys (ls : List Nat) (f : Nat → List Nat) : ((tabKV ls f).map fun kv => kV kv.1) = ls.map fun c => V.str (tx [c]) := by
  unfold tabKV
  rw [List.map_map]
  rfl
theorem putTab {f : Nat → List Nat} {k : Nat} {z : List Nat} : ∀ {ls : List Nat}, k ∈ ls → putK (tabKV ls f) (Sum.inr (tx [k])) (V.str (tx z)) = tabKV ls (fun c => if c = k then z else f c) := by
  intro ls hk
  unfold putK
  have h1 : valV (tabKV ls f) (Sum.inr (tx [k])) = some (V.str (tx (f k))) := letV_some (g := fun c => V.str (tx (f c))) hk
  rw [if_pos (by rw [valV_any, h1]; rfl)]
  unfold tabKV
  rw [List.map_map]
  refine List.map_congr_left fun c _ => ?_
  show (if (Sum.inr (tx [c]) : Key) = Sum.inr (tx [k]) then _ else _) = _
  by_cases e : c = k
  · subst e
    rw [if_pos rfl]
    show (_, _) = (_, V.str (tx (if c = c then z else f c)))
    rw [if_pos rfl]
  · rw [if_neg (fun z => e (by have := key_tx.mp z; injection this))]
    show (_, _) = (_, V.str (tx (if c = k then z else f c)))
    rw [if_neg e]
theorem tab_put {H : Hp} {d : Addr} {ls : List Nat} {f : Nat → List Nat} {k : Nat} {z : List Nat} (h : H d = some (.dK (tabKV ls f))) (hk : k ∈ ls) (hl : ls.length < 1000000) : DPut H d (.str (tx [k])) (.str (tx z)) (upd H d (.dK (tabKV ls (fun c => if c = k then z else f c)))) := by
  have e := DPut.k (k := Sum.inr (tx [k])) (v := V.str (tx z)) h (szlt (by unfold tabKV; rw [List.length_map]; exact hl))
  rw [putTab hk] at e
  exact e
theorem tab_new {H : Hp} {d : Addr} {ls : List Nat} {f : Nat → List Nat} {k : Nat} (h : H d = some (.dK (tabKV ls f))) (hk : ¬ k ∈ ls) (hf : f k = []) (hl : ls.length < 1000000) : DPut H d (.str (tx [k])) (.str (tx [])) (upd H d (.dK (tabKV (ls ++ [k]) f))) := by
  have e := DPut.cross (l := [k]) (v := V.str (tx [])) h (letV_none (g := fun c => V.str (tx (f c))) hk) (by unfold tabKV; rw [List.length_map]; exact hl)
  have e2 : tabKV (ls ++ [k]) f = tabKV ls f ++ [((Sum.inr (tx [k]) : Key), V.str (tx []))] := by
    unfold tabKV
    rw [List.map_append]
    show _ ++ [((Sum.inr (tx [k]) : Key), V.str (tx (f k)))] = _
    rw [hf]
  rw [e2]
  exact e
theorem asc2_all : ∀ a ∈ LET, ∀ b ∈ LET, a < b → ascOf [a, b] = [a, b] ∧ ascOf [b, a] = [a, b] := by decide +kernel
theorem asc2 {a b : Nat} (ha : a ∈ LET) (hb : b ∈ LET) (h : a < b) : ascOf [a, b] = [a, b] ∧ ascOf [b, a] = [a, b] := asc2_all a ha b hb h
theorem pairsOf_small (f : List (List Nat)) : ∀ l ∈ pairsOf f, ∀ c ∈ l, c < 1000 := by
  intro l hl c hc
  obtain ⟨a, b, rfl, ha, hb, _⟩ := pairsOf_mem.mp hl
  have h1 := LET_lt ha
  have h2 := LET_lt hb
  simp only [List.mem_cons, List.not_mem_nil, or_false] at hc
  rcases hc with rfl | rfl <;> omega
end Cw
set_option Elab.async false
set_option linter.all false
set_option maxRecDepth 100000
set_option maxHeartbeats 4000000
/-! the drawn tables, in plain words -/
namespace Cw
open PySem PySem.Spec L2
def ABC : List (List Nat) := [[97, 98, 99, 100, 101, 102, 103, 104], [98, 100, 102, 104, 106, 108, 110, 112], [115, 116, 117, 118, 119, 120, 121, 122]]
def addRel (rel : Nat → Nat → Bool) (x y : Nat) : Nat → Nat → Bool := fun a b => rel a b || (a == x && b == y) || (a == y && b == x)
/-- which kinds cross: both ways, never with itself, kinds alone -/
structure RelOk (ls : List Nat) (rel : Nat → Nat → Bool) : Prop where
  sym : ∀ a b, rel a b = rel b a
  «in» : ∀ a b, rel a b = true → a ∈ ls ∧ b ∈ ls ∧ a ≠ b
/-- only pairs up to here -/
def Upto (ls : List Nat) (rel : Nat → Nat → Bool) (i j : Nat) : Prop := ∀ i1 j1, i1 < j1 → j1 < ls.length → rel (ls.getD i1 0) (ls.getD j1 0) = true → i1 < i ∨ (i1 = i ∧ j1 < j)
def crossBy (ls : List Nat) (rel : Nat → Nat → Bool) (c : Nat) : List Nat := ls.filter (rel c)
theorem getD_inj {ls : List Nat} (h : ls.Nodup) {i j : Nat} (hi : i < ls.length) (hj : j < ls.length) (e : ls.getD i 0 = ls.getD j 0) : i = j := by
  rw [List.getD_eq_getElem?_getD, List.getD_eq_getElem?_getD, List.getElem?_eq_getElem hi, List.getElem?_eq_getElem hj] at e
  exact (List.getElem_inj h).mp e
theorem mem_getD {ls : List Nat} {c : Nat} (h : c ∈ ls) : ∃ i, i < ls.length ∧ ls.getD i 0 = c := by
  obtain ⟨i, hi, e⟩ := List.mem_iff_getElem.mp h
  refine ⟨i, hi, ?_⟩
  rw [List.getD_eq_getElem?_getD, List.getElem?_eq_getElem hi]
  exact e
theorem filter_snoc {ls : List Nat} {p : Nat → Bool} {j : Nat} (hn : ls.Nodup) (hj : j < ls.length) (hz : ∀ j', j ≤ j' → j' < ls.length → p (ls.getD j' 0) = false) : ls.filter (fun c => p c || c == ls.getD j 0) = ls.filter p ++ [ls.getD j 0] := by
  have e : ls = ls.take j ++ ls.getD j 0 :: ls.drop (j + 1) := by
    rw [List.getD_eq_getElem?_getD, List.getElem?_eq_getElem hj]
    show ls = ls.take j ++ ls[j] :: ls.drop (j + 1)
    rw [← List.drop_eq_getElem_cons hj, List.take_append_drop]
  have hd : ∀ c ∈ ls.drop (j + 1), p c = false ∧ c ≠ ls.getD j 0 := by
    intro c hc
    obtain ⟨k, hk, e⟩ := List.mem_iff_getElem.mp hc
    rw [List.length_drop] at hk
    rw [List.getElem_drop] at e
    have hk2 : j + 1 + k < ls.length := by omega
    have e2 : ls.getD (j + 1 + k) 0 = c := by
      rw [List.getD_eq_getElem?_getD, List.getElem?_eq_getElem hk2]
      exact e
    refine ⟨e2 ▸ hz _ (by omega) hk2, fun z => ?_⟩
    have := getD_inj hn hk2 hj (e2.trans z)
    omega
  have ht : ∀ c ∈ ls.take j, c ≠ ls.getD j 0 := fun c hc z => take_notin hn hj (z ▸ hc)
  have hpy : p (ls.getD j 0) = false := hz j (Nat.le_refl _) hj
  generalize ls.getD j 0 = y at *
  have h1 : ls.filter (fun c => p c || c == y) = (ls.take j).filter p ++ [y] := by
    conv => lhs; rw [e]
    rw [List.filter_append, List.filter_cons_of_pos (by simp)]
    congr 1
    · refine List.filter_congr fun c hc => ?_
      have := ht c hc
      simp [this]
    · congr 1
      rw [List.filter_eq_nil_iff]
      intro c hc
      obtain ⟨a, b⟩ := hd c hc
      simp [a, b]
  have h2 : ls.filter p = (ls.take j).filter p := by
    conv => lhs; rw [e]
    rw [List.filter_append, List.filter_cons_of_neg (by rw [hpy]; decide)]
    have : (ls.drop (j + 1)).filter p = [] := by
      rw [List.filter_eq_nil_iff]
      intro c hc
      rw [(hd c hc).1]
      decide
    rw [this, List.append_nil]
  rw [h1, h2]
section
variable {ls : List Nat} {rel : Nat → Nat → Bool} {i j : Nat}
theorem tabStep (hn : ls.Nodup) (ok : RelOk ls rel) (hij : i < j) (hj : j < ls.length) (up : Upto ls rel i j) :
    ∀ c ∈ ls, (if c = ls.getD j 0 then (if ls.getD j 0 = ls.getD i 0 then crossBy ls rel (ls.getD i 0) ++ [ls.getD j 0] else crossBy ls rel (ls.getD j 0)) ++ [ls.getD i 0] else if c = ls.getD i 0 then crossBy ls rel (ls.getD i 0) ++ [ls.getD j 0] else crossBy ls rel c) = crossBy ls (addRel rel (ls.getD i 0) (ls.getD j 0)) c := by
  intro c hc
  have hi : i < ls.length := by omega
  have ne : ls.getD j 0 ≠ ls.getD i 0 := fun z => by have := getD_inj hn hj hi z; omega
  by_cases e1 : c = ls.getD j 0
  · subst e1
    rw [if_pos rfl, if_neg ne]
    unfold crossBy
    rw [← filter_snoc hn hi]
    · refine List.filter_congr fun b _ => ?_
      unfold addRel
      have e : (ls.getD j 0 == ls.getD i 0) = false := beq_eq_false_iff_ne.mpr ne
      rw [e]
      simp
    · intro j' h1 h2
      by_cases h3 : j' = j
      · subst h3
        cases z : rel (ls.getD j' 0) (ls.getD j' 0) with
        | false => rfl
        | true => exact absurd rfl (ok.in _ _ z).2.2
      · cases z : rel (ls.getD j 0) (ls.getD j' 0) with
        | false => rfl
        | true =>
          rcases Nat.lt_or_gt_of_ne h3 with h4 | h4
          · rw [ok.sym] at z
            have := up j' j h4 hj z
            omega
          · have := up j j' h4 h2 z
            omega
  · rw [if_neg e1]
    by_cases e2 : c = ls.getD i 0
    · subst e2
      rw [if_pos rfl]
      unfold crossBy
      rw [← filter_snoc hn hj]
      · refine List.filter_congr fun b _ => ?_
        unfold addRel
        have e : (ls.getD i 0 == ls.getD j 0) = false := beq_eq_false_iff_ne.mpr e1
        rw [e]
        simp
      · intro j' h1 h2
        cases z : rel (ls.getD i 0) (ls.getD j' 0) with
        | false => rfl
        | true =>
          have := up i j' (by omega) h2 z
          omega
    · rw [if_neg e2]
      unfold crossBy
      refine List.filter_congr fun b _ => ?_
      unfold addRel
      have a1 : (c == ls.getD i 0) = false := beq_eq_false_iff_ne.mpr e2
      have a2 : (c == ls.getD j 0) = false := beq_eq_false_iff_ne.mpr e1
      rw [a1, a2]
      simp
theorem RelOk.add (ok : RelOk ls rel) {x y : Nat} (hx : x ∈ ls) (hy : y ∈ ls) (ne : x ≠ y) : RelOk ls (addRel rel x y) where
  sym a b := by
    unfold addRel
    rw [ok.sym a b, Bool.or_assoc, Bool.or_assoc]
    congr 1
    rw [Bool.or_comm, Bool.and_comm, Bool.and_comm (a == x)]
  «in» a b h := by
    unfold addRel at h
    simp only [Bool.or_eq_true, Bool.and_eq_true, beq_iff_eq] at h
    rcases h with (h | ⟨rfl, rfl⟩) | ⟨rfl, rfl⟩
    · exact ok.in a b h
    · exact ⟨hx, hy, ne⟩
    · exact ⟨hy, hx, ne.symm⟩
theorem Upto.add (hn : ls.Nodup) (hij : i < j) (hj : j < ls.length) (up : Upto ls rel i j) : Upto ls (addRel rel (ls.getD i 0) (ls.getD j 0)) i (j + 1) := by
  intro i1 j1 h1 h2 h3
  unfold addRel at h3
  simp only [Bool.or_eq_true, Bool.and_eq_true, beq_iff_eq] at h3
  rcases h3 with (h | ⟨h4, h5⟩) | ⟨h4, h5⟩
  · have := up i1 j1 h1 h2 h
    omega
  · have a := getD_inj hn (by omega) (by omega) h4
    have b := getD_inj hn h2 hj h5
    omega
  · have a := getD_inj hn (by omega) hj h4
    have b := getD_inj hn h2 (by omega) h5
    omega
theorem Upto.more (up : Upto ls rel i j) : Upto ls rel i (j + 1) := fun i1 j1 h1 h2 h3 => by
  have := up i1 j1 h1 h2 h3
  omega
theorem Upto.turn {k : Nat} (up : Upto ls rel i j) (h : ls.length ≤ j) : Upto ls rel (i + 1) k := fun i1 j1 h1 h2 h3 => by
  have := up i1 j1 h1 h2 h3
  omega
end
theorem walk_rI {lo : Int} {n : Nat} (f : Nat → Int) (h : ∀ k : Nat, lo + (k : Int) = f k) : Walk (Itr lo n) n (fun _ => True) (YFn fun k => .int (f k)) :=
  walk_range.mono (fun _ h => h) fun i H x H' _ _ y => ⟨y.1, by show x = V.int (f i); rw [← h i]; exact y.2⟩
theorem at_getD {ls : List Nat} {i : Nat} (h : i < ls.length) : atI ls ((i : Nat) : Int) = some (ls.getD i 0) := by
  refine atI_nat ?_
  rw [List.getD_eq_getElem?_getD, List.getElem?_eq_getElem h]
  rfl
theorem tabKV_congr {ls : List Nat} {f g : Nat → List Nat} (h : ∀ c ∈ ls, f c = g c) : tabKV ls f = tabKV ls g := by
  unfold tabKV
  refine List.map_congr_left fun c hc => ?_
  rw [h c hc]
theorem ascOf_congr {a b : List Nat} (h : ∀ c, c ∈ a ↔ c ∈ b) : ascOf a = ascOf b := by
  unfold ascOf
  exact List.filter_congr fun c _ => decide_eq_decide.mpr (h c)
/-- the pairs that the laws tell a plan by -/
theorem tabPairs_eq {ls : List Nat} {f : Nat → List Nat} {ps : List (List Nat)} (T : Tab ls f) (h1 : ∀ p ∈ ps, ∃ a b, p = [a, b] ∧ a ∈ ls ∧ b ∈ f a) (h2 : ∀ a ∈ ls, ∀ b ∈ f a, a < b → [a, b] ∈ ps) : pairsOf (ps.map ascOf) = tabPairs ls f := by
  unfold tabPairs
  refine pairsOf_congr fun a b _ _ => ?_
  rw [List.mem_map, List.mem_flatMap]
  constructor
  · rintro ⟨p, hp, e⟩
    obtain ⟨x, y, rfl, hx, hy⟩ := h1 p hp
    exact ⟨x, hx, List.mem_map.mpr ⟨y, hy, e⟩⟩
  · rintro ⟨x, hx, hm⟩
    obtain ⟨y, hy, e⟩ := List.mem_map.mp hm
    obtain ⟨y1, y2, y3⟩ := T.sub x hx y hy
    by_cases h : x < y
    · exact ⟨_, h2 x hx y hy h, e⟩
    · have hlt : y < x := by omega
      refine ⟨_, h2 y y1 x y3 hlt, ?_⟩
      have := asc2 (T.lt y y1) (T.lt x hx) hlt
      rw [this.1, ← this.2]
      exact e
/-- a drawn table: a beginning of one of the three texts -/
structure Flr (num : Nat) (ls : List Nat) (rel : Nat → Nat → Bool) : Prop where
  cut : ∃ t ∈ ABC, ∃ m, 1 ≤ m ∧ m ≤ num ∧ ls = t.take m
  ok : RelOk ls rel
theorem abc_ok : ∀ t ∈ ABC, t.Nodup ∧ (∀ c ∈ t, c ∈ LET) ∧ t.length = 8 ∧ t.Pairwise (· < ·) := by decide +kernel
section
variable {num : Nat} {ls : List Nat} {rel : Nat → Nat → Bool}
theorem cut_nd (h : ∃ t ∈ ABC, ∃ m, 1 ≤ m ∧ m ≤ num ∧ ls = t.take m) : ls.Nodup := by
  obtain ⟨t, ht, m, h1, h2, rfl⟩ := h
  exact (List.take_sublist m t).nodup (abc_ok t ht).1
theorem cut_lt (h : ∃ t ∈ ABC, ∃ m, 1 ≤ m ∧ m ≤ num ∧ ls = t.take m) : ∀ c ∈ ls, c ∈ LET := by
  obtain ⟨t, ht, m, h1, h2, rfl⟩ := h
  exact fun c hc => (abc_ok t ht).2.1 c ((List.take_sublist m t).subset hc)
theorem cut_len (h : ∃ t ∈ ABC, ∃ m, 1 ≤ m ∧ m ≤ num ∧ ls = t.take m) : ls.length ≤ 8 ∧ ls.length ≤ num ∧ 1 ≤ ls.length := by
  obtain ⟨t, ht, m, h1, h2, rfl⟩ := h
  have := (abc_ok t ht).2.2.1
  rw [List.length_take]
  omega
theorem cut_lt' (h : ∃ t ∈ ABC, ∃ m, 1 ≤ m ∧ m ≤ num ∧ ls = t.take m) : ls.Pairwise (· < ·) := by
  obtain ⟨t, ht, m, h1, h2, rfl⟩ := h
  exact List.Pairwise.sublist (List.take_sublist m t) (abc_ok t ht).2.2.2
theorem Flr.tab (h : Flr num ls rel) : Tab ls (crossBy ls rel) where
  nd := cut_nd h.cut
  lt := cut_lt h.cut
  len := (cut_len h.cut).1
  sub a ha b hb := by
    obtain ⟨h1, h2⟩ := List.mem_filter.mp hb
    refine ⟨h1, (h.ok.in a b h2).2.2.symm, List.mem_filter.mpr ⟨ha, ?_⟩⟩
    rw [h.ok.sym]
    exact h2
  gl a ha := Nat.le_trans (List.length_filter_le _ _) (cut_len h.cut).1
end
end Cw
set_option Elab.async false
set_option linter.all false
set_option maxRecDepth 100000
set_option maxHeartbeats 4000000
/-! calls within a try; calls that raise nothing after all -/
namespace Cw
open PySem PySem.Spec L2
section
variable {P : Program} {w : World} {K : PySem.W.Frag} {mg : Str → Option Value} {base : Heap} {k : Nat} {f : Addr} {fd : FuncData} {ps : List Str} {sp : Sp}
/-- a promise whose wishes for errors are none -/
def calmOf (sp : Sp) : Sp := fun vs H Q _ => sp vs H Q fun _ _ _ => False
theorem calm_fn (F : FnOk P w K mg base (L2.CX P w) k f fd ps sp) : FnOk P w K mg base CX0 k f fd ps (calmOf sp) := by
  refine ⟨fun vs H Q E h => F.len _ _ _ _ h, fun A outer s H args us vs Q E hr e0 hb hv h => ?_⟩
  refine codeAny_mono (F.run A outer s H args us vs Q (fun _ _ _ => False) hr e0 hb hv h) fun r s' q => ?_
  cases r with
  | ok fl => cases fl <;> exact q
  | error e =>
    obtain ⟨a, B, H', cls, d, _, _, _, _, _, _, _, z⟩ := q
    exact z.elim
theorem Def.calm {x : Str} (D : Def P w K mg base (L2.CX P w) k x ps sp) : Def P w K mg base CX0 k x ps (calmOf sp) := by
  obtain ⟨f, fd, a, b, c, d⟩ := D.ex
  exact ⟨f, fd, a, b, c, calm_fn d⟩
theorem MDef.calm {C : Addr} {m : Str} (D : MDef P w K mg base (L2.CX P w) k C m ps sp) : MDef P w K mg base CX0 k C m ps (calmOf sp) := by
  obtain ⟨f, fd, a, b, c, d, e⟩ := D.ex
  exact ⟨f, fd, a, b, c, d, calm_fn e⟩
end
section
variable {X : Cx} {CX : CXT} {k : Nat} {C : Addr} {x m : Str} {ps : List Str} {sp : Sp} {E : St → XK} {p pos apos : PySem.Pos} {o e : Expr} {es : List Expr} {ta : TE} {t : TA}
theorem pe_cdS (D : Def X.prog X.w X.K X.mg X.base CX k x ps sp) (hr : Room k X.A) (hx : ∀ σ, PassesAt CX X σ (E σ)) (ha : PA X (e :: es) t) (hg : Gl X x := by rfl) (hdb : (x == ("__debug__" : Str)) = false := by decide)
    (he : starEach (e :: es) X.env = (false, eval e X.env) :: starEach es X.env := by rfl) (hpl : (backTo pos (starEach es X.env)).any (·.1) = false := by rfl) : PE X (.Call (.Name x p) (e :: es) [] pos) (tCallS sp E t) := by
  obtain ⟨f, fd, a, b, c, d⟩ := D.ex
  exact pe_callS d hr hg a b c.b hx ha hdb he hpl
def tMethS (C : Addr) (m : Str) (sp : Sp) (E : St → XK) (ta : TE) (t : TA) : TE := fun σ H Q => ta σ H fun x H1 => ∃ a dx fs, x = .ref a ∧ H1 a = some (.ins C dx fs) ∧ fs.lookup m = none ∧ t σ H1 fun vs H2 => sp (x :: vs) H2 Q (E σ)
theorem pe_mdS {pl : Sem Bool} (D : MDef X.prog X.w X.K X.mg X.base CX k C m ps sp) (c : Cls X.K C) (hr : Room k X.A) (hx : ∀ σ, PassesAt CX X σ (E σ)) (he : PE X o ta) (ha : PA X (e :: es) t)
    (hst : starEach (e :: es) X.env = (false, eval e X.env) :: starEach es X.env := by rfl) (hpl : (backTo pos (starEach es X.env)).any (·.1) = false := by rfl)
    (ht : eval (.Call (.Attribute o m apos) (e :: es) [] pos) X.env = (do
      let ov ← eval o X.env
      standAt apos.atName
      let (f, first) ← holding [ov] (getMethod ov m pl)
      callWith pos f first (backTo pos (starEach (e :: es) X.env)) (backToKw pos (keywordEach [] X.env))) := by rfl) :
    PE X (.Call (.Attribute o m apos) (e :: es) [] pos) (tMethS C m sp E ta t) := by
  obtain ⟨f, fd, a1, a2, a3, a4, a5⟩ := D.ex
  refine ⟨fun pins s σ H Q I h => PySem.W.methodCall_KW (pl := pl) (thn (he.run pins s σ H _ I h) fun u s1 z => ?_) ht⟩
  obtain ⟨y, H1, I1, ry, a, dx, fs, ey, ea, l, q⟩ := z
  subst ey
  obtain rfl : u = Value.ref a := ry
  refine getmeth_ok I1 ea c ⟨a1, a2, a3⟩ l (PySem.W.callWith_K (first := [.ref a]) (h₀ := X.base) I.ok.mod.kin a3 (thn (ha.run pos pins s1 σ H1 _ I1 q) fun us s2 z => ?_) hst hpl)
  obtain ⟨vs, H2, I2, r, q2⟩ := z
  exact ⟨I2.kIn, run_fnS (us := .ref a :: us) (vs := .ref a :: vs) a5 hr a4.b (hx σ) I2 (.cons rfl r) q2⟩
end
/-- a try with one clause, its reading by name -/
def tTryA (K : PySem.W.Frag) (c : Value) (i : Nat) (ts : Addr → Value → Option Addr → TS) (Wout : WX) (tb : WX → TS) : TS := fun D σ H => tb (wAs K c i ts Wout D) D σ H
theorem ps_tryA {X : Cx} {x n : Str} {c : Value} {i : Nat} {body suite : List Stmt} {b₀ : Stmt} {np pos pos' : PySem.Pos} {tb : WX → TS} {ts : Addr → Value → Option Addr → TS} {Wout : WX} (hs : X.stack = X.env :: X.outer) (hf : X.env.frame = some X.env.locals) (hN : X.N.Nodup) (hi : X.N[i]? = some n) (hln : X.env.kindOf n = some .local) (hc : Names X x c) (tk : Takes X Wout)
    (hb : ∀ (W : WX) (pn : List (Addr × Obj)) (xe : Value → Shared → Prop), Takes (X.tr pn xe) W → PassesOwn (model X.prog X.w) X.A X.env xe → PSs (X.tr pn xe) body (tb W))
    (hsu : ∀ (a : Addr) (oe : Obj) (cls : Value) (d : Option Addr) (pn : List (Addr × Obj)), Zc cls d oe → (∃ vs, oe.data = .fields vs) → PSs (X.suite a ((a, oe) :: pn)) (b₀ :: suite) (ts a cls d)) :
    PS X (.Try body [.ExceptHandler (some (.Name x np)) (some n) (b₀ :: suite) pos'] [] [] pos) (tTryA X.K c i ts Wout tb) := ps_try_as hs hf hN hi hln hc tk hb hsu
theorem e_tryA {K : PySem.W.Frag} {c : Value} {i : Nat} {ts : Addr → Value → Option Addr → TS} {Wout : WX} {tb : WX → TS} {D : Ends} {σ : St} {H : Hp} (q : tb (wAs K c i ts Wout D) D σ H) : tTryA K c i ts Wout tb D σ H := q
section
variable {σ : St} {H : Hp} {Q : VK} {C : Addr} {m : Str} {sp : Sp} {E : St → XK} {ta : TE} {t : TA}
theorem e_callS (q : t σ H fun vs H1 => sp vs H1 Q (E σ)) : tCallS sp E t σ H Q := q
theorem e_mdS (q : ta σ H fun x H1 => ∃ a dx fs, x = .ref a ∧ H1 a = some (.ins C dx fs) ∧ fs.lookup m = none ∧ t σ H1 fun vs H2 => sp (x :: vs) H2 Q (E σ)) : tMethS C m sp E ta t σ H Q := q
end
theorem sl_TK {X : Cx} {K : PySem.W.Frag} (h : X.K = K) : SlR X (rSlT K) := h ▸ sl_tup
theorem s_asgT {te : TE} {K : PySem.W.Frag} {n : Nat} {t : TGs} {D : Ends} {σ : St} {H : Hp} (q : te σ H fun v H1 => gTup K n t v σ H1 fun σ' H' => D.nx σ' H') : tAsg te (gTup K n t) D σ H := q
theorem e_pr {tk tv : TE} {r : List (TE × TE)} {σ : St} {H : Hp} {Q : List (V × V) → Hp → Prop} (q : tk σ H fun x H1 => tv σ H1 fun y H2 => tPairs r σ H2 fun ps H3 => Q ((x, y) :: ps) H3) : tPairs ((tk, tv) :: r) σ H Q := q
theorem e_pr0 {σ : St} {H : Hp} {Q : List (V × V) → Hp → Prop} (q : Q [] H) : tPairs [] σ H Q := q
theorem e_disp {trs : List (TE × TE)} {σ : St} {H : Hp} {Q : VK} (q : ∀ p, H p = none → tPairs trs σ (upd H p (.dK [])) fun ps H2 => H2 p = some (.dK []) ∧ ∃ kvs : List (Key × V), ps = kvs.map (fun kv => (kV kv.1, kv.2)) ∧ kvs.length ≤ 15 ∧ Q (.ref p) (upd H2 p (.dK (mergeK [] kvs)))) : tDisp trs σ H Q := q
theorem sqL_same {K : PySem.W.Frag} {H H' : Hp} {a : Addr} {xs : List V} (h : SqL K H a xs) (s : Same H H') : SqL K H' a xs := by
  rcases h with (h | ⟨o, h⟩) | h
  · exact .inl (.inl (s _ _ h))
  · exact .inl (.inr ⟨o, s _ _ h⟩)
  · exact .inr h
theorem v_slL {K : PySem.W.Frag} {H : Hp} {Q : VK} {a : Addr} {xs : List V} {lo hi : Option Int} (h : SqL K H a xs) (q : ∀ p H', H p = none → Same H H' → H' p = some (.lst (cutV xs lo hi)) → Q (.ref p) H') : rSlL K (.ref a) lo hi H Q := ⟨a, xs, rfl, h, fun p hp => q p _ hp (Same.new hp) upd_same⟩
end Cw
set_option Elab.async false
set_option linter.all false
set_option maxRecDepth 100000
set_option maxHeartbeats 4000000
/-! plans that are not equal, in plain words -/
namespace Cw
open PySem PySem.Spec L2
/-- the end of a body, by a name: smaller goals -/
theorem s_hide {t : TS} {D0 : Ends} {σ : St} {H : Hp} (h : ∀ D : Ends, (∀ σ H, D0.nx σ H → D.nx σ H) → t D σ H) : t D0 σ H := h D0 fun _ _ z => z
theorem more_ne {ls : List Nat} {z : Nat} (hz : z ∈ LET) (h : ¬ z ∈ ls) : ascOf ls ≠ ascOf (ls ++ [z]) := by
  intro e
  have h1 : z ∈ ascOf (ls ++ [z]) := ascOf_mem.mpr ⟨hz, by simp⟩
  rw [← e] at h1
  exact h (ascOf_mem.mp h1).2
theorem pairsOf_nodup (f : List (List Nat)) : (pairsOf f).Nodup := by
  have h : ∀ l : List Nat, l.Nodup → (l.flatMap fun a => (LET.filter fun b => decide ([a, b] ∈ f)).map fun b => [a, b]).Nodup := by
    intro l
    induction l with
    | nil => intro _; exact List.nodup_nil
    | cons c r ih =>
      intro hn
      rw [List.nodup_cons] at hn
      rw [List.flatMap_cons, List.nodup_append]
      refine ⟨?_, ih hn.2, ?_⟩
      · have : (LET.filter fun b => decide ([c, b] ∈ f)).Nodup := (LET_nodup.filter fun b => decide ([c, b] ∈ f))
        generalize LET.filter (fun b => decide ([c, b] ∈ f)) = m at this ⊢
        induction m with
        | nil => exact List.nodup_nil
        | cons x y ih2 =>
          rw [List.nodup_cons] at this
          rw [List.map_cons, List.nodup_cons]
          refine ⟨?_, ih2 this.2⟩
          intro z
          obtain ⟨w, hw, e⟩ := List.mem_map.mp z
          injection e with _ e
          injection e with e
          exact this.1 (e ▸ hw)
      · intro p hp q hq e
        subst e
        obtain ⟨b, _, e1⟩ := List.mem_map.mp hp
        obtain ⟨a, ha, hm⟩ := List.mem_flatMap.mp hq
        obtain ⟨b', _, e2⟩ := List.mem_map.mp hm
        have e3 := e1.trans e2.symm
        injection e3 with e3
        exact hn.1 (e3 ▸ ha)
  exact h LET LET_nodup
theorem tabPairs_lt {ls : List Nat} {f : Nat → List Nat} (T : Tab ls f) {p : List Nat} (h : p ∈ tabPairs ls f) : ∃ a b, p = [a, b] ∧ a < b ∧ a ∈ ls ∧ b ∈ ls ∧ b ∈ f a := by
  obtain ⟨a, b, rfl, ha, hb, hm⟩ := pairsOf_mem.mp h
  obtain ⟨x, hx, hm⟩ := List.mem_flatMap.mp hm
  obtain ⟨y, hy, e⟩ := List.mem_map.mp hm
  obtain ⟨y1, y2, y3⟩ := T.sub x hx y hy
  by_cases hl : x < y
  · rw [(asc2 (T.lt x hx) (T.lt y y1) hl).1] at e
    injection e with e1 e2
    injection e2 with e2
    subst e1 e2
    exact ⟨_, _, rfl, hl, hx, y1, hy⟩
  · have hl : y < x := by omega
    rw [(asc2 (T.lt y y1) (T.lt x hx) hl).2] at e
    injection e with e1 e2
    injection e2 with e2
    subst e1 e2
    exact ⟨_, _, rfl, hl, y1, hx, y3⟩
theorem less_ne {ls : List Nat} {f : Nat → List Nat} (T : Tab ls f) {h : List Nat} {t : List (List Nat)} (e : tabPairs ls f = h :: t) : tabPairs ls f ≠ pairsOf (t.map ascOf) := by
  intro e2
  have nd : (h :: t).Nodup := e ▸ pairsOf_nodup _
  have hh : h ∈ pairsOf (t.map ascOf) := by
    rw [← e2, e]
    exact List.mem_cons_self ..
  obtain ⟨a, b, rfl, ha, hb, hm⟩ := pairsOf_mem.mp hh
  obtain ⟨p, hp, e3⟩ := List.mem_map.mp hm
  have hp' : p ∈ tabPairs ls f := by
    rw [e]
    exact List.mem_cons_of_mem _ hp
  obtain ⟨x, y, rfl, hl, hx, hy, _⟩ := tabPairs_lt T hp'
  rw [(asc2 (T.lt x hx) (T.lt y hy) hl).1] at e3
  rw [e3] at hp
  exact (List.nodup_cons.mp nd).1 hp
theorem asc_asc (ls : List Nat) : ascOf (ascOf ls) = ascOf ls := by
  unfold ascOf
  refine List.filter_congr fun c hc => decide_eq_decide.mpr ?_
  rw [List.mem_filter, decide_eq_true_iff]
  exact ⟨fun z => z.2, fun z => ⟨hc, z⟩⟩
section
variable {K : PySem.W.Frag} {H : Hp} {Q : VK} {p q : Addr} {n m : Int} {a b : List Nat}
theorem shaped_pair (h : ∀ c ∈ a, c < 1000) : SeqAt.shaped (.tuple [.int n, .str (tx a)]) = true := by
  have h2 : (PyData.tuple [.int n, .str (tx a)]).depth ≤ 64 := by simp [PyData.depth, PyData.depthAll]
  have h3 : (PyData.tuple [.int n, .str (tx a)]).canLay0 = true := by simp [PyData.canLay0, PyData.canLayAll0, ok_tx h]
  simp [SeqAt.shaped, h2, h3]
theorem eqv_pair : PyData.eqv (.tuple [.int n, .str (tx a)]) (.tuple [.int m, .str (tx b)]) = decide (n = m ∧ a = b) := by
  simp only [PyData.eqv, PyData.eqvAll, Bool.and_true]
  rw [Bool.eq_iff_iff, Bool.and_eq_true, beq_iff_eq, beq_iff_eq, decide_eq_true_iff, tx_inj]
theorem v_eqPair (h1 : H p = some (.tup [.int n, .str (tx a)])) (h2 : H q = some (.tup [.int m, .str (tx b)])) (ha : ∀ c ∈ a, c < 1000) (hb : ∀ c ∈ b, c < 1000) (k : Q (.bl (decide (n = m ∧ a = b))) H) : rEqD K (.ref p) (.ref q) H Q := by
  refine ⟨_, _, .tup (SqT.of h1) (.cons (.int n) (.cons (.str _) .nil)), .tup (SqT.of h2) (.cons (.int m) (.cons (.str _) .nil)), shaped_pair ha, shaped_pair hb, ?_⟩
  rw [eqv_pair]
  exact k
theorem v_nePair (h1 : H p = some (.tup [.int n, .str (tx a)])) (h2 : H q = some (.tup [.int m, .str (tx b)])) (ha : ∀ c ∈ a, c < 1000) (hb : ∀ c ∈ b, c < 1000) (k : Q (.bl (!decide (n = m ∧ a = b))) H) : rNeD K (.ref p) (.ref q) H Q := by
  refine ⟨_, _, .tup (SqT.of h1) (.cons (.int n) (.cons (.str _) .nil)), .tup (SqT.of h2) (.cons (.int m) (.cons (.str _) .nil)), shaped_pair ha, shaped_pair hb, ?_⟩
  rw [eqv_pair]
  exact k
theorem dp_bools {K : PySem.W.Frag} {H : Hp} : ∀ bs : List Bool, DpAll K H (bs.map V.bl) (bs.map PyData.bool)
  | [] => .nil
  | b :: r => .cons (.bl b) (dp_bools r)
theorem lay_bools : ∀ bs : List Bool, PyData.canLayAll0 (bs.map PyData.bool) = true
  | [] => rfl
  | b :: r => lay_bools r
theorem dep_bools : ∀ bs : List Bool, PyData.depthAll (bs.map PyData.bool) ≤ 1
  | [] => by decide
  | b :: r => Nat.max_le.mpr ⟨by show PyData.depth (.bool b) ≤ 1; simp [PyData.depth], dep_bools r⟩
theorem shaped_bools (bs : List Bool) : SeqAt.shaped (.list (bs.map PyData.bool)) = true := by
  have h := dep_bools bs
  have h2 : (PyData.list (bs.map PyData.bool)).depth ≤ 64 := by simp only [PyData.depth]; omega
  have h3 : (PyData.list (bs.map PyData.bool)).canLay0 = true := by simp only [PyData.canLay0]; exact lay_bools bs
  simp [SeqAt.shaped, h2, h3]
theorem eqv_bools : ∀ bs : List Bool, PyData.eqvAll (bs.map PyData.bool) (bs.map PyData.bool) = true
  | [] => rfl
  | b :: r => by simp [PyData.eqvAll, PyData.eqv, eqv_bools r]
theorem v_neBools {bs : List Bool} (h1 : H p = some (.lst (bs.map V.bl))) (h2 : H q = some (.lst (bs.map V.bl))) (k : Q (.bl false) H) : rNeD K (.ref p) (.ref q) H Q := by
  refine ⟨_, _, .lst (SqL.of h1) (dp_bools bs), .lst (SqL.of h2) (dp_bools bs), shaped_bools bs, shaped_bools bs, ?_⟩
  have e : PyData.eqv (.list (bs.map PyData.bool)) (.list (bs.map PyData.bool)) = true := by
    show PyData.eqvAll _ _ = _
    exact eqv_bools bs
  rw [e]
  exact k
theorem v_neNilT {ls : List (List Nat)} (h1 : H p = some (.tup (strsV ls))) (h2 : H q = some (.tup [])) (h : ∀ l ∈ ls, ∀ c ∈ l, c < 1000) (k : Q (.bl (!ls.isEmpty)) H) : rNeD K (.ref p) (.ref q) H Q := by
  rw [strsV_map] at h1
  refine ⟨.tuple ((ls.map tx).map PyData.str), .tuple [], .tup (SqT.of h1) (dp_strs _), .tup (SqT.of h2) .nil, shaped_strsT _ (ok_strs h), shaped_strsT [] (by simp), ?_⟩
  have e : PyData.eqv (.tuple ((ls.map tx).map PyData.str)) (.tuple []) = ls.isEmpty := by
    cases ls <;> simp [PyData.eqv, PyData.eqvAll]
  rw [e]
  exact k
theorem cut_tail {x : V} {xs : List V} : cutV (x :: xs) (some 1) none = xs := by
  unfold cutV
  have e1 : HT.sIx (x :: xs).length 0 (some 1) = 1 := by
    simp [HT.sIx]
  have e2 : HT.sIx (x :: xs).length (x :: xs).length none = (x :: xs).length := rfl
  rw [e1, e2]
  show (xs.take ((x :: xs).length - 1)) = xs
  rw [List.length_cons, Nat.add_sub_cancel, List.take_length]
theorem v_tailT {x : V} {xs : List V} (h : H p = some (.tup (x :: xs))) (k : ∀ r H', H r = none → Same H H' → H' r = some (.tup xs) → Q (.ref r) H') : rSlT K (.ref p) (some 1) none H Q := by
  refine ⟨p, _, rfl, SqT.of h, ?_, fun r hr => ?_⟩
  · intro z
    have := z.1
    simp [HT.sIx] at this
  · rw [cut_tail]
    exact k r _ hr (Same.new hr) upd_same
end
end Cw
set_option Elab.async false
set_option linter.all false
set_option maxRecDepth 100000
set_option maxHeartbeats 4000000
namespace Cw
open PySem PySem.Spec L2
local macro_rules | `(tactic| walk_at "side") => `(tactic| first | omega | assumption | (dsimp only; omega) | (unfold CMul; omega) | exact ⟨by decide, by decide, by decide⟩ | exact wdiv (by first | assumption | decide | omega) (by first | assumption | decide | omega) | (simp only [List.length_cons, List.length_nil]; omega) | rfl)
local macro_rules | `(tactic| walk_at "hl") => `(tactic| first | assumption | exact upd_same | ((refine Cw.Same.at (by assumption) ?_); walk_at "hl") | ((refine Cw.Keep.at (by assumption) ?_ (by assumption)); walk_at "hl"))
local macro_rules | `(tactic| walk_at "st") => `(tactic| first
  | (with_reducible refine s_seq ?_) | (with_reducible refine g_nm ?_) | (with_reducible refine s_next ?_) | (with_reducible refine s_set ?_) | (with_reducible refine s_drop ?_) | (with_reducible refine s_ret ?_) | (with_reducible refine s_if ?_)
  | ((with_reducible refine e_varG ?_); refine ⟨_, (by with_unfolding_all rfl), ?_⟩) | (with_reducible refine e_c ?_) | (with_reducible refine e_op ?_) | (with_reducible refine e_un ?_)
  | (with_reducible refine e_cons ?_) | (with_reducible refine e_nil ?_) | (with_reducible refine e_cb ?_) | (with_reducible refine e_call ?_) | (with_reducible refine e_md ?_)
  | (with_reducible refine t_test ?_) | (with_reducible refine t_B ?_) | (with_reducible refine t_and ?_) | (with_reducible refine t_or ?_) | (with_reducible refine t_not ?_)
  | (with_reducible refine e_andV ?_) | (with_reducible refine e_orV ?_) | (with_reducible refine e_notV ?_) | (with_reducible refine e_if ?_)
  | (with_reducible refine v_I0 ?_) | ((with_reducible refine v_I ?c ?_); try (case c => walk_at "side")) | (with_reducible refine v_bl ?_)
  | ((with_reducible refine v_eq ?c ?_); (case c => with_unfolding_all rfl)) | ((with_reducible refine v_ne ?c ?_); (case c => with_unfolding_all rfl))
  | (with_reducible refine v_inti ?_) | (with_reducible refine v_intb ?_) | ((with_reducible refine v_lenG ?_); refine ⟨_, (by walk_at "hl"), ?_⟩)
  | ((with_reducible refine v_lenS ?c ?_); try (case c => walk_at "side"))
  | (with_reducible refine e_dnew ?_) | (with_reducible refine e_dget ?_) | (with_reducible refine s_dput ?_) | (with_reducible refine e_lst ?_) | (with_reducible refine e_tup ?_)
  | ((with_reducible refine v_lst ?c ?_); (case c => walk_at "side")) | ((with_reducible refine v_tup ?c ?_); (case c => walk_at "side"))
  | ((with_reducible refine v_dgetG ?_); refine ⟨_, (by assumption), ?_⟩)
  | (with_reducible refine e_sl ?_) | (with_reducible refine e_nopart ?_) | (with_reducible refine e_part ?_) | (with_reducible refine e_m1 ?_) | (with_reducible refine v_isS ?_) | (with_reducible refine v_int ?_)
  | (with_reducible refine e_lc ?_) | (with_reducible refine e_iStr ?_) | (with_reducible refine e_iEnumS ?_) | (with_reducible refine v_iEnumS ?_) | (with_reducible refine v_str ?_) | (with_reducible refine e_yes ?_) | (with_reducible refine e_fld ?_) | (with_reducible refine e_sfld ?_)
  | ((with_reducible refine v_addS ?c ?_); try (case c => walk_at "side")) | (with_reducible refine v_inS ?_) | (with_reducible refine v_notInS ?_) | (with_reducible refine v_ltS ?_)
  | ((with_reducible refine v_inLG ?_); refine ⟨_, (by walk_at "hl"), ?_⟩) | (with_reducible refine v_isiS ?_) | (with_reducible refine e_revS ?_) | ((with_reducible refine v_revS ?c ?_); try (case c => walk_at "side"))
  | ((with_reducible refine v_lenSetG ?_); refine ⟨_, (by walk_at "hl"), ?_⟩)
  | (with_reducible refine e_bm ?_) | (with_reducible refine e_bm0 ?_) | ((with_reducible refine v_tyLG ?_); refine ⟨_, (by walk_at "hl"), ?_⟩)
  | (with_reducible refine iteNT ?_) | (with_reducible refine iteNF ?_) | (with_reducible refine e_for ?_)
  | (with_reducible refine e_iL ?_) | (with_reducible refine e_iT ?_) | ((with_reducible refine v_iLG ?_); refine ⟨_, (by walk_at "hl"), ?_⟩) | (with_reducible refine e_iR1 ?_) | ((with_reducible refine v_iR1 ?c1 ?c2 ?_); try (case c1 => walk_at "side"); try (case c2 => walk_at "side"))
  | (with_reducible refine e_iR2 ?_) | ((with_reducible refine v_iR2 ?c1 ?_); try (case c1 => walk_at "side"))
  | (with_reducible refine e_pr0 ?_) | (with_reducible refine e_pr ?_) | (with_reducible refine e_disp ?_) | (with_reducible refine s_asgT ?_) | (with_reducible refine e_tryA ?_) | (with_reducible refine e_callS ?_) | (with_reducible refine e_mdS ?_) | (with_reducible refine e_par ?_) | (with_reducible refine v_par ?_) | (with_reducible refine e_par3 ?_) | (with_reducible refine v_par3 ?_) | (with_reducible refine e_iK ?_) | (with_reducible refine e_dnotin ?_)
  | (with_reducible refine iteT ?_) | (with_reducible refine iteF ?_))
local macro_rules | `(tactic| walk_at "go") => `(tactic| repeat walk_at "st")
def spPen (K : PySem.W.Frag) : Sp := fun vs H Q _ => ∃ (a : Addr) (ns : List Int), vs = [.ref a] ∧ SqL K H a (ns.map V.int) ∧ ns.length ≤ 63 ∧ ∀ (g : Pen) (H' : Hp), PenAt g H' 0 → Same H H' → H g.p = none → Q (.ref g.p) H'
theorem cut_ints (ns : List Int) (lo hi : Option Int) : ∃ ms : List Int, cutV (ns.map V.int) lo hi = ms.map V.int ∧ ms.length ≤ ns.length := by
  unfold cutV
  rw [← List.map_drop, ← List.map_take]
  refine ⟨_, rfl, ?_⟩
  rw [List.length_take, List.length_drop]
  omega
section
variable {P : Program} {w : World} {K : PySem.W.Frag} {mg : Str → Option Value} {base : Heap}
abbrev stpen : Stmt := (top 46)
abbrev Npen : List Str := ["_law_script"]
theorem scpen : FnScope Npen ["_law_script"] (defScope stpen) := ⟨rfl, rfl, rfl, by decide +kernel, rfl, by decide +kernel, by decide +kernel⟩

theorem ok_pen (F : FnAt K mg "_law_pen" stpen) (T : Txt K mg) : Def P w K mg base CX0 1 "_law_pen" ["_law_script"] (spPen K) := by
  refine F.ok scpen (fun _ _ _ _ _ _ us hl => match us, hl with | [_], _ => rfl) (fun vs H Q E h => ?_) (fun f cdv A outer s H vs Q E hr h => ?_)
  · obtain ⟨a, ns, rfl, _⟩ := h
    rfl
  obtain ⟨a, ns, rfl, ha, hn, k⟩ := h
  have hu := hu_of hr
  have nd := scpen.nd
  refine ⟨_, (pss_one (ps_ret (pe_disp (pps_cons pe_str (pe_callTy (c_listK (K := K) rfl) (by rfl) T.list (by decide +kernel) (pa_cons (pe_slice (sl_LK (K := K) rfl) (pv 0) po_none (po_some pe_int)) pa_nil)) (pps_cons pe_str pe_int (pps_cons pe_str pe_int pps_nil))) (by rfl) (by rfl) (fun z => by cases z) (by decide)))), ?_⟩
  refine s_start [some _] rfl ?_
  walk_at "go"
  intro p hp
  have s1 : Same H (upd H p (.dK [])) := Same.new hp
  obtain ⟨ms, e1, l1⟩ := cut_ints ns none (some 63)
  walk_at "go"
  refine v_slL (sqL_same ha s1) fun b H2 hb s2 e2 => ?_
  rw [e1] at e2
  walk_at "go"
  refine v_list (SqL.of e2) fun c H3 hc s3 e3 => ?_
  walk_at "go"
  have ep : H3 p = some (.dK []) := s3 _ _ (s2 _ _ upd_same)
  refine ⟨ep, [(Sum.inr "cells", .ref c), (Sum.inr "place", .int 0), (Sum.inr "rest", .int 0)], rfl, (by show 3 ≤ 15; decide), ?_⟩
  have hcp : c ≠ p := (ne_of_none (s2 _ _ upd_same) hc).symm
  have em : mergeK [] [(Sum.inr ("cells" : Str), V.ref c), (Sum.inr ("place" : Str), .int 0), (Sum.inr ("rest" : Str), .int 0)] = penL c 0 0 := by
    unfold mergeK penL
    rw [List.foldl_cons, List.foldl_cons, List.foldl_cons, List.foldl_nil]
    rw [putK_new (k := Sum.inr ("cells" : Str)) _ rfl, putK_new (k := Sum.inr ("place" : Str)) _ (by rw [List.nil_append, valV_neg kcp]; rfl), putK_new (k := Sum.inr ("rest" : Str)) _ (by rw [List.nil_append, List.cons_append, valV_neg kcr, List.nil_append, valV_neg kpr]; rfl)]
    rfl
  rw [em]
  have s4 : Same H (upd H3 p (.dK (penL c 0 0))) := fun b' o hb' => by
    rw [upd_ne (ne_of_none hb' hp)]
    exact s3 _ _ (s2 _ _ (s1 _ _ hb'))
  refine k ⟨p, c, ms⟩ _ ⟨0, 0, upd_same, ?_, by show ms.length ≤ 63; omega, by omega, by omega, by omega⟩ s4 hp
  show upd H3 p _ c = _
  rw [upd_ne hcp]
  exact e3
end
end Cw
set_option Elab.async false
set_option linter.all false
set_option maxRecDepth 100000
set_option maxHeartbeats 4000000
namespace Cw
open PySem PySem.Spec L2
theorem cells_ne {k : Nat} : ¬ ((Sum.inr (tx [k]) : Key) = Sum.inr ("cells" : Str)) := by
  intro h
  injection h with h
  have : (tx [k]).length = ("cells" : Str).length := by rw [h]
  rw [tx_len, List.length_singleton] at this
  exact absurd this (by decide +kernel)
theorem RoomAt.pen {R : Addr} {H H' : Hp} {r x : Addr} {nm : List Nat} {g : Pen} {n : Nat} (h : RoomAt R H r x nm) (p : PenAt g H n) (k : Keep g.p H H') : RoomAt R H' r x nm := by
  obtain ⟨dx, e⟩ := h.ex
  obtain ⟨a, b, h1, _⟩ := p.ex
  exact ⟨dx, k _ _ e (ne_of e h1 (by intro z; cases z))⟩
theorem PlanAt.pen {C : Addr} {H H' : Hp} {x : Addr} {ks : List Nat} {ps : List (List Nat)} {g : Pen} {n : Nat} (h : PlanAt C H x ks ps) (p : PenAt g H n) (k : Keep g.p H H') : PlanAt C H' x ks ps := by
  obtain ⟨dx, t, d, a1, a2, a3⟩ := h.ex
  obtain ⟨a, b, h1, _⟩ := p.ex
  refine ⟨dx, t, d, k _ _ a1 (ne_of a1 h1 (by intro z; cases z)), k _ _ a2 (ne_of a2 h1 (by intro z; cases z)), k _ _ a3 fun z => ?_⟩
  rw [z, h1] at a3
  injection a3 with a3
  injection a3 with a3
  unfold crossKV penL at a3
  generalize hk : ks.map _ = m at a3
  cases ks with
  | nil => rw [List.map_nil] at hk; rw [← hk] at a3; cases a3
  | cons c r =>
    rw [List.map_cons] at hk
    rw [← hk] at a3
    injection a3 with a3 _
    injection a3 with a3 _
    exact cells_ne a3.symm
theorem RoomAt.lst {R : Addr} {H H' : Hp} {r x q : Addr} {nm : List Nat} {l : List V} (h : RoomAt R H r x nm) (e0 : H q = some (.lst l)) (k : Keep q H H') : RoomAt R H' r x nm := by
  obtain ⟨dx, e⟩ := h.ex
  exact ⟨dx, k _ _ e (ne_of e e0 (by intro z; cases z))⟩
theorem PlanAt.lst {C : Addr} {H H' : Hp} {x q : Addr} {ks : List Nat} {ps : List (List Nat)} {l : List V} (h : PlanAt C H x ks ps) (e0 : H q = some (.lst l)) (k : Keep q H H') : PlanAt C H' x ks ps := by
  obtain ⟨dx, t, d, a1, a2, a3⟩ := h.ex
  exact ⟨dx, t, d, k _ _ a1 (ne_of a1 e0 (by intro z; cases z)), k _ _ a2 (ne_of a2 e0 (by intro z; cases z)), k _ _ a3 (ne_of a3 e0 (by intro z; cases z))⟩
end Cw
set_option Elab.async false
set_option linter.all false
set_option maxRecDepth 100000
set_option maxHeartbeats 4000000
/-! calls with keywords and with defaults, by where each parameter comes from -/
namespace Cw
open PySem PySem.Spec L2
/-- a parameter's value: the i-th that is given, a default, a keyword's -/
inductive Src where
  | pos (i : Nat)
  | dfl (i : Nat)
  | kw (i : Nat)
def Src.up : Src → Src
  | .pos i => .pos (i + 1)
  | .dfl i => .dfl i
  | .kw i => .kw i
def getS {α : Type} (us its ws : List α) : Src → Option α
  | .pos i => us[i]?
  | .dfl i => its[i]?
  | .kw i => ws[i]?
def gS (ss : List Src) {α : Type} (us its ws : List α) : List α := ss.filterMap (getS us its ws)
theorem vals_get : ∀ {vs : List V} {us : List Value}, Vals vs us → ∀ i : Nat, (vs[i]? = none ∧ us[i]? = none) ∨ ∃ v u, vs[i]? = some v ∧ us[i]? = some u ∧ RelV v u
  | _, _, .nil, i => .inl ⟨rfl, rfl⟩
  | _, _, .cons r t, 0 => .inr ⟨_, _, rfl, rfl, r⟩
  | _, _, .cons r t, i + 1 => by
    have := vals_get t i
    simpa using this
theorem gS_rel {vs ds zs : List V} {us its ws : List Value} (r1 : Vals vs us) (r2 : Vals ds its) (r3 : Vals zs ws) : ∀ ss : List Src, Vals (gS ss vs ds zs) (gS ss us its ws)
  | [] => .nil
  | s :: ss => by
    have ih := gS_rel r1 r2 r3 ss
    have key : (getS vs ds zs s = none ∧ getS us its ws s = none) ∨ ∃ v u, getS vs ds zs s = some v ∧ getS us its ws s = some u ∧ RelV v u := by
      cases s with
      | pos i => exact vals_get r1 i
      | dfl i => exact vals_get r2 i
      | kw i => exact vals_get r3 i
    unfold gS at ih ⊢
    rcases key with ⟨a, b⟩ | ⟨v, u, a, b, r⟩
    · rw [List.filterMap_cons_none a, List.filterMap_cons_none b]
      exact ih
    · rw [List.filterMap_cons_some a, List.filterMap_cons_some b]
      exact .cons r ih
theorem gS_up {α : Type} {x : α} {vs ds zs : List α} : ∀ ss : List Src, gS (.pos 0 :: ss.map Src.up) (x :: vs) ds zs = x :: gS ss vs ds zs := by
  intro ss
  unfold gS
  rw [List.filterMap_cons_some (show getS (x :: vs) ds zs (.pos 0) = some x from rfl), List.filterMap_map]
  congr 1
  congr 1
  funext s
  cases s <;> rfl
/-- how a call binds its n values and its keywords ks -/
abbrev KB (K : PySem.W.Frag) (fd : FuncData) (ps : List Str) (n : Nat) (ks : List Str) (ss : List Src) (dvs : List V) : Prop := ∃ g, KBn K fd ps n ks g (fun vs zs => gS ss vs dvs zs)
section
variable {K : PySem.W.Frag} {x qual : Str} {params : Arguments} {body : List Stmt} {scope : Scope} {dvs : List V} {f : Addr} {fd : FuncData} {ps : List Str}
theorem FunD.kb (F : FunD K x qual params body scope dvs [] f fd) (n : Nat) (ks : List Str) (ss : List Src) (hd : dvs ≠ [])
    (h : ∀ (T : Addr) (kV doc pm : Value) (an : Option Addr) (cdv ct : Value) (us its ws : List Value), us.length = n → its.length = dvs.length → ws.length = ks.length →
      ∃ k, bindArgs (PySem.W.fnOf x qual params body scope (.ref T) kV doc pm an cdv ct) ⟨us, ks.zip ws⟩ = seqItems? (.ref T) >>= k ∧ k (some its.toArray) = pure (ps.zip (gS ss us its ws))) : KB K fd ps n ks ss dvs := by
  obtain ⟨its, b⟩ := F.kbindsD (ps := ps) n ks (fun {_} vs ds zs => gS ss vs ds zs) hd (fun r1 r2 r3 => gS_rel r1 r2 r3 ss) h
  exact ⟨_, b⟩
end
/-- C(..) by n values and the keywords ks -/
structure CDefN (P : Program) (w : World) (K : PySem.W.Frag) (mg : Str → Option Value) (base : Heap) (CX : CXT) (k : Nat) (x : Str) (C : Addr) (sp : Sp) (n : Nat) (ks : List Str) (ss : List Src) (dvs : List V) : Prop where
  ex : ∃ f fd ps sp0, mg x = some (.ref C) ∧ Mk K C f ∧ KB K fd ps (n + 1) ks (.pos 0 :: ss.map Src.up) dvs ∧ FnOk P w K mg base CX k f fd ps sp0 ∧ Conv C sp0 sp
/-- the reading of such a call -/
def tCN (sp : Sp) (n m : Nat) (ss : List Src) (dvs : List V) (E : XK) (t tk : TA) : TE := fun σ H Q => t σ H fun vs H1 => tk σ H1 fun zs H2 => vs.length = n ∧ zs.length = m ∧ sp (gS ss vs dvs zs) H2 Q E
section
variable {P : Program} {w : World} {K : PySem.W.Frag} {mg : Str → Option Value} {base : Heap} {CX : CXT} {k : Nat} {C : Addr} {x qual : Str} {sp : Sp} {st : Stmt} {dvs : List V} {n : Nat} {ks : List Str} {ss : List Src}
theorem CDefN.mono {j : Nat} (D : CDefN P w K mg base CX j x C sp n ks ss dvs) (h : j ≤ k) : CDefN P w K mg base CX k x C sp n ks ss dvs := by
  obtain ⟨f, fd, ps, sp0, a, b, c, d, e⟩ := D.ex
  exact ⟨f, fd, ps, sp0, a, b, c, d.mono h, e⟩
theorem CMk.kw {ps : List Str} (D : CMk P w K mg base CX k x C sp ps qual st dvs) (n : Nat) (ks : List Str) (ss : List Src) (hd : dvs ≠ [])
    (h : ∀ (T : Addr) (kV doc pm : Value) (an : Option Addr) (cdv ct : Value) (us its ws : List Value), us.length = n + 1 → its.length = dvs.length → ws.length = ks.length →
      ∃ k, bindArgs (PySem.W.fnOf "__init__" qual (defArgs st) (defBody st) (defScope st) (.ref T) kV doc pm an cdv ct) ⟨us, ks.zip ws⟩ = seqItems? (.ref T) >>= k ∧ k (some its.toArray) = pure (ps.zip (gS (.pos 0 :: ss.map Src.up) us its ws))) : CDefN P w K mg base CX k x C sp n ks ss dvs := by
  obtain ⟨f, fd, sp0, a, b, c, d, e, G⟩ := D.ex
  exact ⟨f, fd, ps, sp0, a, b, FunD.kb G (n + 1) ks _ hd h, d, e⟩
end
section
variable {X : Cx} {CX : CXT} {k n : Nat} {sp : Sp} {E : XK} {x : Str} {C : Addr} {p pos : PySem.Pos} {e : Expr} {es : List Expr} {kws : List Keyword} {t tk : TA} {ks : List Str} {ss : List Src} {dvs : List V}
theorem run_mkN {pins : List (Addr × Obj)} {σ : St} {H : Hp} {s : Shared} {Q : VK} {us ws : List Value} {vs zs : List V} {f : Addr} {fd : FuncData} {ps : List Str} {sp0 : Sp} {g : List Value → List Value → List Value} (M : Mk X.K C f) (F : FnOk X.prog X.w X.K X.mg X.base CX k f fd ps sp0) (cv : Conv C sp0 sp) (hr : Room (k + 1) X.A) (hb : KBn X.K fd ps (n + 1) ks g (fun vs zs => gS (.pos 0 :: ss.map Src.up) vs dvs zs))
    (hx : Passes CX X E) (I : Inv X pins σ H s) (r : Vals vs us) (rz : Vals zs ws) (l1 : vs.length = n) (l2 : zs.length = ks.length) (h : sp (gS ss vs dvs zs) H Q E) :
    wpAny (model X.prog X.w) X.A (call (.ref C) us (ks.zip ws)) (EP X pins σ Q) X.xe s := by
  refine run_makeN M F hr hb hx I r rz l1 l2 fun a da n1 n2 n3 => ?_
  rw [gS_up]
  exact cv _ H Q E h a da n1 n2 n3
theorem pe_mkN (D : CDefN X.prog X.w X.K X.mg X.base CX k x C sp n ks ss dvs) (hr : Room (k + 1) X.A) (hx : Passes CX X E) (ha : PA X (e :: es) t) (hkw : PK X kws tk) (hg : Gl X x := by rfl)
    (hall : (backToKw pos (keywordEach kws X.env)).all (·.1.isSome) = true := by rfl) (hks : (backToKw pos (keywordEach kws X.env)).filterMap (·.1) = ks := by rfl)
    (hdb : (x == ("__debug__" : Str)) = false := by decide) (he : starEach (e :: es) X.env = (false, eval e X.env) :: starEach es X.env := by rfl)
    (hpl : ((backTo pos (starEach (e :: es) X.env)).any (·.1) || (backToKw pos (keywordEach kws X.env)).any (·.1.isNone)) = false := by rfl) :
    PE X (.Call (.Name x p) (e :: es) kws pos) (tCN sp n ks.length ss dvs E t tk) := by
  obtain ⟨f, fd, ps, sp0, a, M, ⟨g, kb⟩, F, cv⟩ := D.ex
  refine ⟨fun pins s σ H Q I h => ?_⟩
  refine wpAny_Call_Name_kw (ld_glob I hg a ?_ hdb)
  refine PySem.W.callWith_KW (h₀ := X.base) I.ok.mod.kin M.kp hall (thn (ha.run pos pins s σ H _ I h) fun us s1 ⟨vs, H1, I1, r, q⟩ => ?_) hpl he
  refine thn (hkw.run pos pins s1 σ H1 _ I1 q) fun ws s2 ⟨zs, H2, I2, rz, l1, l2, q2⟩ => ⟨I2.kIn, ?_⟩
  rw [hks]
  exact run_mkN M F cv hr kb hx I2 r rz l1 l2 q2
theorem pe_mkN0 (D : CDefN X.prog X.w X.K X.mg X.base CX k x C sp 0 ks ss dvs) (hr : Room (k + 1) X.A) (hx : Passes CX X E) (hkw : PK X kws tk) (hg : Gl X x := by rfl)
    (hall : (backToKw pos (keywordEach kws X.env)).all (·.1.isSome) = true := by rfl) (hks : (backToKw pos (keywordEach kws X.env)).filterMap (·.1) = ks := by rfl)
    (hdb : (x == ("__debug__" : Str)) = false := by decide)
    (hpl : ((backTo pos (starEach [] X.env)).any (·.1) || (backToKw pos (keywordEach kws X.env)).any (·.1.isNone)) = false := by rfl) :
    PE X (.Call (.Name x p) [] kws pos) (tCN sp 0 ks.length ss dvs E tNil tk) := by
  obtain ⟨f, fd, ps, sp0, a, M, ⟨g, kb⟩, F, cv⟩ := D.ex
  refine ⟨fun pins s σ H Q I h => ?_⟩
  refine wpAny_Call_Name_kw (ld_glob I hg a ?_ hdb)
  refine PySem.W.callWith_KW0 (h₀ := X.base) I.ok.mod.kin M.kp hall ?_ hpl
  refine thn (hkw.run pos pins s σ H _ I h) fun ws s2 ⟨zs, H2, I2, rz, l1, l2, q2⟩ => ⟨I2.kIn, ?_⟩
  rw [hks]
  exact run_mkN (us := []) (vs := []) M F cv hr kb hx I2 .nil rz rfl l2 q2
end
/-! ### defs and methods by keywords -/
structure DefN (P : Program) (w : World) (K : PySem.W.Frag) (mg : Str → Option Value) (base : Heap) (CX : CXT) (k : Nat) (x : Str) (sp : Sp) (n : Nat) (ks : List Str) (ss : List Src) (dvs : List V) : Prop where
  ex : ∃ f fd ps, mg x = some (.ref f) ∧ PySem.W.keepIn K (.ref f) = true ∧ KB K fd ps n ks ss dvs ∧ FnOk P w K mg base CX k f fd ps sp
structure MDefN (P : Program) (w : World) (K : PySem.W.Frag) (mg : Str → Option Value) (base : Heap) (CX : CXT) (k : Nat) (C : Addr) (m : Str) (sp : Sp) (n : Nat) (ks : List Str) (ss : List Src) (dvs : List V) : Prop where
  ex : ∃ f fd ps, PySem.W.findIn K (.ref C) m = some (some (.ref f)) ∧ PySem.W.isFn K (.ref f) = true ∧ PySem.W.keepIn K (.ref f) = true ∧ KB K fd ps (n + 1) ks (.pos 0 :: ss.map Src.up) dvs ∧ FnOk P w K mg base CX k f fd ps sp
section
variable {P : Program} {w : World} {K : PySem.W.Frag} {mg : Str → Option Value} {base : Heap} {CX : CXT} {k : Nat} {C : Addr} {x m qual : Str} {sp : Sp} {st : Stmt} {dvs : List V} {n : Nat} {ks ps : List Str} {ss : List Src}
theorem DefN.mono {j : Nat} (D : DefN P w K mg base CX j x sp n ks ss dvs) (h : j ≤ k) : DefN P w K mg base CX k x sp n ks ss dvs := by
  obtain ⟨f, fd, ps, a, b, c, d⟩ := D.ex
  exact ⟨f, fd, ps, a, b, c, d.mono h⟩
theorem MDefN.mono {j : Nat} (D : MDefN P w K mg base CX j C m sp n ks ss dvs) (h : j ≤ k) : MDefN P w K mg base CX k C m sp n ks ss dvs := by
  obtain ⟨f, fd, ps, a, b, c, d, e⟩ := D.ex
  exact ⟨f, fd, ps, a, b, c, d, e.mono h⟩
theorem kb_of {fd : FuncData} (h : ∀ us ws : List Value, us.length = n → ws.length = ks.length → bindArgs fd ⟨us, ks.zip ws⟩ = pure (ps.zip (gS ss us [] ws))) : KB K fd ps n ks ss [] :=
  ⟨fun us ws => gS ss us [] ws, ⟨fun s us ws _ l1 l2 => .of_eq (h us ws l1 l2), fun r1 r2 => gS_rel r1 .nil r2 ss⟩⟩
theorem fd_eq {f : Addr} {fd fd' : FuncData} (h : ∃ oc od osl, K.lookup f = some ⟨oc, od, .func fd, osl⟩) (h' : ∃ oc od osl, K.lookup f = some ⟨oc, od, .func fd', osl⟩) : fd = fd' := by
  obtain ⟨_, _, _, h⟩ := h
  obtain ⟨_, _, _, h'⟩ := h'
  rw [h] at h'
  injection h' with h'
  injection h' with _ _ h' _
  injection h'
theorem Def.kw (D : Def P w K mg base CX k x ps sp) (F : FnAt K mg x st) (n : Nat) (ks : List Str) (ss : List Src)
    (h : ∀ (kV doc pm : Value) (an : Option Addr) (cdv ct : Value) (us ws : List Value), us.length = n → ws.length = ks.length → bindArgs (PySem.W.fnOf x x (defArgs st) (defBody st) (defScope st) .none kV doc pm an cdv ct) ⟨us, ks.zip ws⟩ = pure (ps.zip (gS ss us [] ws))) : DefN P w K mg base CX k x sp n ks ss [] := by
  obtain ⟨f, fd, a, b, c, d⟩ := D.ex
  obtain ⟨f', fd', a', G⟩ := F.ex
  rw [a] at a'
  injection a' with a'
  injection a' with a'
  subst a'
  have e := fd_eq c.lk (funLk G)
  subst e
  refine ⟨f, fd, ps, a, b, ?_, d⟩
  obtain ⟨oc, od, kV, doc, pm, an, cdv, ct, osl, rfl, _⟩ := G.ex
  exact kb_of (h kV doc pm an cdv ct)
theorem MDef.kw (D : MDef P w K mg base CX k C m ps sp) (F : MAt K C m qual st) (n : Nat) (ks : List Str) (ss : List Src)
    (h : ∀ (kV doc pm : Value) (an : Option Addr) (cdv ct : Value) (us ws : List Value), us.length = n + 1 → ws.length = ks.length → bindArgs (PySem.W.fnOf m qual (defArgs st) (defBody st) (defScope st) .none kV doc pm an cdv ct) ⟨us, ks.zip ws⟩ = pure (ps.zip (gS (.pos 0 :: ss.map Src.up) us [] ws))) : MDefN P w K mg base CX k C m sp n ks ss [] := by
  obtain ⟨f, fd, a, b, kp, c, d⟩ := D.ex
  obtain ⟨f', fd', a', b', G⟩ := F.ex
  rw [a] at a'
  injection a' with a'
  injection a' with a'
  injection a' with a'
  subst a'
  have e := fd_eq c.lk (funLk G)
  subst e
  refine ⟨f, fd, ps, a, b, kp, ?_, d⟩
  obtain ⟨oc, od, kV, doc, pm, an, cdv, ct, osl, rfl, _⟩ := G.ex
  exact kb_of (h kV doc pm an cdv ct)
end
section
variable {X : Cx} {CX : CXT} {k n : Nat} {sp : Sp} {E : XK} {x m : Str} {C : Addr} {p pos apos : PySem.Pos} {o e : Expr} {es : List Expr} {kws : List Keyword} {ta : TE} {t tk : TA} {ks : List Str} {ss : List Src} {dvs : List V}
theorem run_fN {pins : List (Addr × Obj)} {σ : St} {H : Hp} {s : Shared} {Q : VK} {us ws : List Value} {vs zs : List V} {f : Addr} {fd : FuncData} {ps : List Str} {g : List Value → List Value → List Value} {gV : List V → List V → List V} (F : FnOk X.prog X.w X.K X.mg X.base CX k f fd ps sp) (hr : Room k X.A) (hb : KBn X.K fd ps n ks g gV)
    (hx : Passes CX X E) (I : Inv X pins σ H s) (r : Vals vs us) (rz : Vals zs ws) (l1 : vs.length = n) (l2 : zs.length = ks.length) (h : sp (gV vs zs) H Q E) :
    wpAny (model X.prog X.w) X.A (call (.ref f) us (ks.zip ws)) (EP X pins σ Q) X.xe s := by
  have r2 := hb.rel r rz
  refine wpAny_call (codeAny_mono (F.run X.A X.stack s H ⟨us, ks.zip ws⟩ (g us ws) (gV vs zs) Q E hr I.env0 (hb.to s us ws I.kIn (r.length.symm.trans l1) (rz.length.symm.trans l2)) r2 h) fun r s' hq => ?_)
  cases r with
  | error e => exact hx pins σ H s e s' I hq
  | ok fl =>
    cases fl with
    | ret u => exact I.after hq
    | next => exact False.elim hq
    | brk => exact False.elim hq
    | cont => exact False.elim hq
theorem pe_fN (D : DefN X.prog X.w X.K X.mg X.base CX k x sp n ks ss dvs) (hr : Room k X.A) (hx : Passes CX X E) (ha : PA X (e :: es) t) (hkw : PK X kws tk) (hg : Gl X x := by rfl)
    (hall : (backToKw pos (keywordEach kws X.env)).all (·.1.isSome) = true := by rfl) (hks : (backToKw pos (keywordEach kws X.env)).filterMap (·.1) = ks := by rfl)
    (hdb : (x == ("__debug__" : Str)) = false := by decide) (he : starEach (e :: es) X.env = (false, eval e X.env) :: starEach es X.env := by rfl)
    (hpl : ((backTo pos (starEach (e :: es) X.env)).any (·.1) || (backToKw pos (keywordEach kws X.env)).any (·.1.isNone)) = false := by rfl) :
    PE X (.Call (.Name x p) (e :: es) kws pos) (tCN sp n ks.length ss dvs E t tk) := by
  obtain ⟨f, fd, ps, a, kp, ⟨g, kb⟩, F⟩ := D.ex
  refine ⟨fun pins s σ H Q I h => ?_⟩
  refine wpAny_Call_Name_kw (ld_glob I hg a ?_ hdb)
  refine PySem.W.callWith_KW (h₀ := X.base) I.ok.mod.kin kp hall (thn (ha.run pos pins s σ H _ I h) fun us s1 ⟨vs, H1, I1, r, q⟩ => ?_) hpl he
  refine thn (hkw.run pos pins s1 σ H1 _ I1 q) fun ws s2 ⟨zs, H2, I2, rz, l1, l2, q2⟩ => ⟨I2.kIn, ?_⟩
  rw [hks]
  exact run_fN F hr kb hx I2 r rz l1 l2 q2
theorem pe_fN0 (D : DefN X.prog X.w X.K X.mg X.base CX k x sp 0 ks ss dvs) (hr : Room k X.A) (hx : Passes CX X E) (hkw : PK X kws tk) (hg : Gl X x := by rfl)
    (hall : (backToKw pos (keywordEach kws X.env)).all (·.1.isSome) = true := by rfl) (hks : (backToKw pos (keywordEach kws X.env)).filterMap (·.1) = ks := by rfl)
    (hdb : (x == ("__debug__" : Str)) = false := by decide)
    (hpl : ((backTo pos (starEach [] X.env)).any (·.1) || (backToKw pos (keywordEach kws X.env)).any (·.1.isNone)) = false := by rfl) :
    PE X (.Call (.Name x p) [] kws pos) (tCN sp 0 ks.length ss dvs E tNil tk) := by
  obtain ⟨f, fd, ps, a, kp, ⟨g, kb⟩, F⟩ := D.ex
  refine ⟨fun pins s σ H Q I h => ?_⟩
  refine wpAny_Call_Name_kw (ld_glob I hg a ?_ hdb)
  refine PySem.W.callWith_KW0 (h₀ := X.base) I.ok.mod.kin kp hall ?_ hpl
  refine thn (hkw.run pos pins s σ H _ I h) fun ws s2 ⟨zs, H2, I2, rz, l1, l2, q2⟩ => ⟨I2.kIn, ?_⟩
  rw [hks]
  exact run_fN (us := []) (vs := []) F hr kb hx I2 .nil rz rfl l2 q2
/-- o.m(.., k = v) -/
def tMN (C : Addr) (m : Str) (sp : Sp) (n l : Nat) (ss : List Src) (dvs : List V) (E : XK) (ta : TE) (t tk : TA) : TE := fun σ H Q => ta σ H fun x H1 => ∃ a dx fs, x = .ref a ∧ H1 a = some (.ins C dx fs) ∧ fs.lookup m = none ∧ t σ H1 fun vs H2 => tk σ H2 fun zs H3 => vs.length = n ∧ zs.length = l ∧ sp (x :: gS ss vs dvs zs) H3 Q E
theorem pe_mdN0 {pl : Sem Bool} (D : MDefN X.prog X.w X.K X.mg X.base CX k C m sp 0 ks ss dvs) (c : Cls X.K C) (hr : Room k X.A) (hx : Passes CX X E) (he : PE X o ta) (hkw : PK X kws tk)
    (hall : (backToKw pos (keywordEach kws X.env)).all (·.1.isSome) = true := by rfl) (hks : (backToKw pos (keywordEach kws X.env)).filterMap (·.1) = ks := by rfl)
    (hpl : ((backTo pos (starEach [] X.env)).any (·.1) || (backToKw pos (keywordEach kws X.env)).any (·.1.isNone)) = false := by rfl)
    (ht : eval (.Call (.Attribute o m apos) [] kws pos) X.env = (do
      let ov ← eval o X.env
      standAt apos.atName
      let (f, first) ← holding [ov] (getMethod ov m pl)
      callWith pos f first (backTo pos (starEach [] X.env)) (backToKw pos (keywordEach kws X.env))) := by rfl) :
    PE X (.Call (.Attribute o m apos) [] kws pos) (tMN C m sp 0 ks.length ss dvs E ta tNil tk) := by
  obtain ⟨f, fd, ps, a1, a2, a3, ⟨g, kb⟩, F⟩ := D.ex
  refine ⟨fun pins s σ H Q I h => ?_⟩
  refine PySem.W.methodCall_KW (pl := pl) (thn (he.run pins s σ H _ I h) fun u s1 ⟨x, H1, I1, rx, a, dx, fs, ex, ea, l, q⟩ => ?_) ht
  subst ex
  obtain rfl : u = Value.ref a := rx
  refine getmeth_ok I1 ea c ⟨a1, a2, a3⟩ l ?_
  refine PySem.W.callWith_KW0 (first := [.ref a]) (h₀ := X.base) I.ok.mod.kin a3 hall ?_ hpl
  refine thn (hkw.run pos pins s1 σ H1 _ I1 q) fun ws s2 ⟨zs, H2, I2, rz, l1, l2, q2⟩ => ⟨I2.kIn, ?_⟩
  rw [hks]
  refine run_fN (us := [.ref a]) (vs := [.ref a]) F hr kb hx I2 (.cons rfl .nil) rz rfl l2 ?_
  show sp (gS (.pos 0 :: ss.map Src.up) [V.ref a] dvs zs) _ _ _
  rw [gS_up]
  exact q2
end
section
variable {X : Cx} {CX : CXT} {k : Nat} {C : Addr} {m : Str} {ps : List Str} {sp : Sp} {E : XK} {pos apos : PySem.Pos} {o : Expr} {ta : TE}
/-- o.m() -/
theorem pe_md0 {pl : Sem Bool} (D : MDef X.prog X.w X.K X.mg X.base CX k C m ps sp) (c : Cls X.K C) (hr : Room k X.A) (hx : Passes CX X E) (he : PE X o ta)
    (ht : eval (.Call (.Attribute o m apos) [] [] pos) X.env = (do
      let ov ← eval o X.env
      standAt apos.atName
      let (f, first) ← holding [ov] (getMethod ov m pl)
      callWith pos f first (backTo pos (starEach [] X.env)) (backToKw pos (keywordEach [] X.env))) := by rfl) :
    PE X (.Call (.Attribute o m apos) [] [] pos) (tMeth C m sp [] E ta tNil) := by
  obtain ⟨f, fd, a, b, kp, ⟨d, _⟩, g⟩ := D.ex
  exact pe_meth0 (pl := pl) he c ⟨a, b, kp⟩ g hr d .nil hx ht
/-- dict(xs) of pairs -/
def rDictP (K : PySem.W.Frag) : List V → Hp → VK → Prop := fun xs H Q => ∃ (a : Addr) (ps : List Addr) (kvs : List (Key × V)), xs = [.ref a] ∧ SqL K H a (ps.map V.ref) ∧ Paired (fun p kv => SqT K H p [kV kv.1, kv.2]) ps kvs ∧ ∀ p, H p = none → Q (.ref p) (upd H p (.dK (mergeK [] kvs)))
theorem c_dictPK {K : PySem.W.Frag} (h : X.K = K) (hc : X.calm = true) : CallR X (.type "dict") (rDictP K) := h ▸ call_dictP hc
end
theorem merge_new : ∀ {more acc : List (Key × V)}, (∀ q ∈ more, valV acc q.1 = none) → more.Pairwise (fun a b => a.1 ≠ b.1) → mergeK acc more = acc ++ more
  | [], acc, _, _ => (List.append_nil acc).symm
  | q :: more, acc, h, p => by
    have p' := List.pairwise_cons.mp p
    show mergeK (putK acc q.1 q.2) more = _
    rw [putK_new q.2 (h q (List.mem_cons_self ..)), merge_new (fun r hr => ?_) p'.2, List.append_assoc]
    · rfl
    · have h1 := h r (List.mem_cons_of_mem _ hr)
      have h2 := p'.1 r hr
      clear h p p'
      induction acc with
      | nil =>
        show valV [q] r.1 = none
        obtain ⟨a, b⟩ := q
        rw [valV_neg h2]
        rfl
      | cons c acc ih =>
        obtain ⟨a, b⟩ := c
        by_cases e : a = r.1
        · rw [e, valV_pos rfl] at h1
          cases h1
        · rw [valV_neg e] at h1
          rw [List.cons_append, valV_neg e]
          exact ih h1
section
variable {σ : St} {H : Hp} {Q : VK}
theorem e_CN {sp : Sp} {n m : Nat} {ss : List Src} {dvs : List V} {E : XK} {t tk : TA} (q : t σ H fun vs H1 => tk σ H1 fun zs H2 => vs.length = n ∧ zs.length = m ∧ sp (gS ss vs dvs zs) H2 Q E) : tCN sp n m ss dvs E t tk σ H Q := q
end
end Cw
set_option Elab.async false
set_option linter.all false
set_option maxRecDepth 100000
set_option maxHeartbeats 4000000
/-! names in plain words: no letter stands behind a greater or an equal one that it could be exchanged back to -/
namespace Cw
structure CrOk (cr : Nat → List Nat) : Prop where
  sym : ∀ a b, a ∈ cr b → b ∈ cr a
  irr : ∀ a, ¬ a ∈ cr a
/-- s may stand behind the letters of the list (the nearest first) -/
def okAt (cr : Nat → List Nat) (s : Nat) : List Nat → Prop
  | [] => True
  | t :: r => t ≠ s ∧ (t ∈ cr s → t < s ∧ okAt cr s r)
/-- a name, its last letter first -/
def NFr (cr : Nat → List Nat) : List Nat → Prop
  | [] => True
  | s :: r => okAt cr s r ∧ NFr cr r
def NF (cr : Nat → List Nat) (w : List Nat) : Prop := NFr cr w.reverse
section
variable {cr : Nat → List Nat} {s k x : Nat} {d e : List Nat}
theorem okAt_app : ∀ {q : List Nat}, okAt cr s (q ++ e) → (∀ y ∈ q, y ∈ cr s) → okAt cr s e
  | [], h, _ => h
  | y :: q, h, hq => okAt_app (q := q) (h.2 (hq y (List.mem_cons_self ..))).2 fun z hz => hq z (List.mem_cons_of_mem _ hz)
theorem okAt_lt : ∀ {q : List Nat}, okAt cr s (q ++ e) → (∀ y ∈ q, y ∈ cr s) → ∀ y ∈ q, y < s
  | [], _, _, y, hy => nomatch hy
  | z :: q, h, hq, y, hy => by
    have h2 := h.2 (hq z (List.mem_cons_self ..))
    rcases List.mem_cons.mp hy with rfl | hy
    · exact h2.1
    · exact okAt_lt h2.2 (fun z hz => hq z (List.mem_cons_of_mem _ hz)) y hy
theorem okAt_remove (hk : k ∈ cr s) : ∀ {q : List Nat}, okAt cr s (q ++ k :: e) → okAt cr s (q ++ e)
  | [], h => (h.2 hk).2
  | y :: q, h => ⟨h.1, fun z => ⟨(h.2 z).1, okAt_remove hk (h.2 z).2⟩⟩
theorem okAt_insert (hk : k ≠ s) : ∀ {q : List Nat}, okAt cr s (q ++ e) → ((∀ y ∈ q, y ∈ cr s) → k < s) → okAt cr s (q ++ k :: e)
  | [], h, hl => ⟨hk, fun _ => ⟨hl (fun _ z => nomatch z), h⟩⟩
  | y :: q, h, hl => ⟨h.1, fun z => ⟨(h.2 z).1, okAt_insert hk (h.2 z).2 fun hq => hl fun w hw => by
      rcases List.mem_cons.mp hw with rfl | hw
      · exact z
      · exact hq w hw⟩⟩
theorem NFr_right : ∀ {a b : List Nat}, NFr cr (a ++ b) → NFr cr b
  | [], _, h => h
  | _ :: a, b, h => NFr_right (a := a) h.2
theorem NFr_remove (ok : CrOk cr) : ∀ {d : List Nat}, (∀ y ∈ d, y ∈ cr k) → NFr cr (d ++ k :: e) → NFr cr (d ++ e)
  | [], _, h => h.2
  | y :: d, hd, h => ⟨okAt_remove (ok.sym _ _ (hd y (List.mem_cons_self ..))) h.1, NFr_remove ok (fun z hz => hd z (List.mem_cons_of_mem _ hz)) h.2⟩
theorem NFr_insert (ok : CrOk cr) {h0 : Nat} (hh : k < h0) (hok : okAt cr k e) : ∀ {d : List Nat}, (∀ y ∈ d, y ∈ cr k) → NFr cr (d ++ h0 :: e) → h0 ∈ cr k → NFr cr (d ++ h0 :: k :: e)
  | [], _, h, hc => ⟨okAt_insert (q := []) (by omega) h.1 fun _ => hh, hok, h.2⟩
  | y :: d, hd, h, hc => by
    have hy := hd y (List.mem_cons_self ..)
    refine ⟨?_, NFr_insert ok hh hok (fun z hz => hd z (List.mem_cons_of_mem _ hz)) h.2 hc⟩
    have h1 : okAt cr y ((d ++ [h0]) ++ e) := by
      rw [List.append_assoc]
      exact h.1
    have h2 : okAt cr y ((d ++ [h0]) ++ k :: e) := okAt_insert (fun z : k = y => ok.irr k (by rw [← z] at hy; exact hy)) h1 fun hq => by
      have := okAt_lt h1 hq h0 (by simp)
      omega
    rw [List.append_assoc] at h2
    exact h2
/-! ### what a step does -/
theorem splitB_spec (part : List Nat) : ∀ ra b : List Nat, ∃ c, (splitB part ra b).2 = c ++ b ∧ (∀ y ∈ c, y ∈ part) ∧ ra = c.reverse ++ (splitB part ra b).1 ∧ ∀ y, (splitB part ra b).1.head? = some y → ¬ y ∈ part
  | [], b => ⟨[], rfl, fun _ z => (nomatch z), rfl, fun _ z => (nomatch z)⟩
  | y :: r, b => by
    unfold splitB
    by_cases h : y ∈ part
    · rw [if_pos h]
      obtain ⟨c, h1, h2, h3, h4⟩ := splitB_spec part r (y :: b)
      refine ⟨c ++ [y], by rw [h1, List.append_assoc]; rfl, fun z hz => ?_, ?_, h4⟩
      · rcases List.mem_append.mp hz with z | z
        · exact h2 _ z
        · rw [List.mem_singleton.mp z]
          exact h
      · rw [List.reverse_append]
        show y :: r = y :: (c.reverse ++ _)
        rw [← h3]
    · rw [if_neg h]
      refine ⟨[], rfl, fun _ z => (nomatch z), rfl, fun z hz => ?_⟩
      injection hz with hz
      exact hz ▸ h
/-- the two ways of a step, the name's last letter first: d are exchanged, then the kind is found or not -/
theorem stepOf_cases (part name : List Nat) (k : Nat) : ∃ d e : List Nat, name.reverse = d ++ e ∧ (∀ y ∈ d, y ∈ part) ∧ (∀ y, e.head? = some y → ¬ y ∈ part) ∧
    ((∃ e', e = k :: e' ∧ (stepOf part name k).reverse = d ++ e') ∨ (e.head? ≠ some k ∧ (stepOf part name k).reverse = (putIn k d.reverse).reverse ++ e)) := by
  obtain ⟨c, h1, h2, h3, h4⟩ := splitB_spec part name.reverse []
  rw [List.append_nil] at h1
  refine ⟨c.reverse, (splitB part name.reverse []).1, h3, fun y hy => h2 y (List.mem_reverse.mp hy), h4, ?_⟩
  unfold stepOf
  rw [h1]
  generalize (splitB part name.reverse []).1 = ra
  unfold stepAt
  by_cases hc : ra.head? = some k
  · rw [if_pos hc]
    cases ra with
    | nil => cases hc
    | cons y r =>
      injection hc with hc
      subst hc
      exact .inl ⟨r, rfl, by simp⟩
  · rw [if_neg hc]
    exact .inr ⟨hc, by simp⟩
/-- the letters below k, the others -/
theorem putIn_split (k : Nat) (b : List Nat) : ∃ b1 b2, b = b1 ++ b2 ∧ putIn k b = b1 ++ k :: b2 ∧ (∀ y ∈ b1, y < k) ∧ ∀ y, b2.head? = some y → ¬ y < k := by
  refine ⟨b.takeWhile (fun c => decide (c < k)), b.dropWhile (fun c => decide (c < k)), List.takeWhile_append_dropWhile.symm, rfl, fun y hy => ?_, fun y hy => ?_⟩
  · have := List.all_eq_true.mp (List.all_takeWhile (p := fun c => decide (c < k)) (l := b)) y hy
    exact of_decide_eq_true this
  · have := List.head?_dropWhile_not (fun c => decide (c < k)) b
    rw [hy] at this
    simpa using this
theorem okAt_all : ∀ {q : List Nat}, (∀ y ∈ q, y < k) → okAt cr k e → (∀ y ∈ q, y ∈ cr k) → okAt cr k (q ++ e)
  | [], _, h, _ => h
  | y :: q, hl, h, hq => ⟨by have := hl y (List.mem_cons_self ..); omega, fun _ => ⟨hl y (List.mem_cons_self ..), okAt_all (fun z hz => hl z (List.mem_cons_of_mem _ hz)) h fun z hz => hq z (List.mem_cons_of_mem _ hz)⟩⟩
theorem okAt_stop (h1 : e.head? ≠ some k) (h2 : ∀ y, e.head? = some y → ¬ y ∈ cr k) : okAt cr k e := by
  cases e with
  | nil => trivial
  | cons y r => exact ⟨fun z => h1 (by rw [z]; rfl), fun z => absurd z (h2 y rfl)⟩
theorem NF_step (ok : CrOk cr) {name : List Nat} (h : NF cr name) : NF cr (stepOf (cr k) name k) := by
  obtain ⟨d, e, e1, hd, he, hc⟩ := stepOf_cases (cr k) name k
  unfold NF at h ⊢
  rw [e1] at h
  rcases hc with ⟨e', rfl, e2⟩ | ⟨hk, e2⟩
  · rw [e2]
    exact NFr_remove ok hd h
  · rw [e2]
    obtain ⟨b1, b2, eb, ep, hb1, hb2⟩ := putIn_split k d.reverse
    have ed : d = b2.reverse ++ b1.reverse := by
      have := congrArg List.reverse eb
      rw [List.reverse_reverse, List.reverse_append] at this
      exact this
    rw [ep, List.reverse_append, List.reverse_cons]
    have hd1 : ∀ y ∈ b1.reverse, y ∈ cr k := fun y hy => hd y (by rw [ed]; exact List.mem_append_right _ hy)
    have hok : okAt cr k (b1.reverse ++ e) := okAt_all (fun y hy => hb1 y (List.mem_reverse.mp hy)) (okAt_stop hk he) hd1
    have hn : NFr cr (b1.reverse ++ e) := by
      rw [ed, List.append_assoc] at h
      exact NFr_right h
    cases b2 with
    | nil =>
      show NFr cr (([] ++ [k] ++ b1.reverse) ++ e)
      exact ⟨hok, hn⟩
    | cons y r =>
      have hy : ¬ y < k := hb2 y rfl
      have hyc : y ∈ cr k := hd y (by rw [ed]; simp)
      have hne : y ≠ k := fun z => ok.irr k (z ▸ hyc)
      have e3 : ((y :: r).reverse ++ [k] ++ b1.reverse) ++ e = r.reverse ++ y :: k :: (b1.reverse ++ e) := by simp
      rw [e3]
      refine NFr_insert ok (by omega) hok (fun z hz => hd z (by rw [ed, List.reverse_cons]; exact List.mem_append_left _ (List.mem_append_left _ hz))) ?_ hyc
      rw [ed] at h
      have e4 : ((y :: r).reverse ++ b1.reverse) ++ e = r.reverse ++ y :: (b1.reverse ++ e) := by simp
      rw [e4] at h
      exact h
/-- a name with one letter more, if it is one -/
theorem step_snoc {name : List Nat} (h : okAt cr k name.reverse) : stepOf (cr k) name k = name ++ [k] := by
  obtain ⟨d, e, e1, hd, he, hc⟩ := stepOf_cases (cr k) name k
  rw [e1] at h
  have h2 := okAt_app h hd
  have h3 := okAt_lt h hd
  rcases hc with ⟨e', rfl, e2⟩ | ⟨hk, e2⟩
  · exact absurd rfl h2.1
  · obtain ⟨b1, b2, eb, ep, hb1, hb2⟩ := putIn_split k d.reverse
    have : b2 = [] := by
      cases b2 with
      | nil => rfl
      | cons y r =>
        have hy := hb2 y rfl
        have : y ∈ d := List.mem_reverse.mp (by rw [eb]; simp)
        exact absurd (h3 y this) hy
    rw [this] at ep eb
    rw [List.append_nil] at eb
    rw [ep, ← eb] at e2
    have e5 := congrArg List.reverse e2
    rw [List.reverse_reverse] at e5
    rw [e5]
    have e6 := congrArg List.reverse e1
    rw [List.reverse_reverse] at e6
    rw [e6]
    simp
end
/-! ### ways -/
def joinC (cr : Nat → List Nat) (name way : List Nat) : List Nat := way.foldl (fun n k => stepOf (cr k) n k) name
theorem joinOf_C (ks : List Nat) (ps : List (List Nat)) (name way : List Nat) : joinOf ks ps name way = joinC (crossOf ks ps) name way := rfl
section
variable {cr : Nat → List Nat}
theorem joinC_app (name a b : List Nat) : joinC cr name (a ++ b) = joinC cr (joinC cr name a) b := by
  unfold joinC
  rw [List.foldl_append]
theorem NF_join (ok : CrOk cr) : ∀ {way name : List Nat}, NF cr name → NF cr (joinC cr name way)
  | [], _, h => h
  | k :: r, name, h => NF_join (way := r) ok (NF_step ok h)
theorem NF_nil : NF cr [] := trivial
theorem NF_left {a b : List Nat} (h : NF cr (a ++ b)) : NF cr a := by
  unfold NF at h ⊢
  rw [List.reverse_append] at h
  exact NFr_right h
theorem join_NF : ∀ {way name : List Nat}, NF cr (name ++ way) → joinC cr name way = name ++ way
  | [], name, _ => (List.append_nil name).symm
  | k :: r, name, h => by
    have e : name ++ k :: r = (name ++ [k]) ++ r := by simp
    rw [e] at h ⊢
    have h1 : NF cr (name ++ [k]) := NF_left h
    have h2 : okAt cr k name.reverse := by
      unfold NF at h1
      rw [List.reverse_append] at h1
      exact h1.1
    show joinC cr (stepOf (cr k) name k) r = _
    rw [step_snoc h2]
    exact join_NF h
theorem is_NF (ok : CrOk cr) {w : List Nat} : joinC cr [] w = w ↔ NF cr w := ⟨fun h => h ▸ NF_join ok NF_nil, fun h => join_NF (name := []) h⟩
/-- the same by any two letters -/
theorem NF.two {w : List Nat} (h : NF cr w) {p q r : List Nat} {t s : Nat} (e : w = p ++ t :: (q ++ s :: r)) (hq : ∀ y ∈ q, y ∈ cr s) : t ≠ s ∧ (t ∈ cr s → t < s) := by
  unfold NF at h
  have e2 : w.reverse = r.reverse ++ s :: (q.reverse ++ t :: p.reverse) := by rw [e]; simp
  rw [e2] at h
  have h1 := (NFr_right h).1
  have h2 := okAt_app h1 fun y hy => hq y (List.mem_reverse.mp hy)
  exact ⟨h2.1, fun z => (h2.2 z).1⟩
end
end Cw
set_option Elab.async false
set_option linter.all false
set_option maxRecDepth 100000
set_option maxHeartbeats 4000000
/-! the vectors of the laws, in plain words -/
namespace Cw
/-- one coordinate of the marks, behind the door d -/
def thr (cr : Nat → List Nat) (d : Nat) (f : Nat → Int) : Nat → Int := fun e => if e = d then - f d else if e ∈ cr d then f e else f e + 2 * f d
/-- the first letter of the list is the last door -/
def act (cr : Nat → List Nat) (w : List Nat) (f : Nat → Int) : Nat → Int := w.foldr (thr cr) f
def unit (x : Nat) : Nat → Int := fun e => if e = x then 1 else 0
section
variable {cr : Nat → List Nat} {a b d e k : Nat} {f : Nat → Int} {w : List Nat}
theorem act_app (u v : List Nat) (f : Nat → Int) : act cr (u ++ v) f = act cr u (act cr v f) := by
  unfold act
  rw [List.foldr_append]
theorem thr_self : thr cr d f d = - f d := if_pos rfl
theorem thr_cr (ok : CrOk cr) (h : e ∈ cr d) : thr cr d f e = f e := by
  unfold thr
  rw [if_neg (fun z : e = d => ok.irr d (by rw [z] at h; exact h)), if_pos h]
theorem thr_not (h : e ≠ d) (h2 : ¬ e ∈ cr d) : thr cr d f e = f e + 2 * f d := by
  unfold thr
  rw [if_neg h, if_neg h2]
theorem thr_thr (ok : CrOk cr) : thr cr d (thr cr d f) = f := by
  funext e
  by_cases h : e = d
  · subst h
    rw [thr_self, thr_self]
    omega
  · by_cases h2 : e ∈ cr d
    · rw [thr_cr ok h2, thr_cr ok h2]
    · rw [thr_not h h2, thr_not h h2, thr_self]
      omega
theorem thr_comm (ok : CrOk cr) (h : a ∈ cr b) : thr cr a (thr cr b f) = thr cr b (thr cr a f) := by
  have h' := ok.sym _ _ h
  have ne : a ≠ b := fun z => ok.irr b (z ▸ h)
  funext e
  by_cases e1 : e = a
  · subst e1
    rw [thr_self, thr_cr ok h, thr_cr ok h, thr_self]
  · by_cases e2 : e = b
    · subst e2
      rw [thr_cr ok h', thr_self, thr_self, thr_cr ok h']
    · by_cases c1 : e ∈ cr a
      · by_cases c2 : e ∈ cr b
        · rw [thr_cr ok c1, thr_cr ok c2, thr_cr ok c2, thr_cr ok c1]
        · rw [thr_cr ok c1, thr_not e2 c2, thr_not e2 c2, thr_cr ok c1, thr_cr ok h']
      · by_cases c2 : e ∈ cr b
        · rw [thr_not e1 c1, thr_cr ok c2, thr_cr ok h, thr_cr ok c2, thr_not e1 c1]
        · rw [thr_not e1 c1, thr_not e2 c2, thr_cr ok h, thr_not e2 c2, thr_not e1 c1, thr_cr ok h']
          omega
theorem act_comm (ok : CrOk cr) : ∀ {q : List Nat}, (∀ y ∈ q, y ∈ cr k) → act cr q (thr cr k f) = thr cr k (act cr q f)
  | [], _ => rfl
  | y :: q, h => by
    show thr cr y (act cr q (thr cr k f)) = thr cr k (thr cr y (act cr q f))
    rw [act_comm ok fun z hz => h z (List.mem_cons_of_mem _ hz), thr_comm ok (h y (List.mem_cons_self ..))]
theorem act_step (ok : CrOk cr) (name : List Nat) (k : Nat) (f : Nat → Int) : act cr (stepOf (cr k) name k) f = act cr (name ++ [k]) f := by
  obtain ⟨d, e, e1, hd, he, hc⟩ := stepOf_cases (cr k) name k
  have e1' := congrArg List.reverse e1
  rw [List.reverse_reverse, List.reverse_append] at e1'
  have hd' : ∀ y ∈ d.reverse, y ∈ cr k := fun y hy => hd y (List.mem_reverse.mp hy)
  rcases hc with ⟨e', rfl, e2⟩ | ⟨hk, e2⟩
  · have e3 := congrArg List.reverse e2
    rw [List.reverse_reverse, List.reverse_append] at e3
    rw [e3, e1', List.reverse_cons, act_app, act_app, act_app, act_app]
    show _ = act cr e'.reverse (thr cr k (act cr d.reverse (thr cr k f)))
    rw [act_comm ok hd', thr_thr ok]
  · have e3 := congrArg List.reverse e2
    rw [List.reverse_reverse, List.reverse_append, List.reverse_reverse] at e3
    obtain ⟨b1, b2, eb, ep, hb1, hb2⟩ := putIn_split k d.reverse
    rw [e3, e1', ep, eb]
    have h2 : ∀ y ∈ b2, y ∈ cr k := fun y hy => hd' y (by rw [eb]; exact List.mem_append_right _ hy)
    simp only [act_app]
    show act cr e.reverse (act cr b1 (thr cr k (act cr b2 f))) = act cr e.reverse (act cr b1 (act cr b2 (thr cr k f)))
    rw [act_comm ok h2]
theorem act_join (ok : CrOk cr) : ∀ (way name : List Nat) (f : Nat → Int), act cr (joinC cr name way) f = act cr (name ++ way) f
  | [], name, f => by rw [List.append_nil]; rfl
  | k :: r, name, f => by
    show act cr (joinC cr (stepOf (cr k) name k) r) f = _
    rw [act_join ok r, act_app, act_step ok, ← act_app, List.append_assoc]
    rfl
/-! ### doors that lead back -/
def desc (cr : Nat → List Nat) (s : Nat) : List Nat → Prop
  | [] => False
  | t :: r => t = s ∨ (t ∈ cr s ∧ desc cr s r)
def Red (cr : Nat → List Nat) : List Nat → Prop
  | [] => True
  | t :: r => ¬ desc cr t r ∧ Red cr r
theorem desc_split {s : Nat} : ∀ {w : List Nat}, desc cr s w → ∃ p q, w = p ++ s :: q ∧ ∀ y ∈ p, y ∈ cr s
  | [], h => h.elim
  | t :: r, h => by
    rcases h with rfl | ⟨h1, h2⟩
    · exact ⟨[], r, rfl, fun _ z => (nomatch z)⟩
    · obtain ⟨p, q, rfl, hp⟩ := desc_split h2
      refine ⟨t :: p, q, rfl, fun y hy => ?_⟩
      rcases List.mem_cons.mp hy with rfl | hy
      · exact h1
      · exact hp y hy
theorem desc_of {s : Nat} : ∀ {p q : List Nat}, (∀ y ∈ p, y ∈ cr s) → desc cr s (p ++ s :: q)
  | [], _, _ => .inl rfl
  | y :: p, q, h => .inr ⟨h y (List.mem_cons_self ..), desc_of fun z hz => h z (List.mem_cons_of_mem _ hz)⟩
theorem desc_pass {s : Nat} (ok : CrOk cr) {q : List Nat} : ∀ {p : List Nat}, (∀ y ∈ p, y ∈ cr s) → (desc cr s (p ++ q) ↔ desc cr s q)
  | [], _ => Iff.rfl
  | y :: p, h => by
    have hy := h y (List.mem_cons_self ..)
    have ih := desc_pass (q := q) ok (p := p) fun z hz => h z (List.mem_cons_of_mem _ hz)
    constructor
    · rintro (rfl | ⟨_, h2⟩)
      · exact absurd hy (ok.irr _)
      · exact ih.mp h2
    · exact fun z => .inr ⟨hy, ih.mpr z⟩
/-- taken out: the door before its letter keeps what it is -/
theorem desc_out {s t : Nat} (ok : CrOk cr) (h : s ∈ cr t) {q : List Nat} : ∀ {p : List Nat}, desc cr t (p ++ q) → desc cr t (p ++ s :: q)
  | [], z => .inr ⟨h, z⟩
  | y :: p, z => by
    rcases z with z | ⟨z1, z2⟩
    · exact .inl z
    · exact .inr ⟨z1, desc_out ok h z2⟩
theorem Red_out {s : Nat} (ok : CrOk cr) {q : List Nat} : ∀ {p : List Nat}, (∀ y ∈ p, y ∈ cr s) → Red cr (p ++ s :: q) → Red cr (p ++ q)
  | [], _, h => h.2
  | y :: p, hp, h => ⟨fun z => h.1 (desc_out ok (ok.sym _ _ (hp y (List.mem_cons_self ..))) z), Red_out ok (fun z hz => hp z (List.mem_cons_of_mem _ hz)) h.2⟩
theorem Red_right : ∀ {p q : List Nat}, Red cr (p ++ q) → Red cr q
  | [], _, h => h
  | _ :: p, _, h => Red_right (p := p) h.2
/-- what is taken out of a reduced way -/
theorem Red_desc {s : Nat} (ok : CrOk cr) (h : Red cr w) (hs : desc cr s w) : ∃ u, Red cr u ∧ ¬ desc cr s u ∧ u.length + 1 = w.length ∧ (∀ f, act cr w f = thr cr s (act cr u f)) ∧ ∀ y ∈ u, y ∈ w := by
  obtain ⟨p, q, rfl, hp⟩ := desc_split hs
  refine ⟨p ++ q, Red_out ok hp h, ?_, by simp; omega, fun f => ?_, fun y hy => ?_⟩
  · rw [desc_pass ok hp]
    exact (Red_right h).1
  · rw [act_app, act_app]
    show act cr p (thr cr s (act cr q f)) = _
    rw [act_comm ok hp]
  · rcases List.mem_append.mp hy with z | z
    · exact List.mem_append_left _ z
    · exact List.mem_append_right _ (List.mem_cons_of_mem _ z)
end
/-- all coordinates are at least nought, one is above -/
def Pos (ls : List Nat) (v : Nat → Int) : Prop := (∀ x ∈ ls, 0 ≤ v x) ∧ ∃ x ∈ ls, 0 < v x
theorem mul_nn {c x : Int} (h : 0 ≤ c) (h2 : 0 ≤ x) : 0 ≤ c * x := Int.mul_nonneg h h2
theorem Pos.comb {ls : List Nat} {u v : Nat → Int} {c b : Int} (hu : Pos ls u) (hv : Pos ls v) (hc : 0 ≤ c) (hb : 0 < b) : Pos ls fun x => c * u x + b * v x := by
  refine ⟨fun x hx => ?_, ?_⟩
  · have := mul_nn hc (hu.1 x hx)
    have := mul_nn (Int.le_of_lt hb) (hv.1 x hx)
    show 0 ≤ c * u x + b * v x
    omega
  · obtain ⟨x, hx, h⟩ := hv.2
    refine ⟨x, hx, ?_⟩
    have := mul_nn hc (hu.1 x hx)
    have := Int.mul_pos hb h
    show 0 < c * u x + b * v x
    omega
theorem Pos.congr {ls : List Nat} {u v : Nat → Int} (hu : Pos ls u) (h : ∀ x ∈ ls, v x = u x) : Pos ls v := by
  refine ⟨fun x hx => h x hx ▸ hu.1 x hx, ?_⟩
  obtain ⟨x, hx, p⟩ := hu.2
  exact ⟨x, hx, h x hx ▸ p⟩
/-- the mark of the door e behind the way w, coordinate by coordinate -/
def mark (cr : Nat → List Nat) (w : List Nat) (e : Nat) : Nat → Int := fun x => act cr w (unit x) e
section
variable {cr : Nat → List Nat} {ls : List Nat}
theorem mark_pos (ok : CrOk cr) : ∀ (n : Nat) (w : List Nat), w.length = n → Red cr w → (∀ y ∈ w, y ∈ ls) →
    (∀ s ∈ ls, ¬ desc cr s w → Pos ls (mark cr w s)) ∧
    (∀ s ∈ ls, ∀ t ∈ ls, s ≠ t → ¬ s ∈ cr t → desc cr s w → ¬ desc cr t w → ∀ a b : Int, 0 ≤ a → a ≤ b → 0 < b → Pos ls fun x => a * mark cr w s x + b * mark cr w t x) := by
  intro n
  induction n using Nat.strongRecOn with
  | ind n ih =>
    intro w hn hr hw
    refine ⟨fun s hs hd => ?_, fun s hs t ht ne nc hd hd2 a b ha hab hb => ?_⟩
    · cases w with
      | nil =>
        refine ⟨fun x _ => ?_, s, hs, ?_⟩
        · show 0 ≤ unit x s
          unfold unit
          split <;> omega
        · show 0 < unit s s
          unfold unit
          rw [if_pos rfl]
          omega
      | cons t r =>
        have hr' : r.length < n := by rw [← hn]; simp
        have ht : t ∈ ls := hw t (List.mem_cons_self ..)
        have ne : s ≠ t := fun z => hd (.inl z.symm)
        obtain ⟨i1, i2⟩ := ih r.length hr' r rfl hr.2 fun y hy => hw y (List.mem_cons_of_mem _ hy)
        by_cases hc : s ∈ cr t
        · have hsr : ¬ desc cr s r := fun z => hd (.inr ⟨ok.sym _ _ hc, z⟩)
          refine (i1 s hs hsr).congr fun x _ => ?_
          show thr cr t (act cr r (unit x)) s = _
          rw [thr_cr ok hc]
          rfl
        · have key : ∀ x ∈ ls, mark cr (t :: r) s x = 1 * mark cr r s x + 2 * mark cr r t x := by
            intro x _
            show thr cr t (act cr r (unit x)) s = _
            rw [thr_not ne hc]
            show mark cr r s x + 2 * mark cr r t x = _
            omega
          by_cases hsr : desc cr s r
          · exact (i2 s hs t ht ne hc hsr hr.1 1 2 (by decide) (by decide) (by decide)).congr key
          · exact ((i1 s hs hsr).comb (i1 t ht hr.1) (by decide) (by decide)).congr key
    · obtain ⟨u, ru, du, lu, au, mu⟩ := Red_desc ok hr hd
      obtain ⟨i1, i2⟩ := ih u.length (by omega) u rfl ru fun y hy => hw y (mu y hy)
      have nc' : ¬ t ∈ cr s := fun z => nc (ok.sym _ _ z)
      have key : ∀ x ∈ ls, a * mark cr w s x + b * mark cr w t x = b * mark cr u t x + (2 * b - a) * mark cr u s x := by
        intro x _
        have e1 : mark cr w s x = - mark cr u s x := by
          show act cr w (unit x) s = _
          rw [au, thr_self]
          rfl
        have e2 : mark cr w t x = mark cr u t x + 2 * mark cr u s x := by
          show act cr w (unit x) t = _
          rw [au, thr_not ne.symm nc']
          rfl
        rw [e1, e2, Int.mul_neg, Int.mul_add, Int.sub_mul, ← Int.mul_assoc, Int.mul_comm b 2]
        omega
      by_cases htu : desc cr t u
      · exact (i2 t ht s hs ne.symm nc' htu du b (2 * b - a) (by omega) (by omega) (by omega)).congr key
      · exact ((i1 t ht htu).comb (i1 s hs du) (by omega) (by omega)).congr key
/-- a door leads back just if a coordinate of its mark is below nought -/
theorem mark_neg (ok : CrOk cr) {w : List Nat} (hr : Red cr w) (hw : ∀ y ∈ w, y ∈ ls) {s : Nat} (hs : s ∈ ls) : (∃ x ∈ ls, mark cr w s x < 0) ↔ desc cr s w := by
  constructor
  · rintro ⟨x, hx, h⟩
    by_cases hd : desc cr s w
    · exact hd
    · have := ((mark_pos ok _ w rfl hr hw).1 s hs hd).1 x hx
      omega
  · intro hd
    obtain ⟨u, ru, du, lu, au, mu⟩ := Red_desc ok hr hd
    obtain ⟨x, hx, h⟩ := ((mark_pos ok _ u rfl ru fun y hy => hw y (mu y hy)).1 s hs du).2
    refine ⟨x, hx, ?_⟩
    show act cr w (unit x) s < 0
    rw [au, thr_self]
    have : 0 < act cr u (unit x) s := h
    omega
/-! ### names by marks -/
theorem NF.tail {c : Nat} {r : List Nat} (h : NF cr (c :: r)) : NF cr r := by
  unfold NF at h ⊢
  rw [List.reverse_cons] at h
  have key : ∀ {a b : List Nat}, NFr cr (a ++ b) → NFr cr a := by
    intro a b
    induction a with
    | nil => intro _; trivial
    | cons s a ih =>
      intro h
      refine ⟨?_, ih h.2⟩
      have h1 := h.1
      clear h ih
      induction a with
      | nil => trivial
      | cons t a ih => exact ⟨h1.1, fun z => ⟨(h1.2 z).1, ih (h1.2 z).2⟩⟩
  exact key h
theorem NF.red : ∀ {w : List Nat}, NF cr w → Red cr w
  | [], _ => trivial
  | t :: r, h => by
    refine ⟨fun z => ?_, NF.red h.tail⟩
    obtain ⟨p, q, rfl, hp⟩ := desc_split z
    exact (h.two (p := []) (q := p) (r := q) rfl hp).1 rfl
/-- the first letter is the least door back -/
theorem NF.least {c s : Nat} {r : List Nat} (h : NF cr (c :: r)) (hs : desc cr s (c :: r)) : c ≤ s := by
  rcases hs with rfl | ⟨h1, h2⟩
  · exact Nat.le_refl _
  · obtain ⟨p, q, rfl, hp⟩ := desc_split h2
    exact Nat.le_of_lt ((h.two (p := []) (q := p) (r := q) rfl hp).2 h1)
/-- two names with the same marks are the same -/
theorem NF.uniq (ok : CrOk cr) : ∀ {w v : List Nat}, NF cr w → NF cr v → (∀ y ∈ w, y ∈ ls) → (∀ y ∈ v, y ∈ ls) → (∀ x ∈ ls, ∀ s, act cr w (unit x) s = act cr v (unit x) s) → w = v
  | [], [], _, _, _, _, _ => rfl
  | [], c :: v, h, h', hw, hv, he => by
    have := (mark_neg ok h'.red hv (hv c (List.mem_cons_self ..))).mpr (.inl rfl)
    obtain ⟨x, hx, z⟩ := this
    have := (mark_neg ok h.red hw (hv c (List.mem_cons_self ..))).mp ⟨x, hx, by unfold mark; rw [he x hx]; exact z⟩
    exact this.elim
  | c :: w, [], h, h', hw, hv, he => by
    have := (mark_neg ok h.red hw (hw c (List.mem_cons_self ..))).mpr (.inl rfl)
    obtain ⟨x, hx, z⟩ := this
    have := (mark_neg ok h'.red hv (hw c (List.mem_cons_self ..))).mp ⟨x, hx, by unfold mark; rw [← he x hx]; exact z⟩
    exact this.elim
  | c :: w, b :: v, h, h', hw, hv, he => by
    have hc := hw c (List.mem_cons_self ..)
    have hb := hv b (List.mem_cons_self ..)
    have h1 : desc cr c (b :: v) := by
      obtain ⟨x, hx, z⟩ := (mark_neg ok h.red hw hc).mpr (.inl rfl)
      exact (mark_neg ok h'.red hv hc).mp ⟨x, hx, by unfold mark; rw [← he x hx]; exact z⟩
    have h2 : desc cr b (c :: w) := by
      obtain ⟨x, hx, z⟩ := (mark_neg ok h'.red hv hb).mpr (.inl rfl)
      exact (mark_neg ok h.red hw hb).mp ⟨x, hx, by unfold mark; rw [he x hx]; exact z⟩
    have e1 := h.least h2
    have e2 := h'.least h1
    have e : c = b := by omega
    subst e
    congr 1
    refine NF.uniq ok h.tail h'.tail (fun y hy => hw y (List.mem_cons_of_mem _ hy)) (fun y hy => hv y (List.mem_cons_of_mem _ hy)) fun x hx s => ?_
    have e3 : act cr (c :: w) (unit x) = act cr (c :: v) (unit x) := funext (he x hx)
    have e4 := congrArg (thr cr c) e3
    have e5 : thr cr c (thr cr c (act cr w (unit x))) = thr cr c (thr cr c (act cr v (unit x))) := e4
    rw [thr_thr ok, thr_thr ok] at e5
    rw [e5]
end
end Cw
set_option Elab.async false
set_option linter.all false
set_option maxRecDepth 100000
set_option maxHeartbeats 4000000
/-! a drawn floor, in plain words -/
namespace Cw
theorem splitB_congr {p p' : List Nat} : ∀ {a b : List Nat}, (∀ c ∈ a, c ∈ p ↔ c ∈ p') → splitB p a b = splitB p' a b
  | [], b, _ => rfl
  | x :: r, b, h => by
    have hx := h x (List.mem_cons_self ..)
    unfold splitB
    by_cases c : x ∈ p
    · rw [if_pos c, if_pos (hx.mp c)]
      exact splitB_congr fun c hc => h c (List.mem_cons_of_mem _ hc)
    · rw [if_neg c, if_neg (fun z => c (hx.mpr z))]
theorem stepOf_congr {p p' name : List Nat} {k : Nat} (h : ∀ c ∈ name, c ∈ p ↔ c ∈ p') : stepOf p name k = stepOf p' name k := by
  unfold stepOf
  rw [splitB_congr (p' := p') fun c hc => h c (List.mem_reverse.mp hc)]
theorem joinC_congr {f f' : Nat → List Nat} {ls : List Nat} (h : ∀ k ∈ ls, ∀ c ∈ ls, c ∈ f k ↔ c ∈ f' k) : ∀ {way name : List Nat}, (∀ c ∈ name, c ∈ ls) → (∀ c ∈ way, c ∈ ls) → joinC f name way = joinC f' name way
  | [], name, _, _ => rfl
  | k :: r, name, hn, hw => by
    show joinC f (stepOf (f k) name k) r = joinC f' (stepOf (f' k) name k) r
    have hk := hw k (List.mem_cons_self ..)
    rw [stepOf_congr (p' := f' k) fun c hc => h k hk c (hn c hc)]
    refine joinC_congr h (fun c hc => ?_) fun c hc => hw c (List.mem_cons_of_mem _ hc)
    rcases stepOf_mem hc with e | e
    · rw [e]
      exact hk
    · exact hn c e
/-- the letters of a drawn floor and which cross -/
structure Fl (ls : List Nat) (f : Nat → List Nat) : Prop where
  tab : Tab ls f
  ok : CrOk f
  asc : ls.Pairwise (· < ·)
  pos : 0 < ls.length
theorem Flr.fl {num : Nat} {ls : List Nat} {rel : Nat → Nat → Bool} (h : Flr num ls rel) : Fl ls (crossBy ls rel) where
  tab := h.tab
  asc := cut_lt' h.cut
  pos := (cut_len h.cut).2.2
  ok := by
    refine ⟨fun a b hab => ?_, fun a ha => ?_⟩
    · obtain ⟨h1, h2⟩ := List.mem_filter.mp hab
      have h3 := h.ok.in b a h2
      refine List.mem_filter.mpr ⟨h3.1, ?_⟩
      rw [h.ok.sym]
      exact h2
    · obtain ⟨h1, h2⟩ := List.mem_filter.mp ha
      exact (h.ok.in a a h2).2.2 rfl
theorem Fl.plain {ls : List Nat} {f : Nat → List Nat} (h : Fl ls f) : Fl ls (fun _ => []) where
  tab := ⟨h.tab.nd, h.tab.lt, h.tab.len, fun _ _ _ z => (nomatch z), fun _ _ => by simp⟩
  ok := ⟨fun _ _ z => (nomatch z), fun _ z => (nomatch z)⟩
  asc := h.asc
  pos := h.pos
section
variable {ls : List Nat} {f : Nat → List Nat}
theorem cross_tab (T : Tab ls f) {k c : Nat} (hk : k ∈ ls) (hc : c ∈ ls) : c ∈ crossOf (ascOf ls) (tabPairs ls f) k ↔ c ∈ f k := by
  unfold crossOf
  rw [List.mem_filter, Bool.or_eq_true, decide_eq_true_iff, decide_eq_true_iff]
  have mk : ∀ a b, a ∈ ls → b ∈ f a → b ∈ ls → ascOf [a, b] ∈ ls.flatMap fun a => (f a).map fun b => ascOf [a, b] := fun a b ha hb _ => List.mem_flatMap.mpr ⟨a, ha, List.mem_map.mpr ⟨b, hb, rfl⟩⟩
  constructor
  · rintro ⟨_, h | h⟩
    · obtain ⟨a, b, e, _, _, _, hb⟩ := tabPairs_lt T h
      injection e with e1 e2
      injection e2 with e2
      rw [e1, e2]
      exact hb
    · obtain ⟨a, b, e, _, ha, _, hb⟩ := tabPairs_lt T h
      injection e with e1 e2
      injection e2 with e2
      rw [e1, e2]
      exact (T.sub a ha b hb).2.2
  · intro h
    refine ⟨ascOf_mem.mpr ⟨T.lt c hc, hc⟩, ?_⟩
    have s := T.sub k hk c h
    rcases Nat.lt_or_gt_of_ne s.2.1 with l | l
    · refine .inr (pairsOf_mem.mpr ⟨c, k, rfl, T.lt c hc, T.lt k hk, ?_⟩)
      have := mk k c hk h hc
      rw [(asc2 (T.lt c hc) (T.lt k hk) l).2] at this
      exact this
    · refine .inl (pairsOf_mem.mpr ⟨k, c, rfl, T.lt k hk, T.lt c hc, ?_⟩)
      have := mk k c hk h hc
      rw [(asc2 (T.lt k hk) (T.lt c hc) l).1] at this
      exact this
theorem joinOf_tab (T : Tab ls f) {name way : List Nat} (hn : ∀ c ∈ name, c ∈ ls) (hw : ∀ c ∈ way, c ∈ ls) : joinOf (ascOf ls) (tabPairs ls f) name way = joinC f name way := by
  rw [joinOf_C]
  exact joinC_congr (fun k hk c hc => cross_tab T hk hc) hn hw
theorem stepOf_tab (T : Tab ls f) {name : List Nat} {k : Nat} (hk : k ∈ ls) (hn : ∀ c ∈ name, c ∈ ls) : stepOf (crossOf (ascOf ls) (tabPairs ls f) k) name k = stepOf (f k) name k := stepOf_congr fun c hc => cross_tab T hk (hn c hc)
theorem tabPairs_plain (ls : List Nat) : tabPairs ls (fun _ => []) = [] := by
  unfold tabPairs
  have : (ls.flatMap fun a => ([] : List Nat).map fun b => ascOf [a, b]) = [] := by
    induction ls with
    | nil => rfl
    | cons a r ih => simp
  rw [this]
  decide +kernel
theorem joinC_mem' {cr : Nat → List Nat} {c : Nat} : ∀ {way name : List Nat}, c ∈ joinC cr name way → c ∈ name ∨ c ∈ way
  | [], name, h => .inl h
  | k :: r, name, h => by
    rcases joinC_mem' (way := r) (name := stepOf (cr k) name k) h with z | z
    · rcases stepOf_mem z with e | e
      · exact .inr (e ▸ List.mem_cons_self ..)
      · exact .inl e
    · exact .inr (List.mem_cons_of_mem _ z)
/-- the name of a way -/
abbrev nameOf (f : Nat → List Nat) (w : List Nat) : List Nat := joinC f [] w
theorem name_mem {w : List Nat} {c : Nat} (h : c ∈ nameOf f w) : c ∈ w := (joinC_mem' h).elim (fun z => (nomatch z)) id
theorem name_len (f : Nat → List Nat) (w : List Nat) : (nameOf f w).length ≤ w.length := by
  have key : ∀ (way name : List Nat), (joinC f name way).length ≤ name.length + way.length := by
    intro way
    induction way with
    | nil => intro name; exact Nat.le_refl _
    | cons k r ih =>
      intro name
      have := ih (stepOf (f k) name k)
      have := stepOf_len (f k) name k
      show (joinC f (stepOf (f k) name k) r).length ≤ _
      rw [List.length_cons]
      omega
  have := key w []
  rw [List.length_nil] at this
  show (joinC f [] w).length ≤ _
  omega
theorem name_NF (ok : CrOk f) (w : List Nat) : NF f (nameOf f w) := NF_join ok NF_nil
theorem name_name (ok : CrOk f) (w : List Nat) : nameOf f (nameOf f w) = nameOf f w := (is_NF ok).mpr (name_NF ok w)
theorem name_app (ok : CrOk f) (a b : List Nat) : nameOf f (joinC f (nameOf f a) b) = nameOf f (a ++ b) := by
  rw [← joinC_app]
  exact name_name ok _
theorem name_step (ok : CrOk f) (a : List Nat) (k : Nat) : nameOf f (stepOf (f k) (nameOf f a) k) = nameOf f (a ++ [k]) := name_app ok a [k]
/-- two ways with the same marks have one name -/
theorem name_eq (ok : CrOk f) {v w : List Nat} (h : ∀ g, act f v g = act f w g) : nameOf f v = nameOf f w := by
  refine NF.uniq (ls := v ++ w) ok (name_NF ok v) (name_NF ok w) (fun y hy => List.mem_append_left _ (name_mem hy)) (fun y hy => List.mem_append_right _ (name_mem hy)) fun x _ s => ?_
  have e1 := act_join ok v [] (unit x)
  have e2 := act_join ok w [] (unit x)
  rw [List.nil_append] at e1 e2
  rw [show act f (nameOf f v) (unit x) = act f v (unit x) from e1, show act f (nameOf f w) (unit x) = act f w (unit x) from e2, h]
theorem name_act (ok : CrOk f) (w : List Nat) (g : Nat → Int) : act f (nameOf f w) g = act f w g := act_join ok w [] g
theorem name_twice (ok : CrOk f) (a : List Nat) (k : Nat) : nameOf f (a ++ [k] ++ [k]) = nameOf f a := by
  refine name_eq ok fun g => ?_
  rw [List.append_assoc, act_app]
  show act f a (thr f k (thr f k g)) = _
  rw [thr_thr ok]
end
end Cw
set_option Elab.async false
set_option linter.all false
set_option maxRecDepth 100000
set_option maxHeartbeats 4000000
/-! more operators of classes of one's own: o + text, o[text], o == text -/
namespace PySem.W
open PySem PySem.Calls PyProof.Rows Builtin
section
variable {prog : Program} {w : World} {A : Around} {E : Value → Shared → Prop} {s : Shared} {K : Frag} {x C L f : Addr} {h0 : Heap} {m : Str → Option Value} {ox : Obj} {od : Option Obj}
theorem binop_own {b : Value} {T : String} {Q : Value → Shared → Prop} (F : Fr h0 L s.heap m) (X0 : K.In h0) (I : InstAt s.heap x ox C od) (hb : Looks (model prog w) s.heap (typeOf b) (.type T)) (hno : fillsNumberSlot (.type T) "add" = pure false) (hc : selfFirst K C = true)
    (hs : findIn K (.ref C) (PySem.dunder "add") = some (some (.ref f))) (hf : isFn K (.ref f) = true)
    (h : wpAny (model prog w) A (call (.ref f) [.ref x, b]) (CmpBack Q) E s) : wpAny (model prog w) A (binaryOp .Add (.ref x) b) Q E s := by
  have X := X0.keeps F.keep
  obtain ⟨cd, hcd, hm⟩ := any_some hc
  obtain ⟨rest, hm⟩ : ∃ rest, cd.mro = .ref C :: rest := by
    cases q : cd.mro with
    | nil => rw [q] at hm; cases hm
    | cons a r => rw [q] at hm; exact ⟨r, by rw [List.head?_cons] at hm; cases (beq_iff_eq.mp hm); rfl⟩
  have ne : (Value.ref C == Value.type T) = false := rfl
  unfold binaryOp
  refine wpAny_holding (wpAny_bind ?_)
  unfold binaryOp1
  refine wpAny_bind (I.type.here (wpAny_bind (hb.here (wpAny_bind ((fills_K X hcd hm hs).here ?_)))))
  simp only [ne, Bool.false_eq_true, if_false]
  refine wpAny_bind ?_
  show wpAny (model prog w) A (fillsNumberSlot (.type T) "add") _ _ _
  rw [hno]
  refine wpAny_pure ?_
  simp only [Bool.and_false, Bool.false_eq_true, if_false, Bool.false_and]
  refine wpAny_bind (wpAny_pure ?_)
  simp only [Bool.false_eq_true, if_false, if_true]
  refine wpAny_bind (m := tryMethod (.ref x) _ b) ?_
  unfold tryMethod
  refine wpAny_bind (special_fn X I hs (beq_iff_eq.mp hf) (wpAny_mono h (fun v s' hv => ?_) fun _ _ e => e))
  cases v <;> first | exact hv.elim | exact wpAny_pure (wpAny_pure (wpAny_pure hv))
end
end PySem.W
namespace Cw
open PySem PySem.Spec L2
theorem MAt.fnIn {K : PySem.W.Frag} {C : Addr} {m qual : Str} {st : Stmt} (F : MAt K C m qual st) : ∀ f, PySem.W.findIn K (.ref C) m = some (some (.ref f)) → PySem.W.fnIn K f = true := by
  obtain ⟨f, fd, a, _, G⟩ := F.ex
  obtain ⟨oc, od, kV, doc, pm, an, cdv, ct, osl, rfl, lk, _⟩ := G.ex
  intro f' e
  rw [a] at e
  injection e with e
  injection e with e
  injection e with e
  subst e
  unfold PySem.W.fnIn
  rw [lk]
section
variable {X : Cx} {CX : CXT} {k : Nat} {C : Addr} {m : Str} {ps : List Str} {sp : Sp} {E : XK}
/-- o op text, by the class's own method -/
def rMS (C : Addr) (sp : Sp) (E : XK) : R2 := fun x y H Q => ∃ a dx fs z, x = .ref a ∧ y = .str z ∧ H a = some (.ins C dx fs) ∧ sp [.ref a, .str z] H Q E
theorem op_addM (D : MDef X.prog X.w X.K X.mg X.base CX k C "__add__" ps sp) (hc : PySem.W.selfFirst X.K C = true) (hr : Room k X.A) (hx : Passes CX X E) : OpR X (binaryOp .Add) (rMS C sp E) := by
  obtain ⟨f, fd, h1, h2, kp, ⟨hb, _⟩, F⟩ := D.ex
  intro pins s σ H x y v u Q I rx ry h
  obtain ⟨a, dx, fs, z, rfl, rfl, ha, hq⟩ := h
  cases rx
  obtain ⟨t, rfl⟩ := ry
  obtain ⟨mA, J, _⟩ := ins_get I.hok ha
  obtain ⟨od, J, _⟩ := J.look
  obtain ⟨mm, hF⟩ := I.fr
  refine PySem.W.binop_own (T := "str") hF I.ok.mod.kin J .now PyProof.Rows.noFill_str_add hc h1 h2 ?_
  have z := run_fn (us := [.ref a, .str z t]) (vs := [.ref a, .str z]) (dvs := []) F hr hb .nil hx I (.cons rfl (.cons ⟨t, rfl⟩ .nil)) hq
  refine wpAny_mono z (fun v s' q => ?_) fun _ _ q => q
  obtain ⟨y, H', I', r, q⟩ := q
  have k : EP X pins σ Q v s' := ⟨y, H', I', r, q⟩
  cases v <;> first | exact k | (exfalso; cases y <;> first | (obtain ⟨_, r⟩ := r; cases r) | cases r)
/-- o == text -/
theorem op_eqMS (D : MDef X.prog X.w X.K X.mg X.base CX k C "__eq__" ps sp) (hn : PySem.W.notFirst X.K C (.type "str") = true) (hr : Room k X.A) (hx : Passes CX X E) : OpR X (compareOp .Eq) (rMS C sp E) := by
  obtain ⟨f, fd, h1, h2, kp, ⟨hb, _⟩, F⟩ := D.ex
  intro pins s σ H x y v u Q I rx ry h
  obtain ⟨a, dx, fs, z, rfl, rfl, ha, hq⟩ := h
  cases rx
  obtain ⟨t, rfl⟩ := ry
  obtain ⟨mA, J, _⟩ := ins_get I.hok ha
  obtain ⟨od, J, _⟩ := J.look
  obtain ⟨mm, hF⟩ := I.fr
  show wpAny (model X.prog X.w) X.A (richCompare .Eq _ _) _ _ _
  refine PySem.W.cmp_K (op := .Eq) (tb := .type "str") hr.units0 hF I.ok.mod.kin J .now hn h1 h2 ?_
  have z := run_fn (us := [.ref a, .str z t]) (vs := [.ref a, .str z]) (dvs := []) F hr hb .nil hx I (.cons rfl (.cons ⟨t, rfl⟩ .nil)) hq
  refine wpAny_mono z (fun v s' q => ?_) fun _ _ q => q
  obtain ⟨y, H', I', r, q⟩ := q
  have k : EP X pins σ Q v s' := ⟨y, H', I', r, q⟩
  cases v <;> first | exact k | (exfalso; cases y <;> first | (obtain ⟨_, r⟩ := r; cases r) | cases r)
/-- o[text] -/
theorem pe_ixM {a b : Expr} {ta tb : TE} {pos : PySem.Pos} (D : MDef X.prog X.w X.K X.mg X.base CX k C "__getitem__" ps sp) (hi : ∀ f, PySem.W.findIn X.K (.ref C) "__getitem__" = some (some (.ref f)) → PySem.W.fnIn X.K f = true) (hr : Room (k + 1) X.A) (hx : Passes CX X E) (ha : PE X a ta) (hb : PE X b tb)
    (hs : ∀ o i, subscripted b true o i = runValue (.builtin "lifetime.subscript" ⟨[o, i], []⟩) := by intro o i; with_unfolding_all rfl) : PE X (.Subscript a b pos) (tOp (rMS C sp E) ta tb) := by
  obtain ⟨f, fd, h1, h2, kp, ⟨hbd, _⟩, F⟩ := D.ex
  refine ⟨fun pins s σ H Q I h => ?_⟩
  refine PyProof.Rows.Subscript_ (binT ha hb I h fun v u s2 x y H2 I2 rx ry q => ?_)
  obtain ⟨a', dx, fs, z, rfl, rfl, ha', hq⟩ := q
  cases rx
  obtain ⟨t, rfl⟩ := ry
  obtain ⟨mA, J, _⟩ := ins_get I2.hok ha'
  obtain ⟨od, J, _⟩ := J.look
  obtain ⟨mm, hF⟩ := I2.fr
  refine PySem.W.sub_K hF I2.ok.mod.kin J h1 (hi f h1) h2 ?_ (hs _ _)
  have hl := F.len _ _ _ _ hq
  have r2 : Vals [V.ref a', V.str z] [Value.ref a', Value.str z t] := .cons rfl (.cons ⟨t, rfl⟩ .nil)
  refine wpAny_call (codeAny_mono (F.run X.A.in1 X.stack s2 H2 ⟨[.ref a', .str z t], []⟩ [.ref a', .str z t] [.ref a', .str z] _ E hr.in1 I2.env0.in1 (by
    have := hbd s2 [.ref a', .str z t] I2.kIn (by simpa using hl)
    simpa using this) r2 hq) fun r s' hq => ?_)
  cases r with
  | error e => exact hx pins σ H2 s2 e s' I2 hq
  | ok fl =>
    cases fl with
    | ret w => exact I2.after hq
    | next => exact False.elim hq
    | brk => exact False.elim hq
    | cont => exact False.elim hq
end
section
variable {σ : St} {H : Hp} {Q : VK} {K : PySem.W.Frag}
theorem v_MS {C : Addr} {sp : Sp} {E : XK} {a dx : Addr} {fs : List (Str × V)} {z : Str} (h : H a = some (.ins C dx fs)) (q : sp [.ref a, .str z] H Q E) : rMS C sp E (.ref a) (.str z) H Q := ⟨a, dx, fs, z, rfl, rfl, h, q⟩
end
end Cw
set_option Elab.async false
set_option linter.all false
set_option maxRecDepth 100000
set_option maxHeartbeats 4000000
/-! tables of vectors -/
namespace Cw
open PySem PySem.Spec L2
def marksKV (ls : List Nat) (A : Nat → Addr) : List (Key × V) := ls.map fun c => ((Sum.inr (tx [c]) : Key), V.ref (A c))
def vecV (ls : List Nat) (v : Nat → Int) : List V := ls.map fun x => V.int (v x)
structure MarksAt (H : Hp) (m : Addr) (ls : List Nat) (M : Nat → Nat → Int) : Prop where
  ex : ∃ A : Nat → Addr, H m = some (.dK (marksKV ls A)) ∧ ∀ c ∈ ls, H (A c) = some (.tup (vecV ls (M c)))
theorem MarksAt.same {H H' : Hp} {m : Addr} {ls : List Nat} {M : Nat → Nat → Int} (h : MarksAt H m ls M) (s : Same H H') : MarksAt H' m ls M := by
  obtain ⟨A, a, b⟩ := h.ex
  exact ⟨A, s _ _ a, fun c hc => s _ _ (b c hc)⟩
theorem MarksAt.congr {H : Hp} {m : Addr} {ls : List Nat} {M M' : Nat → Nat → Int} (h : MarksAt H m ls M) (e : ∀ c ∈ ls, ∀ x ∈ ls, M c x = M' c x) : MarksAt H m ls M' := by
  obtain ⟨A, a, b⟩ := h.ex
  refine ⟨A, a, fun c hc => ?_⟩
  rw [b c hc]
  congr 2
  exact List.map_congr_left fun x hx => by rw [e c hc x hx]
theorem marks_get {H : Hp} {d : Addr} {ls : List Nat} {A : Nat → Addr} {k : Nat} (h : H d = some (.dK (marksKV ls A))) (hk : k ∈ ls) : DGet H d (.str (tx [k])) (some (.ref (A k))) := dget_let (g := fun c => V.ref (A c)) h hk
theorem marks_getF {H : Hp} {d : Addr} {o : Obj} {ls : List Nat} {A : Nat → Addr} {k : Nat} (h : H d = some (.frz o (.dK (marksKV ls A)))) (hk : k ∈ ls) : DGet H d (.str (tx [k])) (some (.ref (A k))) :=
  .inl ⟨_, Sum.inr (tx [k]), .inr ⟨o, h⟩, rfl, (letV_some (g := fun c => V.ref (A c)) hk).symm⟩
theorem marks_new {H : Hp} {d p : Addr} {l : List Nat} {A : Nat → Addr} {k : Nat} (h : H d = some (.dK (marksKV l A))) (hk : ¬ k ∈ l) (hl : l.length < 1000000) : DPut H d (.str (tx [k])) (.ref p) (upd H d (.dK (marksKV (l ++ [k]) (fun c => if c = k then p else A c)))) := by
  have e := DPut.cross (l := [k]) (v := V.ref p) h (letV_none (g := fun c => V.ref (A c)) hk) (by unfold marksKV; rw [List.length_map]; exact hl)
  have e2 : marksKV (l ++ [k]) (fun c => if c = k then p else A c) = marksKV l A ++ [((Sum.inr (tx [k]) : Key), V.ref p)] := by
    unfold marksKV
    rw [List.map_append]
    congr 1
    · refine List.map_congr_left fun c hc => ?_
      show (_, V.ref (if c = k then p else A c)) = _
      rw [if_neg (fun z : c = k => hk (z ▸ hc))]
    · show [((Sum.inr (tx [k]) : Key), V.ref (if k = k then p else A k))] = _
      rw [if_pos rfl]
  rw [e2]
  exact e
theorem marksKV_len (ls : List Nat) (A : Nat → Addr) : (marksKV ls A).length = ls.length := by unfold marksKV; rw [List.length_map]
theorem tabKV_len (ls : List Nat) (f : Nat → List Nat) : (tabKV ls f).length = ls.length := by unfold tabKV; rw [List.length_map]
theorem vecV_len (ls : List Nat) (v : Nat → Int) : (vecV ls v).length = ls.length := by unfold vecV; rw [List.length_map]
/-- the keys of a table by letters -/
theorem walk_let {d : Addr} {o : Obj} {ls : List Nat} {g : Nat → V} : Walk (Itk d o (ls.map fun c => ((Sum.inr (tx [c]) : Key), g c))) ls.length (fun H => H d = some (.frz o (.dK (ls.map fun c => ((Sum.inr (tx [c]) : Key), g c))))) (YFn fun k => .str (tx [ls.getD k 0])) := by
  have w := walk_keys (d := d) (o := o) (kvs := ls.map fun c => ((Sum.inr (tx [c]) : Key), g c))
  rw [List.length_map] at w
  refine w.mono (fun _ z => z) fun i H x H' hi _ y => ?_
  obtain ⟨rfl, kk, vv, hkv, rfl⟩ := y
  refine ⟨rfl, ?_⟩
  rw [List.getElem?_map, List.getElem?_eq_getElem hi] at hkv
  injection hkv with hkv
  injection hkv with a b
  show _ = V.str (tx [ls.getD i 0])
  rw [← a, List.getD_eq_getElem?_getD, List.getElem?_eq_getElem hi]
  rfl
section
variable {K : PySem.W.Frag} {a : Addr} {ls : List Nat} {f : Nat → V}
theorem yat_map {i : Nat} {H H' : Hp} {x : V} (hi : i < ls.length) (y : YAt (ls.map f) i H x H') : YFn (fun k => f (ls.getD k 0)) i H x H' := by
  obtain ⟨rfl, e⟩ := y
  refine ⟨rfl, ?_⟩
  rw [List.getElem?_map, List.getElem?_eq_getElem hi] at e
  injection e with e
  show _ = f (ls.getD i 0)
  rw [List.getD_eq_getElem?_getD, List.getElem?_eq_getElem hi]
  exact e.symm
theorem walk_listM : Walk (Itl K a) ls.length (fun H => SqL K H a (ls.map f)) (YFn fun k => f (ls.getD k 0)) := by
  have w := walk_list (K := K) (a := a) (xs := ls.map f)
  rw [List.length_map] at w
  exact w.mono (fun _ z => z) fun i H x H' hi _ y => yat_map hi y
theorem walk_tupM : Walk (Itt K a) ls.length (fun H => SqT K H a (ls.map f)) (YFn fun k => f (ls.getD k 0)) := by
  have w := walk_tup (K := K) (a := a) (xs := ls.map f)
  rw [List.length_map] at w
  exact w.mono (fun _ z => z) fun i H x H' hi _ y => yat_map hi y
end
section
variable {σ : St} {H : Hp} {Q : VK} {te : TE} {K : PySem.W.Frag}
theorem e_iT {R : It → Hp → Prop} (q : te σ H fun x H1 => ∃ a, x = .ref a ∧ (∃ xs, SqT K H1 a xs) ∧ R (Itt K a) H1) : iTup K te σ H R := q
theorem v_iT {P : Addr → Prop} {a : Addr} {xs : List V} (h : H a = some (.tup xs)) (q : P a) : ∃ a', V.ref a = .ref a' ∧ (∃ xs, SqT K H a' xs) ∧ P a' := ⟨a, rfl, ⟨xs, SqT.of h⟩, q⟩
theorem v_lenT {p : Addr} {ys : List V} (h : H p = some (.tup ys)) (q : Q (.int ys.length) H) : rLen K [.ref p] H Q := ⟨p, ys, rfl, .inr (SqT.of h), q⟩
theorem v_ixT {p : Addr} {xs : List V} {a : Int} {v : V} (h : H p = some (.tup xs)) (c : atI xs a = some v) (q : Q v H) : rIxT K (.ref p) (.int a) H Q := ⟨p, xs, a, v, rfl, rfl, SqT.of h, c, q⟩
theorem at_vec {ls : List Nat} {v : Nat → Int} {i : Nat} (h : i < ls.length) : atI (vecV ls v) ((i : Nat) : Int) = some (V.int (v (ls.getD i 0))) := by
  refine atI_nat ?_
  unfold vecV
  rw [List.getElem?_map, List.getElem?_eq_getElem h, List.getD_eq_getElem?_getD, List.getElem?_eq_getElem h]
  rfl
theorem vals_all {σ : St} {i : Nat} {tt : TT} {te : TE} {P : Addr → Hp → Prop} {J : It} {G : Hp → Prop} {ls : List Nat} {it f : Nat → V} (w : Walk J ls.length G (YFn fun k => it (ls.getD k 0))) (hG : ∀ H', Same H H' → G H') (hn : ls.length ≤ 1000000)
    (ht : ∀ c ∈ ls, ∀ H1, Same H H1 → ∀ R : Bool → Hp → Prop, (∀ H2, Same H1 H2 → R true H2) → tt ((wipe σ [i]).set i (some (it c))) H1 R)
    (he : ∀ c ∈ ls, ∀ H1, Same H H1 → ∀ R : VK, (∀ H2, Same H1 H2 → R (f c) H2) → te ((wipe σ [i]).set i (some (it c))) H1 R)
    (q : ∀ D H', H D = none → Same H H' → H' D = some (.lst (ls.map f)) → P D H') :
    ∀ D, H D = none → ∃ W : Nat → Nat → Hp → Prop, (∃ m, W 0 m (upd H D (.lst []))) ∧ ∀ k m H, W k m H →
      (J.stop k H ∧ P D H) ∨ (J.go k H ∧ ∃ Nx : Hp → Prop, (∀ H', Nx H' → ∃ m', m' < m ∧ W (k + 1) m' H') ∧ ∀ x H', J.yld k H x H' → (gName i) x (wipe σ [i]) H' fun s2 H2 => wipe s2 [i] = wipe σ [i] ∧ tt s2 H2 fun c H3 =>
        if c = true then te s2 H3 fun y H4 => ∃ acc, H4 D = some (.lst acc) ∧ acc.length < sizeLine ∧ Nx (upd H4 D (.lst (acc ++ [y]))) else Nx H3) := by
  refine lc_gen (b := fun _ => true) (f := fun k => f (ls.getD k 0)) w hG hn (fun k hk H1 s1 R r => ht _ (getD_mem hk) H1 s1 R r) (fun k hk c H1 s1 R r => he _ (getD_mem hk) H1 s1 R r) (fun D H' hD s' e => q D H' hD s' ?_)
  rw [e, range_map ls (fun _ => true) f, List.filter_eq_self.mpr (fun _ _ => rfl)]
theorem vals_some {σ : St} {i : Nat} {tt : TT} {te : TE} {P : Addr → Hp → Prop} {J : It} {G : Hp → Prop} {ls : List Nat} {it f : Nat → V} {b : Nat → Bool} (w : Walk J ls.length G (YFn fun k => it (ls.getD k 0))) (hG : ∀ H', Same H H' → G H') (hn : ls.length ≤ 1000000)
    (ht : ∀ c ∈ ls, ∀ H1, Same H H1 → ∀ R : Bool → Hp → Prop, (∀ H2, Same H1 H2 → R (b c) H2) → tt ((wipe σ [i]).set i (some (it c))) H1 R)
    (he : ∀ c ∈ ls, b c = true → ∀ H1, Same H H1 → ∀ R : VK, (∀ H2, Same H1 H2 → R (f c) H2) → te ((wipe σ [i]).set i (some (it c))) H1 R)
    (q : ∀ D H', H D = none → Same H H' → H' D = some (.lst ((ls.filter b).map f)) → P D H') :
    ∀ D, H D = none → ∃ W : Nat → Nat → Hp → Prop, (∃ m, W 0 m (upd H D (.lst []))) ∧ ∀ k m H, W k m H →
      (J.stop k H ∧ P D H) ∨ (J.go k H ∧ ∃ Nx : Hp → Prop, (∀ H', Nx H' → ∃ m', m' < m ∧ W (k + 1) m' H') ∧ ∀ x H', J.yld k H x H' → (gName i) x (wipe σ [i]) H' fun s2 H2 => wipe s2 [i] = wipe σ [i] ∧ tt s2 H2 fun c H3 =>
        if c = true then te s2 H3 fun y H4 => ∃ acc, H4 D = some (.lst acc) ∧ acc.length < sizeLine ∧ Nx (upd H4 D (.lst (acc ++ [y]))) else Nx H3) := by
  refine lc_gen (b := fun k => b (ls.getD k 0)) (f := fun k => f (ls.getD k 0)) w hG hn (fun k hk H1 s1 R r => ht _ (getD_mem hk) H1 s1 R r) (fun k hk c H1 s1 R r => he _ (getD_mem hk) c H1 s1 R r) (fun D H' hD s' e => q D H' hD s' ?_)
  rw [e, range_map ls b f]
end
theorem cr_minK {X : Cx} {K : PySem.W.Frag} (h : X.K = K) (hc : X.calm = true) : CallR X (.builtin "min") (rMin K) := h ▸ cr_min hc
/-- the scope of a comprehension: its own names, the names of the module and those of the def -/
def lcSc (loc glo fre : List String) : Scope := { kind := .function, names := (loc.map fun x => (Str.ofString x, NameKind.local)) ++ (glo.map fun x => (Str.ofString x, NameKind.globalImplicit)) ++ (fre.map fun x => (Str.ofString x, NameKind.cell)), isGenerator := false, isCoroutine := false }
end Cw
namespace Cw
open PySem PySem.Spec L2
/-- [.. for i in range(len(ls))] -/
theorem vals_rng {σ : St} {H : Hp} {i : Nat} {tt : TT} {te : TE} {P : Addr → Hp → Prop} {ls : List Nat} {f : Nat → V} (hn : ls.length ≤ 1000000)
    (ht : ∀ j, j < ls.length → ∀ H1, Same H H1 → ∀ R : Bool → Hp → Prop, (∀ H2, Same H1 H2 → R true H2) → tt ((wipe σ [i]).set i (some (.int (j : Nat)))) H1 R)
    (he : ∀ j, j < ls.length → ∀ H1, Same H H1 → ∀ R : VK, (∀ H2, Same H1 H2 → R (f (ls.getD j 0)) H2) → te ((wipe σ [i]).set i (some (.int (j : Nat)))) H1 R)
    (q : ∀ D H', H D = none → Same H H' → H' D = some (.lst (ls.map f)) → P D H') :
    ∀ D, H D = none → ∃ W : Nat → Nat → Hp → Prop, (∃ m, W 0 m (upd H D (.lst []))) ∧ ∀ k m H, W k m H →
      ((Itr 0 ((ls.length : Nat) : Int).toNat).stop k H ∧ P D H) ∨ ((Itr 0 ((ls.length : Nat) : Int).toNat).go k H ∧ ∃ Nx : Hp → Prop, (∀ H', Nx H' → ∃ m', m' < m ∧ W (k + 1) m' H') ∧ ∀ x H', (Itr 0 ((ls.length : Nat) : Int).toNat).yld k H x H' → (gName i) x (wipe σ [i]) H' fun s2 H2 => wipe s2 [i] = wipe σ [i] ∧ tt s2 H2 fun c H3 =>
        if c = true then te s2 H3 fun y H4 => ∃ acc, H4 D = some (.lst acc) ∧ acc.length < sizeLine ∧ Nx (upd H4 D (.lst (acc ++ [y]))) else Nx H3) := by
  rw [Int.toNat_natCast]
  refine lc_gen (b := fun _ => true) (f := fun k => f (ls.getD k 0)) (it := fun k => .int ((k : Nat) : Int)) (walk_rI (fun k => ((k : Nat) : Int)) (fun k => Int.zero_add _)) (fun _ _ => trivial) hn (fun k hk H1 s1 R r => ht k hk H1 s1 R r) (fun k hk c H1 s1 R r => he k hk H1 s1 R r) (fun D H' hD s' e => q D H' hD s' ?_)
  rw [e, range_map ls (fun _ => true) f, List.filter_eq_self.mpr (fun _ _ => rfl)]
end Cw
set_option Elab.async false
set_option linter.all false
set_option maxRecDepth 100000
set_option maxHeartbeats 4000000
namespace Cw
open PySem PySem.Spec L2
local macro_rules | `(tactic| walk_at "side") => `(tactic| first | omega | assumption | (dsimp only; omega) | (unfold CMul; omega) | exact ⟨by decide, by decide, by decide⟩ | exact wdiv (by first | assumption | decide | omega) (by first | assumption | decide | omega) | (simp only [List.length_cons, List.length_nil]; omega) | rfl)
local macro_rules | `(tactic| walk_at "hl") => `(tactic| first | assumption | exact upd_same | ((refine Cw.Same.at (by assumption) ?_); walk_at "hl") | ((refine Cw.Keep.at (by assumption) ?_ (by assumption)); walk_at "hl"))
local macro_rules | `(tactic| walk_at "st") => `(tactic| first
  | (with_reducible refine s_seq ?_) | (with_reducible refine g_nm ?_) | (with_reducible refine s_next ?_) | (with_reducible refine s_set ?_) | (with_reducible refine s_drop ?_) | (with_reducible refine s_ret ?_) | (with_reducible refine s_if ?_)
  | ((with_reducible refine e_varG ?_); refine ⟨_, (by with_unfolding_all rfl), ?_⟩) | (with_reducible refine e_c ?_) | (with_reducible refine e_op ?_) | (with_reducible refine e_un ?_)
  | (with_reducible refine e_cons ?_) | (with_reducible refine e_nil ?_) | (with_reducible refine e_cb ?_) | (with_reducible refine e_call ?_) | (with_reducible refine e_md ?_)
  | (with_reducible refine t_test ?_) | (with_reducible refine t_B ?_) | (with_reducible refine t_and ?_) | (with_reducible refine t_or ?_) | (with_reducible refine t_not ?_)
  | (with_reducible refine e_andV ?_) | (with_reducible refine e_orV ?_) | (with_reducible refine e_notV ?_) | (with_reducible refine e_if ?_)
  | (with_reducible refine v_I0 ?_) | ((with_reducible refine v_I ?c ?_); try (case c => walk_at "side")) | (with_reducible refine v_bl ?_)
  | ((with_reducible refine v_eq ?c ?_); (case c => with_unfolding_all rfl)) | ((with_reducible refine v_ne ?c ?_); (case c => with_unfolding_all rfl))
  | (with_reducible refine v_inti ?_) | (with_reducible refine v_intb ?_) | ((with_reducible refine v_lenG ?_); refine ⟨_, (by walk_at "hl"), ?_⟩)
  | ((with_reducible refine v_lenS ?c ?_); try (case c => walk_at "side"))
  | (with_reducible refine e_dnew ?_) | (with_reducible refine e_dget ?_) | (with_reducible refine s_dput ?_) | (with_reducible refine e_lst ?_) | (with_reducible refine e_tup ?_)
  | ((with_reducible refine v_lst ?c ?_); (case c => walk_at "side")) | ((with_reducible refine v_tup ?c ?_); (case c => walk_at "side"))
  | ((with_reducible refine v_dgetG ?_); refine ⟨_, (by assumption), ?_⟩)
  | (with_reducible refine e_sl ?_) | (with_reducible refine e_nopart ?_) | (with_reducible refine e_part ?_) | (with_reducible refine e_m1 ?_) | (with_reducible refine v_isS ?_) | (with_reducible refine v_int ?_)
  | (with_reducible refine e_lc ?_) | (with_reducible refine e_iStr ?_) | (with_reducible refine e_iEnumS ?_) | (with_reducible refine v_iEnumS ?_) | (with_reducible refine v_str ?_) | (with_reducible refine e_yes ?_) | (with_reducible refine e_fld ?_) | (with_reducible refine e_sfld ?_)
  | ((with_reducible refine v_addS ?c ?_); try (case c => walk_at "side")) | (with_reducible refine v_inS ?_) | (with_reducible refine v_notInS ?_) | (with_reducible refine v_ltS ?_)
  | ((with_reducible refine v_inLG ?_); refine ⟨_, (by walk_at "hl"), ?_⟩) | (with_reducible refine v_isiS ?_) | (with_reducible refine e_revS ?_) | ((with_reducible refine v_revS ?c ?_); try (case c => walk_at "side"))
  | ((with_reducible refine v_lenSetG ?_); refine ⟨_, (by walk_at "hl"), ?_⟩)
  | (with_reducible refine e_bm ?_) | (with_reducible refine e_bm0 ?_) | ((with_reducible refine v_tyLG ?_); refine ⟨_, (by walk_at "hl"), ?_⟩)
  | (with_reducible refine iteNT ?_) | (with_reducible refine iteNF ?_) | (with_reducible refine e_for ?_)
  | (with_reducible refine e_iL ?_) | (with_reducible refine e_iT ?_) | ((with_reducible refine v_iLG ?_); refine ⟨_, (by walk_at "hl"), ?_⟩) | (with_reducible refine e_iR1 ?_) | ((with_reducible refine v_iR1 ?c1 ?c2 ?_); try (case c1 => walk_at "side"); try (case c2 => walk_at "side"))
  | (with_reducible refine e_iR2 ?_) | ((with_reducible refine v_iR2 ?c1 ?_); try (case c1 => walk_at "side"))
  | (with_reducible refine e_pr0 ?_) | (with_reducible refine e_pr ?_) | (with_reducible refine e_disp ?_) | (with_reducible refine s_asgT ?_) | (with_reducible refine e_tryA ?_) | (with_reducible refine e_callS ?_) | (with_reducible refine e_mdS ?_) | (with_reducible refine e_par ?_) | (with_reducible refine v_par ?_) | (with_reducible refine e_par3 ?_) | (with_reducible refine v_par3 ?_) | (with_reducible refine e_iK ?_) | (with_reducible refine e_dnotin ?_)
  | (with_reducible refine iteT ?_) | (with_reducible refine iteF ?_))
local macro_rules | `(tactic| walk_at "go") => `(tactic| repeat walk_at "st")
def spIsKind (C : Addr) : Sp := fun vs H Q _ => ∃ (x : Addr) (ks : List Nat) (ps : List (List Nat)) (k : Nat), vs = [.ref x, .str (tx [k])] ∧ PlanAt C H x ks ps ∧ k ∈ ks ∧ Q (.bl true) H
def spNeedKind (C : Addr) : Sp := fun vs H Q _ => ∃ (x : Addr) (ks : List Nat) (ps : List (List Nat)) (k : Nat), vs = [.ref x, .str (tx [k])] ∧ PlanAt C H x ks ps ∧ k ∈ ks ∧ Q (.str (tx [k])) H
def spGetitem (C R : Addr) : Sp := fun vs H Q _ => ∃ (r x : Addr) (ks : List Nat) (ps : List (List Nat)) (name : List Nat) (k : Nat), vs = [.ref r, .str (tx [k])] ∧ RoomAt R H r x name ∧ PlanAt C H x ks ps ∧ k ∈ ks ∧ (∀ c ∈ name, c ∈ ks) ∧ name.length < 2000 ∧
  ∀ r' H', H r' = none → Same H H' → RoomAt R H' r' x (joinOf ks ps [] (stepOf (crossOf ks ps k) name k)) → Q (.ref r') H'
def spRoomAdd (C R : Addr) : Sp := fun vs H Q _ => ∃ (r x : Addr) (ks : List Nat) (ps : List (List Nat)) (name way : List Nat), vs = [.ref r, .str (tx way)] ∧ RoomAt R H r x name ∧ PlanAt C H x ks ps ∧ (∀ c ∈ name, c ∈ ks) ∧ (∀ c ∈ way, c ∈ ks) ∧ name.length ≤ 2000 ∧ way.length ≤ 2000 ∧ (joinOf ks ps name way).length ≤ 2000 ∧
  ∀ r' H', H r' = none → Same H H' → RoomAt R H' r' x (joinOf ks ps [] (joinOf ks ps name way)) → Q (.ref r') H'
/-- a room and a text -/
def spRoomEqS (R : Addr) : Sp := fun vs H Q _ => ∃ (r : Addr) (z : Str), vs = [.ref r, .str z] ∧ Q (.bl false) H
section
variable {P : Program} {w : World} {K : PySem.W.Frag} {mg : Str → Option Value} {base : Heap} {C R O : Addr}
abbrev stis_kind : Stmt := (top 26)
abbrev Nis_kind : List Str := ["plan", "value"]
theorem scis_kind : FnScope Nis_kind ["plan", "value"] (defScope stis_kind) := ⟨rfl, rfl, rfl, by decide +kernel, rfl, by decide +kernel, by decide +kernel⟩

theorem ok_is_kind (F : FnAt K mg "is_kind" stis_kind) (T : TxtP K mg C) : Def P w K mg base CX0 1 "is_kind" ["plan", "value"] (spIsKind C) := by
  refine F.ok scis_kind (fun _ _ _ _ _ _ us hl => match us, hl with | [_, _], _ => rfl) (fun vs H Q E h => ?_) (fun f cdv A outer s H vs Q E hr h => ?_)
  · obtain ⟨x, ks, ps, k, rfl, _⟩ := h
    rfl
  obtain ⟨x, ks, ps, k, rfl, h1, hk, q⟩ := h
  have hu := hu_of hr
  have nd := scis_kind.nd
  refine ⟨_, (pss_one (ps_ret (pe_and (pe_callB (c_isiK (K := K) rfl) (by rfl) T.isinstance (by decide +kernel) (pa_cons (pv 1) (pa_cons (pe_bltn (v := .ty "str") (u := .type "str") (by rfl) T.str (by decide +kernel) rfl) pa_nil))) (pe_and (pe_cmpR op_eq (pe_callB c_lenS (by rfl) T.len PySem.boot_len (pa_cons (pv 1) pa_nil)) pe_int (nomark _)) (pe_one (pe_cmpR op_inS (pv 1) (pe_flK (K := K) rfl (pv 0) rfl) (by rfl))))))), ?_⟩
  refine s_start [some _, some _] rfl ?_
  obtain ⟨dx, t, d, a1, a2, a3⟩ := h1.ex
  have l1 : [k].length ≤ 1000000 := by simp
  walk_at "go"
  refine if_dec (fun c => ?_) (fun c => (c (by rfl)).elim)
  walk_at "go"
  refine v_fld a1 T.Plan.cl T.nK planF_k ?_
  walk_at "go"
  rw [decide_eq_true hk]
  exact q
abbrev stneed_kind : Stmt := (top 27)
abbrev Nneed_kind : List Str := ["plan", "value"]
theorem scneed_kind : FnScope Nneed_kind ["plan", "value"] (defScope stneed_kind) := ⟨rfl, rfl, rfl, by decide +kernel, rfl, by decide +kernel, by decide +kernel⟩

theorem ok_need_kind (F : FnAt K mg "need_kind" stneed_kind) (D_is_kind : Def P w K mg base CX0 1 "is_kind" ["plan", "value"] (spIsKind C)) : Def P w K mg base CX0 2 "need_kind" ["plan", "value"] (spNeedKind C) := by
  refine F.ok scneed_kind (fun _ _ _ _ _ _ us hl => match us, hl with | [_, _], _ => rfl) (fun vs H Q E h => ?_) (fun f cdv A outer s H vs Q E hr h => ?_)
  · obtain ⟨x, ks, ps, k, rfl, _⟩ := h
    rfl
  obtain ⟨x, ks, ps, k, rfl, h1, hk, q⟩ := h
  have hu := hu_of hr
  have nd := scneed_kind.nd
  refine ⟨_, (pss_cons (ps_if (pt_not (pt_val (pe_cd D_is_kind hr pass0 (pa_cons (pv 0) (pa_cons (pv 1) pa_nil)))))
      (pss_one ps_never)
      pss_nil)
      (pss_one (ps_ret (pv 1)))), ?_⟩
  refine s_start [some _, some _] rfl ?_
  walk_at "go"
  refine ⟨x, ks, ps, k, rfl, h1, hk, ?_⟩
  walk_at "go"
  exact q
abbrev stRoom_getitem : Stmt := (inClass (top 31) 2)
abbrev NRoom_getitem : List Str := ["self", "kind"]
theorem scRoom_getitem : FnScope NRoom_getitem ["self", "kind"] (defScope stRoom_getitem) := ⟨rfl, rfl, rfl, by decide +kernel, rfl, by decide +kernel, by decide +kernel⟩

theorem ok_Room_getitem (F : MAt K R "__getitem__" "Room.__getitem__" stRoom_getitem) (T : TxtR K mg C R O) (D_need_kind : Def P w K mg base CX0 2 "need_kind" ["plan", "value"] (spNeedKind C)) (D_stepped : Def P w K mg base CX0 1 "stepped" ["plan", "name", "kind"] (spStepped C)) (C_Room : CDef P w K mg base CX0 3 "Room" R (spRoom C R)) : MDef P w K mg base CX0 5 R "__getitem__" ["self", "kind"] (spGetitem C R) := by
  refine F.ok scRoom_getitem (fun _ _ _ _ _ _ us hl => match us, hl with | [_, _], _ => rfl) (fun vs H Q E h => ?_) (fun f cdv A outer s H vs Q E hr h => ?_)
  · obtain ⟨r, x, ks, ps, name, k, rfl, _⟩ := h
    rfl
  obtain ⟨r, x, ks, ps, name, k, rfl, h1, h2, hk, hm, hl, q⟩ := h
  have hu := hu_of hr
  have nd := scRoom_getitem.nd
  replace D_need_kind := D_need_kind.mono (show 2 ≤ 4 by decide)
  replace D_stepped := D_stepped.mono (show 1 ≤ 4 by decide)
  refine ⟨_, (pss_one (ps_ret (pe_mk C_Room hr pass0 (pa_cons (pe_flK (K := K) rfl (pv 0) rfl) (pa_cons (pe_cd D_stepped hr pass0 (pa_cons (pe_flK (K := K) rfl (pv 0) rfl) (pa_cons (pe_flK (K := K) rfl (pv 0) rfl) (pa_cons (pe_cd D_need_kind hr pass0 (pa_cons (pe_flK (K := K) rfl (pv 0) rfl) (pa_cons (pv 1) pa_nil))) pa_nil)))) pa_nil))))), ?_⟩
  refine s_start [some _, some _] rfl ?_
  obtain ⟨dr, a1⟩ := h1.ex
  walk_at "go"
  refine v_fld a1 T.Room.cl T.nPl roomF_p ?_
  walk_at "go"
  refine v_fld a1 T.Room.cl T.nPl roomF_p ?_
  walk_at "go"
  refine v_fld a1 T.Room.cl T.nNm roomF_n ?_
  walk_at "go"
  refine v_fld a1 T.Room.cl T.nPl roomF_p ?_
  walk_at "go"
  refine ⟨x, ks, ps, k, rfl, h2, hk, ?_⟩
  walk_at "go"
  refine ⟨x, ks, ps, name, k, rfl, h2, hk, by omega, ?_⟩
  walk_at "go"
  have sl := stepOf_len (crossOf ks ps k) name k
  refine ⟨x, ks, ps, _, rfl, h2, fun c hc => ?_, by omega, fun r' H' a b c => q r' H' a b c⟩
  rcases stepOf_mem hc with e | e
  · rw [e]
    exact hk
  · exact hm c e
abbrev stRoom_add : Stmt := (inClass (top 31) 4)
abbrev NRoom_add : List Str := ["self", "way"]
theorem scRoom_add : FnScope NRoom_add ["self", "way"] (defScope stRoom_add) := ⟨rfl, rfl, rfl, by decide +kernel, rfl, by decide +kernel, by decide +kernel⟩

theorem ok_Room_add (F : MAt K R "__add__" "Room.__add__" stRoom_add) (T : TxtR K mg C R O) (D_need_way : Def P w K mg base CX0 1 "need_way" ["plan", "way"] (spNeedWay C)) (D_joined : Def P w K mg base CX0 2 "joined" ["plan", "name", "way"] (spJoined C)) (C_Room : CDef P w K mg base CX0 3 "Room" R (spRoom C R)) : MDef P w K mg base CX0 5 R "__add__" ["self", "way"] (spRoomAdd C R) := by
  refine F.ok scRoom_add (fun _ _ _ _ _ _ us hl => match us, hl with | [_, _], _ => rfl) (fun vs H Q E h => ?_) (fun f cdv A outer s H vs Q E hr h => ?_)
  · obtain ⟨r, x, ks, ps, name, way, rfl, _⟩ := h
    rfl
  obtain ⟨r, x, ks, ps, name, way, rfl, h1, h2, hn, hw, l1, l2, l3, q⟩ := h
  have hu := hu_of hr
  have nd := scRoom_add.nd
  replace D_need_way := D_need_way.mono (show 1 ≤ 4 by decide)
  replace D_joined := D_joined.mono (show 2 ≤ 4 by decide)
  refine ⟨_, (pss_one (ps_ret (pe_mk C_Room hr pass0 (pa_cons (pe_flK (K := K) rfl (pv 0) rfl) (pa_cons (pe_cd D_joined hr pass0 (pa_cons (pe_flK (K := K) rfl (pv 0) rfl) (pa_cons (pe_flK (K := K) rfl (pv 0) rfl) (pa_cons (pe_cd D_need_way hr pass0 (pa_cons (pe_flK (K := K) rfl (pv 0) rfl) (pa_cons (pv 1) pa_nil))) pa_nil)))) pa_nil))))), ?_⟩
  refine s_start [some _, some _] rfl ?_
  obtain ⟨dr, a1⟩ := h1.ex
  walk_at "go"
  refine v_fld a1 T.Room.cl T.nPl roomF_p ?_
  walk_at "go"
  refine v_fld a1 T.Room.cl T.nPl roomF_p ?_
  walk_at "go"
  refine v_fld a1 T.Room.cl T.nNm roomF_n ?_
  walk_at "go"
  refine v_fld a1 T.Room.cl T.nPl roomF_p ?_
  walk_at "go"
  refine ⟨x, ks, ps, way, rfl, h2, hw, l2, fun H1 s1 => ?_⟩
  walk_at "go"
  refine ⟨x, ks, ps, name, way, rfl, h2.same s1, hw, by omega, ?_⟩
  walk_at "go"
  refine ⟨x, ks, ps, _, rfl, h2.same s1, fun c hc => (joinOf_mem hc).elim (hn c) (hw c), l3, fun r' H' a b c => q r' H' ?_ (s1.trans b) c⟩
  exact L2.Same.free s1 a
theorem ok_Room_eqS (F : MAt K R "__eq__" "Room.__eq__" stRoom_eq) (T : TxtR K mg C R O) (kf : PySem.W.kitOne K (.type "str") (.ref R) = some false) (M_Plan_eq : MDef P w K mg base CX0 1 C "__eq__" ["self", "other"] (spPlanEq C)) : MDef P w K mg base CX0 2 R "__eq__" ["self", "other"] (spRoomEqS R) := by
  refine F.ok scRoom_eq (fun _ _ _ _ _ _ us hl => match us, hl with | [_, _], _ => rfl) (fun vs H Q E h => ?_) (fun f cdv A outer s H vs Q E hr h => ?_)
  · obtain ⟨r, z, rfl, _⟩ := h
    rfl
  obtain ⟨r, z, rfl, q⟩ := h
  have hu := hu_of hr
  have nd := scRoom_eq.nd
  refine ⟨_, (pss_one (ps_ret (pe_and (pe_callB (c_isiK (K := K) rfl) (by rfl) T.isinstance (by decide +kernel) (pa_cons (pv 1) (pa_cons (pe_globC T.Room.at) pa_nil))) (pe_and (pe_cmpR (op_cmpM (op := .Eq) (fun _ _ => rfl) M_Plan_eq hr pass0) (pe_flK (K := K) rfl (pv 0) rfl) (pe_flK (K := K) rfl (pv 1) rfl) (nomark _)) (pe_one (pe_cmpR op_eq (pe_flK (K := K) rfl (pv 0) rfl) (pe_flK (K := K) rfl (pv 1) rfl) (nomark _))))))), ?_⟩
  refine s_start [some _, some _] rfl ?_
  walk_at "go"
  refine ⟨.str z, .ref R, .type "str", .ref R, false, rfl, .own R, .base (.str z), kf, ?_⟩
  walk_at "go"
  exact q
end
end Cw
set_option Elab.async false
set_option linter.all false
set_option maxRecDepth 100000
set_option maxHeartbeats 4000000
namespace Cw
open PySem PySem.Spec L2
local macro_rules | `(tactic| walk_at "side") => `(tactic| first | omega | assumption | (dsimp only; omega) | (unfold CMul; omega) | exact ⟨by decide, by decide, by decide⟩ | exact wdiv (by first | assumption | decide | omega) (by first | assumption | decide | omega) | (simp only [List.length_cons, List.length_nil]; omega) | rfl)
local macro_rules | `(tactic| walk_at "hl") => `(tactic| first | assumption | exact upd_same | ((refine Cw.Same.at (by assumption) ?_); walk_at "hl") | ((refine Cw.Keep.at (by assumption) ?_ (by assumption)); walk_at "hl"))
local macro_rules | `(tactic| walk_at "st") => `(tactic| first
  | (with_reducible refine s_seq ?_) | (with_reducible refine g_nm ?_) | (with_reducible refine s_next ?_) | (with_reducible refine s_set ?_) | (with_reducible refine s_drop ?_) | (with_reducible refine s_ret ?_) | (with_reducible refine s_if ?_)
  | ((with_reducible refine e_varG ?_); refine ⟨_, (by with_unfolding_all rfl), ?_⟩) | (with_reducible refine e_c ?_) | (with_reducible refine e_op ?_) | (with_reducible refine e_un ?_)
  | (with_reducible refine e_cons ?_) | (with_reducible refine e_nil ?_) | (with_reducible refine e_cb ?_) | (with_reducible refine e_call ?_) | (with_reducible refine e_md ?_)
  | (with_reducible refine t_test ?_) | (with_reducible refine t_B ?_) | (with_reducible refine t_and ?_) | (with_reducible refine t_or ?_) | (with_reducible refine t_not ?_)
  | (with_reducible refine e_andV ?_) | (with_reducible refine e_orV ?_) | (with_reducible refine e_notV ?_) | (with_reducible refine e_if ?_)
  | (with_reducible refine v_I0 ?_) | ((with_reducible refine v_I ?c ?_); try (case c => walk_at "side")) | (with_reducible refine v_bl ?_)
  | ((with_reducible refine v_eq ?c ?_); (case c => with_unfolding_all rfl)) | ((with_reducible refine v_ne ?c ?_); (case c => with_unfolding_all rfl))
  | (with_reducible refine v_inti ?_) | (with_reducible refine v_intb ?_) | ((with_reducible refine v_lenG ?_); refine ⟨_, (by walk_at "hl"), ?_⟩)
  | ((with_reducible refine v_lenS ?c ?_); try (case c => walk_at "side"))
  | (with_reducible refine e_dnew ?_) | (with_reducible refine e_dget ?_) | (with_reducible refine s_dput ?_) | (with_reducible refine e_lst ?_) | (with_reducible refine e_tup ?_)
  | ((with_reducible refine v_lst ?c ?_); (case c => walk_at "side")) | ((with_reducible refine v_tup ?c ?_); (case c => walk_at "side"))
  | ((with_reducible refine v_dgetG ?_); refine ⟨_, (by assumption), ?_⟩)
  | (with_reducible refine e_sl ?_) | (with_reducible refine e_nopart ?_) | (with_reducible refine e_part ?_) | (with_reducible refine e_m1 ?_) | (with_reducible refine v_isS ?_) | (with_reducible refine v_int ?_)
  | (with_reducible refine e_lc ?_) | (with_reducible refine e_iStr ?_) | (with_reducible refine e_iEnumS ?_) | (with_reducible refine v_iEnumS ?_) | (with_reducible refine v_str ?_) | (with_reducible refine e_yes ?_) | (with_reducible refine e_fld ?_) | (with_reducible refine e_sfld ?_)
  | ((with_reducible refine v_addS ?c ?_); try (case c => walk_at "side")) | (with_reducible refine v_inS ?_) | (with_reducible refine v_notInS ?_) | (with_reducible refine v_ltS ?_)
  | ((with_reducible refine v_inLG ?_); refine ⟨_, (by walk_at "hl"), ?_⟩) | (with_reducible refine v_isiS ?_) | (with_reducible refine e_revS ?_) | ((with_reducible refine v_revS ?c ?_); try (case c => walk_at "side"))
  | ((with_reducible refine v_lenSetG ?_); refine ⟨_, (by walk_at "hl"), ?_⟩)
  | (with_reducible refine e_bm ?_) | (with_reducible refine e_bm0 ?_) | ((with_reducible refine v_tyLG ?_); refine ⟨_, (by walk_at "hl"), ?_⟩)
  | (with_reducible refine iteNT ?_) | (with_reducible refine iteNF ?_) | (with_reducible refine e_for ?_)
  | (with_reducible refine e_iL ?_) | (with_reducible refine e_iT ?_) | ((with_reducible refine v_iLG ?_); refine ⟨_, (by walk_at "hl"), ?_⟩) | (with_reducible refine e_iR1 ?_) | ((with_reducible refine v_iR1 ?c1 ?c2 ?_); try (case c1 => walk_at "side"); try (case c2 => walk_at "side"))
  | (with_reducible refine e_iR2 ?_) | ((with_reducible refine v_iR2 ?c1 ?_); try (case c1 => walk_at "side"))
  | (with_reducible refine e_pr0 ?_) | (with_reducible refine e_pr ?_) | (with_reducible refine e_disp ?_) | (with_reducible refine s_asgT ?_) | (with_reducible refine e_tryA ?_) | (with_reducible refine e_callS ?_) | (with_reducible refine e_mdS ?_) | (with_reducible refine e_par ?_) | (with_reducible refine v_par ?_) | (with_reducible refine e_par3 ?_) | (with_reducible refine v_par3 ?_) | (with_reducible refine e_iK ?_) | (with_reducible refine e_dnotin ?_)
  | (with_reducible refine iteT ?_) | (with_reducible refine iteF ?_))
local macro_rules | `(tactic| walk_at "go") => `(tactic| repeat walk_at "st")
def spPick : Sp := fun vs H Q _ => ∃ (g : Pen) (n : Nat) (q : Addr) (xs : List V), vs = [.ref g.p, .ref q] ∧ H q = some (.lst xs) ∧ 0 < xs.length ∧ xs.length < 1000000 ∧ PenAt g H n ∧ n < 1000000 ∧ q ≠ g.p ∧
  ∀ v H', v ∈ xs → PenAt g H' (n + 1) → Keep g.p H H' → Q v H'
def spShuffled : Sp := fun vs H Q _ => ∃ (g : Pen) (n : Nat) (q : Addr) (ls : List Nat), vs = [.ref g.p, .ref q] ∧ H q = some (.lst (ls.map fun c => V.str (tx [c]))) ∧ ls.length ≤ 1000 ∧ (∀ c ∈ ls, c < 1000) ∧ PenAt g H n ∧ n < 950000 ∧
  ∀ (l : Addr) (ys : List Nat) (H' : Hp), H l = none → ys.Perm ls → H' l = some (.lst (ys.map fun c => V.str (tx [c]))) → PenAt g H' (n + ls.length) → Keep g.p H H' → Q (.ref l) H'
section
variable {P : Program} {w : World} {K : PySem.W.Frag} {mg : Str → Option Value} {base : Heap}
abbrev stpick : Stmt := (top 48)
abbrev Npick : List Str := ["_law_pen_here", "_law_items"]
theorem scpick : FnScope Npick ["_law_pen_here", "_law_items"] (defScope stpick) := ⟨rfl, rfl, rfl, by decide +kernel, rfl, by decide +kernel, by decide +kernel⟩

theorem ok_pick (F : FnAt K mg "_law_pick" stpick) (T : Txt K mg) (D_draw : Def P w K mg base CX0 1 "_law_draw" ["_law_pen_here", "_law_number"] spDraw) : Def P w K mg base CX0 2 "_law_pick" ["_law_pen_here", "_law_items"] spPick := by
  refine F.ok scpick (fun _ _ _ _ _ _ us hl => match us, hl with | [_, _], _ => rfl) (fun vs H Q E h => ?_) (fun f cdv A outer s H vs Q E hr h => ?_)
  · obtain ⟨g, n, q, xs, rfl, _⟩ := h
    rfl
  obtain ⟨g, n, q, xs, rfl, hq, h0, h1, hp, hn, hne, k⟩ := h
  have hu := hu_of hr
  have nd := scpick.nd
  refine ⟨_, (pss_one (ps_ret (pe_ix (ix_LK (K := K) rfl) (pv 1) (pe_cd D_draw hr pass0 (pa_cons (pv 0) (pa_cons (pe_callB (c_lenK (K := K) rfl) (by rfl) T.len PySem.boot_len (pa_cons (pv 1) pa_nil)) pa_nil))) (fun _ _ => rfl)))), ?_⟩
  refine s_start [some _, some _] rfl ?_
  walk_at "go"
  refine ⟨g, xs.length, n, rfl, by omega, by omega, hp, hn, fun z H1 z0 z1 p1 k1 => ?_⟩
  walk_at "go"
  have hz : z.toNat < xs.length := by omega
  refine v_ixL (k1 _ _ hq hne) (at_of (j := z.toNat) (by omega) (List.getElem?_eq_getElem hz)) ?_
  exact k _ H1 (List.getElem_mem hz) p1 k1
abbrev stshuffled : Stmt := (top 49)
abbrev Nshuffled : List Str := ["_law_pen_here", "_law_items", "_law_left", "_law_found"]
theorem scshuffled : FnScope Nshuffled ["_law_pen_here", "_law_items"] (defScope stshuffled) := ⟨rfl, rfl, rfl, by decide +kernel, rfl, by decide +kernel, by decide +kernel⟩

theorem ok_shuffled (F : FnAt K mg "_law_shuffled" stshuffled) (T : Txt K mg) (D_draw : Def P w K mg base CX0 1 "_law_draw" ["_law_pen_here", "_law_number"] spDraw) : Def P w K mg base CX0 2 "_law_shuffled" ["_law_pen_here", "_law_items"] spShuffled := by
  refine F.ok scshuffled (fun _ _ _ _ _ _ us hl => match us, hl with | [_, _], _ => rfl) (fun vs H Q E h => ?_) (fun f cdv A outer s H vs Q E hr h => ?_)
  · obtain ⟨g, n, q, xs, rfl, _⟩ := h
    rfl
  obtain ⟨g, n, q, ls, rfl, hq, h1, h2, hp, hn, k⟩ := h
  have hu := hu_of hr
  have nd := scshuffled.nd
  refine ⟨_, (pss_cons (ps_par (i := 2) (j := 3) (by rfl) nd rfl rfl (by decide) rfl rfl (pa_cons (pe_callTy (c_listK (K := K) rfl) (by rfl) T.list (by decide +kernel) (pa_cons (pv 1) pa_nil)) (pa_cons (pe_lst pa_nil) pa_nil)) (by rfl))
      (pss_cutS (ps_while PassesOwn.never (pt_cmpR (op_neDK (K := K) rfl hr.units) (pv 2) (pe_lst pa_nil) (nomark _))
      (pss_one (ps_expr (pe_appK (K := K) rfl (pv 3) (pe_popK (K := K) rfl (pv 2) (pe_cd D_draw hr pass0 (pa_cons (pv 0) (pa_cons (pe_callB (c_lenK (K := K) rfl) (by rfl) T.len PySem.boot_len (pa_cons (pv 2) pa_nil)) pa_nil))))))))
      (pss_one (ps_ret (pv 3))))), ?_⟩
  refine s_start [some _, some _, none, none] rfl ?_
  walk_at "go"
  refine v_list (SqL.of hq) fun a H1 ha s1 e1 => ?_
  walk_at "go"
  intro b H2 hb s2 e2
  walk_at "go"
  have hab : a ≠ b := ne_of_none e1 hb
  refine s_cut (fun σ H' => ∃ ys : List Nat, σ = [some (.ref g.p), some (.ref q), some (.ref a), some (.ref b)] ∧ ys.Perm ls ∧ H' b = some (.lst (ys.map fun c => V.str (tx [c]))) ∧ PenAt g H' (n + ls.length) ∧ Keep g.p H H') ?_ ?_
  · refine s_while (fun m σ H' => ∃ xs ys : List Nat, m = xs.length ∧ σ = [some (.ref g.p), some (.ref q), some (.ref a), some (.ref b)] ∧ (ys ++ xs).Perm ls ∧ H' a = some (.lst (xs.map fun c => V.str (tx [c]))) ∧ H' b = some (.lst (ys.map fun c => V.str (tx [c]))) ∧ PenAt g H' (n + ys.length) ∧ Keep g.p H H') ls.length ⟨ls, [], rfl, rfl, .refl _, s2 _ _ e1, e2, hp.same (s1.trans s2), Keep.of (s1.trans s2)⟩ ?_
    rintro m σ H3 ⟨xs, ys, rfl, rfl, pm, ea, eb, p3, k3⟩
    have hl := pm.length_eq
    rw [List.length_append] at hl
    walk_at "go"
    intro e H4 he s4 e4
    have ea4 := s4 _ _ ea
    have eb4 := s4 _ _ eb
    have ea5 : H4 a = some (.lst ((xs.map fun c => tx [c]).map V.str)) := by
      rw [ea4, List.map_map]
      rfl
    refine v_neNilS ea5 (fun x hx => ?_) e4 ?_
    · obtain ⟨c, hc, rfl⟩ := List.mem_map.mp hx
      refine ok_tx fun d hd => ?_
      rw [List.mem_singleton] at hd
      subst hd
      exact h2 _ (pm.subset (List.mem_append_right _ hc))
    walk_at "go"
    rw [List.isEmpty_map]
    cases xs with
    | nil =>
      walk_at "go"
      refine ⟨ys, rfl, by simpa using pm, eb4, (p3.same s4).mono (by omega), fun c o hc nc => s4 _ _ (k3 _ _ hc nc)⟩
    | cons x0 xr =>
      walk_at "go"
      refine v_turn ?_
      walk_at "go"
      refine ⟨g, _, n + ys.length, rfl, ?_, ?_, p3.same s4, by omega, fun z H5 z0 z1 p5 k5 => ?_⟩
      · rw [List.length_map, List.length_map, List.length_cons]; omega
      · rw [List.length_map, List.length_map]; omega
      rw [List.length_map, List.length_map] at z1
      have nag : a ≠ g.p := (hp.p_ne ha).symm
      have nbg : b ≠ g.p := ((hp.same s1).p_ne hb).symm
      have hz : z.toNat < (x0 :: xr).length := by omega
      walk_at "go"
      refine v_pop (k5 _ _ ea4 nag) z0 (by rw [List.length_map]; omega) (by rw [List.length_map]; omega) (y := V.str (tx [(x0 :: xr)[z.toNat]])) (by rw [List.getElem?_map, List.getElem?_eq_getElem hz]; rfl) fun H6 k6 e6 => ?_
      walk_at "go"
      have eb6 := k6 _ _ (k5 _ _ eb4 nbg) hab.symm
      refine v_app eb6 (by rw [List.length_map]; omega) fun H7 k7 e7 => ?_
      walk_at "go"
      refine ⟨xr.length, by simp, (x0 :: xr).eraseIdx z.toNat, ys ++ [(x0 :: xr)[z.toNat]], ?_, rfl, ?_, ?_, ?_, ?_, ?_⟩
      · rw [List.length_eraseIdx_of_lt hz]
        rfl
      · refine .trans ?_ pm
        rw [List.append_assoc]
        refine .append_left _ ?_
        exact erase_perm _ _ hz
      · rw [k7 _ _ e6 hab]
        rw [erase_map]
      · rw [e7, List.map_append]
        rfl
      · have q6 := p5.keep k6 (hp.p_ne ha) (hp.cl_ne ha)
        have q7 := q6.keep k7 ((hp.same s1).p_ne hb) ((hp.same s1).cl_ne hb)
        rw [List.length_append]
        exact q7
      · intro c o hc nc
        exact k7 _ _ (k6 _ _ (k5 _ _ (s4 _ _ (k3 _ _ hc nc)) nc) (ne_of_none hc ha)) (ne_of_none (s1 _ _ hc) hb)
  rintro σ H3 ⟨ys, rfl, pm, eb, p3, k3⟩
  walk_at "go"
  exact k b ys H3 (L2.Same.free s1 hb) pm eb p3 k3
end
end Cw
set_option Elab.async false
set_option linter.all false
set_option maxRecDepth 100000
set_option maxHeartbeats 4000000
namespace Cw
open PySem PySem.Spec L2
local macro_rules | `(tactic| walk_at "side") => `(tactic| first | omega | assumption | (dsimp only; omega) | (unfold CMul; omega) | exact ⟨by decide, by decide, by decide⟩ | exact wdiv (by first | assumption | decide | omega) (by first | assumption | decide | omega) | (simp only [List.length_cons, List.length_nil]; omega) | rfl)
local macro_rules | `(tactic| walk_at "hl") => `(tactic| first | assumption | exact upd_same | ((refine Cw.Same.at (by assumption) ?_); walk_at "hl") | ((refine Cw.Keep.at (by assumption) ?_ (by assumption)); walk_at "hl"))
local macro_rules | `(tactic| walk_at "st") => `(tactic| first
  | (with_reducible refine s_seq ?_) | (with_reducible refine g_nm ?_) | (with_reducible refine s_next ?_) | (with_reducible refine s_set ?_) | (with_reducible refine s_drop ?_) | (with_reducible refine s_ret ?_) | (with_reducible refine s_if ?_)
  | ((with_reducible refine e_varG ?_); refine ⟨_, (by with_unfolding_all rfl), ?_⟩) | (with_reducible refine e_c ?_) | (with_reducible refine e_op ?_) | (with_reducible refine e_un ?_)
  | (with_reducible refine e_cons ?_) | (with_reducible refine e_nil ?_) | (with_reducible refine e_cb ?_) | (with_reducible refine e_call ?_) | (with_reducible refine e_md ?_)
  | (with_reducible refine t_test ?_) | (with_reducible refine t_B ?_) | (with_reducible refine t_and ?_) | (with_reducible refine t_or ?_) | (with_reducible refine t_not ?_)
  | (with_reducible refine e_andV ?_) | (with_reducible refine e_orV ?_) | (with_reducible refine e_notV ?_) | (with_reducible refine e_if ?_)
  | (with_reducible refine v_I0 ?_) | ((with_reducible refine v_I ?c ?_); try (case c => walk_at "side")) | (with_reducible refine v_bl ?_)
  | ((with_reducible refine v_eq ?c ?_); (case c => with_unfolding_all rfl)) | ((with_reducible refine v_ne ?c ?_); (case c => with_unfolding_all rfl))
  | (with_reducible refine v_inti ?_) | (with_reducible refine v_intb ?_) | ((with_reducible refine v_lenG ?_); refine ⟨_, (by walk_at "hl"), ?_⟩)
  | ((with_reducible refine v_lenS ?c ?_); try (case c => walk_at "side"))
  | (with_reducible refine e_dnew ?_) | (with_reducible refine e_dget ?_) | (with_reducible refine s_dput ?_) | (with_reducible refine e_lst ?_) | (with_reducible refine e_tup ?_)
  | ((with_reducible refine v_lst ?c ?_); (case c => walk_at "side")) | ((with_reducible refine v_tup ?c ?_); (case c => walk_at "side"))
  | ((with_reducible refine v_dgetG ?_); refine ⟨_, (by assumption), ?_⟩)
  | (with_reducible refine e_sl ?_) | (with_reducible refine e_nopart ?_) | (with_reducible refine e_part ?_) | (with_reducible refine e_m1 ?_) | (with_reducible refine v_isS ?_) | (with_reducible refine v_int ?_)
  | (with_reducible refine e_lc ?_) | (with_reducible refine e_iStr ?_) | (with_reducible refine e_iEnumS ?_) | (with_reducible refine v_iEnumS ?_) | (with_reducible refine v_str ?_) | (with_reducible refine e_yes ?_) | (with_reducible refine e_fld ?_) | (with_reducible refine e_sfld ?_)
  | ((with_reducible refine v_addS ?c ?_); try (case c => walk_at "side")) | (with_reducible refine v_inS ?_) | (with_reducible refine v_notInS ?_) | (with_reducible refine v_ltS ?_)
  | ((with_reducible refine v_inLG ?_); refine ⟨_, (by walk_at "hl"), ?_⟩) | (with_reducible refine v_isiS ?_) | (with_reducible refine e_revS ?_) | ((with_reducible refine v_revS ?c ?_); try (case c => walk_at "side"))
  | ((with_reducible refine v_lenSetG ?_); refine ⟨_, (by walk_at "hl"), ?_⟩)
  | (with_reducible refine e_bm ?_) | (with_reducible refine e_bm0 ?_) | ((with_reducible refine v_tyLG ?_); refine ⟨_, (by walk_at "hl"), ?_⟩)
  | (with_reducible refine iteNT ?_) | (with_reducible refine iteNF ?_) | (with_reducible refine e_for ?_)
  | (with_reducible refine e_iL ?_) | (with_reducible refine e_iT ?_) | ((with_reducible refine v_iLG ?_); refine ⟨_, (by walk_at "hl"), ?_⟩) | (with_reducible refine e_iR1 ?_) | ((with_reducible refine v_iR1 ?c1 ?c2 ?_); try (case c1 => walk_at "side"); try (case c2 => walk_at "side"))
  | (with_reducible refine e_iR2 ?_) | ((with_reducible refine v_iR2 ?c1 ?_); try (case c1 => walk_at "side"))
  | (with_reducible refine e_pr0 ?_) | (with_reducible refine e_pr ?_) | (with_reducible refine e_disp ?_) | (with_reducible refine s_asgT ?_) | (with_reducible refine e_tryA ?_) | (with_reducible refine e_callS ?_) | (with_reducible refine e_mdS ?_) | (with_reducible refine e_par ?_) | (with_reducible refine v_par ?_) | (with_reducible refine e_par3 ?_) | (with_reducible refine v_par3 ?_) | (with_reducible refine e_iK ?_) | (with_reducible refine e_dnotin ?_)
  | (with_reducible refine iteT ?_) | (with_reducible refine iteF ?_))
local macro_rules | `(tactic| walk_at "go") => `(tactic| repeat walk_at "st")
def spFloor : Sp := fun vs H Q _ => ∃ (g : Pen) (n num : Nat), vs = [.ref g.p, .int num] ∧ 1 ≤ num ∧ num ≤ 8 ∧ PenAt g H n ∧ n < 900000 ∧
  ∀ (d : Addr) (ls : List Nat) (rel : Nat → Nat → Bool) (H' : Hp), H d = none → Flr num ls rel → H' d = some (.dK (tabKV ls (crossBy ls rel))) → PenAt g H' (n + 300) → Keep g.p H H' → Q (.ref d) H'
structure TxtH (K : PySem.W.Frag) (mg : Str → Option Value) : Prop extends Txt K mg where
  range : mg "range" = none
section
variable {P : Program} {w : World} {K : PySem.W.Frag} {mg : Str → Option Value} {base : Heap}
abbrev stfloor : Stmt := (top 50)
abbrev Nfloor : List Str := ["_law_pen_here", "_law_number", "_law_letters", "_law_sort", "_law_table", "_law_item", "_law_at", "_law_far_here", "_law_is_side", "_law_is_drawn", "_law_is_often", "_law_peer"]
theorem scfloor : FnScope Nfloor ["_law_pen_here", "_law_number"] (defScope stfloor) := ⟨rfl, rfl, rfl, by decide +kernel, rfl, by decide +kernel, by decide +kernel⟩

theorem ok_floor (F : FnAt K mg "_law_floor" stfloor) (T : TxtH K mg) (D_draw : Def P w K mg base CX0 1 "_law_draw" ["_law_pen_here", "_law_number"] spDraw) (D_pick : Def P w K mg base CX0 2 "_law_pick" ["_law_pen_here", "_law_items"] spPick) : Def P w K mg base CX0 3 "_law_floor" ["_law_pen_here", "_law_number"] spFloor := by
  refine F.ok scfloor (fun _ _ _ _ _ _ us hl => match us, hl with | [_, _], _ => rfl) (fun vs H Q E h => ?_) (fun f cdv A outer s H vs Q E hr h => ?_)
  · obtain ⟨g, n, num, rfl, _⟩ := h
    rfl
  obtain ⟨g, n, num, rfl, n1, n8, hp, hn, k⟩ := h
  have hu := hu_of hr
  have nd := scfloor.nd
  replace D_draw := D_draw.mono (show 1 ≤ 2 by decide)
  refine ⟨_, (pss_cons (ps_set (i := 2) nd rfl (Or.inl rfl) (pe_slice sl_S (pe_cd D_pick hr pass0 (pa_cons (pv 0) (pa_cons (pe_lst (pa_cons (pe_tx [97, 98, 99, 100, 101, 102, 103, 104] (by decide +kernel)) (pa_cons (pe_tx [98, 100, 102, 104, 106, 108, 110, 112] (by decide +kernel)) (pa_cons (pe_tx [115, 116, 117, 118, 119, 120, 121, 122] (by decide +kernel)) pa_nil)))) pa_nil))) po_none (po_some (pe_op op_add pe_int (pe_cd D_draw hr pass0 (pa_cons (pv 0) (pa_cons (pv 1) pa_nil)))))))
      (pss_cons (ps_par (i := 3) (j := 4) (by rfl) nd rfl rfl (by decide) rfl rfl (pa_cons (pe_cd D_draw hr pass0 (pa_cons (pv 0) (pa_cons pe_int pa_nil))) (pa_cons pe_dnewK pa_nil)) (by rfl))
      (pss_cons (ps_for PassesOwn.never rfl (pi_str (pv 2)) (pg_name (i := 5) nd rfl (Or.inl rfl))
      (pss_one (ps_dput hu (pv 4) (pv 5) (pe_tx [] (by decide +kernel)) rfl)))
      (pss_cons (ps_for PassesOwn.never rfl (pi_range1 (by rfl) T.range (pa_cons (pe_callB c_lenS (by rfl) T.len PySem.boot_len (pa_cons (pv 2) pa_nil)) pa_nil)) (pg_name (i := 6) nd rfl (Or.inl rfl))
      (pss_one (ps_for PassesOwn.never rfl (pi_range2 (by rfl) T.range (pa_cons (pe_op op_add (pv 6) pe_int) (pa_cons (pe_callB c_lenS (by rfl) T.len PySem.boot_len (pa_cons (pv 2) pa_nil)) pa_nil))) (pg_name (i := 7) nd rfl (Or.inl rfl))
        (pss_cons (ps_set (i := 8) nd rfl (Or.inl rfl) (pe_cut (pe_or (pe_cmpR op_eq (pe_op op_sub (pv 7) (pv 6)) pe_int (nomark _)) (pe_one (pe_cmpR op_eq (pe_op op_sub (pv 7) (pv 6)) (pe_op op_sub (pe_callB c_lenS (by rfl) T.len PySem.boot_len (pa_cons (pv 2) pa_nil)) pe_int) (nomark _))))))
          (pss_cons (ps_set (i := 9) nd rfl (Or.inl rfl) (pe_cmpR op_eq (pe_cd D_draw hr pass0 (pa_cons (pv 0) (pa_cons pe_int pa_nil))) pe_int (nomark _)))
          (pss_cons (ps_set (i := 10) nd rfl (Or.inl rfl) (pe_cut (pe_or (pv 9) (pe_one (pe_cmpR op_eq (pe_cd D_draw hr pass0 (pa_cons (pv 0) (pa_cons pe_int pa_nil))) pe_int (nomark _))))))
          (pss_one (ps_if (pt_val (pe_ix (ix_LK (K := K) rfl) (pe_lst (pa_cons pe_bl (pa_cons pe_bl (pa_cons (pv 8) (pa_cons (pv 10) (pa_cons (pv 9) (pa_cons (pv 9) pa_nil))))))) (pv 3) (fun _ _ => rfl)))
          (pss_cons (ps_par (i := 5) (j := 11) (by rfl) nd rfl rfl (by decide) rfl rfl (pa_cons (pe_ix ix_str (pv 2) (pv 6) (fun _ _ => rfl)) (pa_cons (pe_ix ix_str (pv 2) (pv 7) (fun _ _ => rfl)) pa_nil)) (by rfl))
            (pss_cons (ps_dput hu (pv 4) (pv 5) (pe_op op_addS (pe_dget hu (pv 4) (pv 5) (fun _ _ => rfl)) (pv 11)) rfl)
            (pss_one (ps_dput hu (pv 4) (pv 11) (pe_op op_addS (pe_dget hu (pv 4) (pv 11) (fun _ _ => rfl)) (pv 5)) rfl))))
          pss_nil))))))))
      (pss_one (ps_ret (pv 4))))))), ?_⟩
  refine s_start [some _, some _, none, none, none, none, none, none, none, none, none, none] rfl ?_
  walk_at "go"
  intro q H1 hq s1 e1
  walk_at "go"
  refine ⟨g, n, q, _, rfl, e1, by decide, by decide, hp.same s1, by omega, (hp.p_ne hq).symm, fun v H2 hv p2 k2 => ?_⟩
  obtain ⟨t, ht, rfl⟩ : ∃ t ∈ ABC, v = V.str (tx t) := by
    simp only [List.mem_cons, List.not_mem_nil, or_false] at hv
    rcases hv with rfl | rfl | rfl
    · exact ⟨_, by decide, rfl⟩
    · exact ⟨_, by decide, rfl⟩
    · exact ⟨_, by decide, rfl⟩
  have tl := (abc_ok t ht).2.2.1
  walk_at "go"
  refine ⟨g, num, n + 1, rfl, by omega, by omega, p2, by omega, fun z H3 z0 z1 p3 k3 => ?_⟩
  walk_at "go"
  refine v_slTo (by omega) (by omega) ?_
  have hcut : ∃ t' ∈ ABC, ∃ m, 1 ≤ m ∧ m ≤ num ∧ t.take (1 + z).toNat = t'.take m := ⟨t, ht, (1 + z).toNat, by omega, by omega, rfl⟩
  generalize t.take (1 + z).toNat = ls at hcut ⊢
  have lnd := cut_nd hcut
  have lle := cut_len hcut
  have llt := cut_lt hcut
  walk_at "go"
  refine ⟨g, 6, n + 2, rfl, by omega, by omega, p3, by omega, fun so H4 so0 so1 p4 k4 => ?_⟩
  walk_at "go"
  intro d H5 hd s5 e5
  have kA : Keep g.p H H5 := fun b o hb nb => s5 _ _ (k4 _ _ (k3 _ _ (k2 _ _ (s1 _ _ hb) nb) nb) nb)
  have hd0 : H d = none := by
    cases z : H d with
    | none => rfl
    | some o =>
      by_cases e : d = g.p
      · exact absurd e (p4.p_ne hd).symm
      · have := k4 _ _ (k3 _ _ (k2 _ _ (s1 _ _ z) e) e) e
        rw [hd] at this
        cases this
  have ndp := (p4.p_ne hd)
  have ndc := (p4.cl_ne hd)
  have p5 := p4.same s5
  walk_at "go"
  refine for_it (walk_tx ls) (fun i σ H' => ∃ x, σ = [some (.ref g.p), some (.int num), some (.str (tx ls)), some (.int so), some (.ref d), x, none, none, none, none, none, none] ∧ PenAt g H' (n + 3) ∧ Keep g.p H H' ∧ H' d = some (.dK (tabKV (ls.take i) (crossBy ls fun _ _ => false)))) ⟨_, rfl, p5, kA, e5⟩ (fun _ _ _ _ _ => trivial) ?_ ?_
  · rintro i v σ H6 H7 hi ⟨x, rfl, p6, k6, e6⟩ ⟨rfl, rfl⟩
    walk_at "go"
    refine v_put (tab_new e6 (take_notin lnd hi) (by unfold crossBy; simp) (by rw [List.length_take]; omega)) fun H8 k8 e8 => ?_
    refine ⟨_, rfl, p6.keep k8 ndp ndc, fun b o hb nb => k8 _ _ (k6 _ _ hb nb) (ne_of_none hb hd0), ?_⟩
    rw [take_getD hi]
    exact e8
  rintro σ H6 ⟨x, rfl, p6, k6, e6⟩
  rw [List.take_of_length_le (Nat.le_refl _)] at e6
  have relA : RelOk ls fun _ _ => false := ⟨fun _ _ => rfl, fun _ _ h => by cases h⟩
  walk_at "go"
  refine for_it (walk_rI (fun i => ((i : Nat) : Int)) (fun k => Int.zero_add _)) (fun i σ H' => ∃ x1 x2 x3 x4 x5 x6 x7 rel, σ = [some (.ref g.p), some (.int num), some (.str (tx ls)), some (.int so), some (.ref d), x1, x2, x3, x4, x5, x6, x7] ∧ PenAt g H' (n + 3 + 20 * i) ∧ Keep g.p H H' ∧ RelOk ls rel ∧ Upto ls rel i 0 ∧ H' d = some (.dK (tabKV ls (crossBy ls rel)))) ⟨_, _, _, _, _, _, _, _, rfl, p6, k6, relA, fun _ _ _ _ h => (by cases h), e6⟩ (fun _ _ _ _ _ => trivial) ?_ ?_
  · rintro i v σ H7 H8 hi ⟨x1, x2, x3, x4, x5, x6, x7, rel, rfl, p7, k7, r7, u7, e7⟩ ⟨rfl, rfl⟩
    have hi' : i < ls.length := by omega
    walk_at "go"
    refine for_it (walk_rI (fun j => ((i + 1 + j : Nat) : Int)) (fun k => by omega)) (fun j σ H' => ∃ x1 x3 x4 x5 x6 x7 rel, σ = [some (.ref g.p), some (.int num), some (.str (tx ls)), some (.int so), some (.ref d), x1, some (.int (i : Nat)), x3, x4, x5, x6, x7] ∧ PenAt g H' (n + 3 + 20 * i + 2 * j) ∧ Keep g.p H H' ∧ RelOk ls rel ∧ Upto ls rel i (i + 1 + j) ∧ H' d = some (.dK (tabKV ls (crossBy ls rel)))) ⟨_, _, _, _, _, _, _, rfl, p7, k7, r7, ?_, e7⟩ (fun _ _ _ _ _ => trivial) ?_ ?_
    · intro a b h1 h2 h3
      have := u7 a b h1 h2 h3
      omega
    · rintro j v σ H9 H10 hj ⟨y1, y3, y4, y5, y6, y7, rel, rfl, p9, k9, r9, u9, e9⟩ ⟨rfl, rfl⟩
      have hj' : i + 1 + j < ls.length := by omega
      walk_at "go"
      refine e_cut (fun v H' => (∃ b, v = .bl b) ∧ H' = H10) ?_ ?_
      · walk_at "go"
        refine if_bool (fun _ => ⟨⟨_, rfl⟩, rfl⟩) (fun _ => ?_)
        walk_at "go"
        exact ⟨⟨_, rfl⟩, rfl⟩
      rintro v H11 ⟨⟨b1, rfl⟩, rfl⟩
      walk_at "go"
      refine ⟨g, 2, _, rfl, by omega, by omega, p9, by omega, fun z1 H12 _ _ p12 k12 => ?_⟩
      walk_at "go"
      refine e_cut (fun v H' => (∃ b, v = .bl b) ∧ PenAt g H' (n + 3 + 20 * i + 2 * j + 2) ∧ Keep g.p H12 H') ?_ ?_
      · walk_at "go"
        refine if_bool (fun _ => ⟨⟨_, rfl⟩, p12.mono (by omega), Keep.refl _ _⟩) (fun _ => ?_)
        walk_at "go"
        refine ⟨g, 2, _, rfl, by omega, by omega, p12, by omega, fun z2 H13 _ _ p13 k13 => ?_⟩
        walk_at "go"
        exact ⟨⟨_, rfl⟩, p13, k13⟩
      rintro v H13 ⟨⟨b2, rfl⟩, p13, k13⟩
      have e13 := k13 _ _ (k12 _ _ e9 ndp.symm) ndp.symm
      have k13' : Keep g.p H H13 := fun b o hb nb => k13 _ _ (k12 _ _ (k9 _ _ hb nb) nb) nb
      walk_at "go"
      intro q2 H14 hq2 s14 e14
      walk_at "go"
      obtain ⟨bb, hbb⟩ : ∃ bb, [V.bl false, V.bl true, V.bl b1, V.bl b2, V.bl (decide (V.int z1 = V.int 0)), V.bl (decide (V.int z1 = V.int 0))][so.toNat]? = some (V.bl bb) := by
        have : so.toNat = 0 ∨ so.toNat = 1 ∨ so.toNat = 2 ∨ so.toNat = 3 ∨ so.toNat = 4 ∨ so.toNat = 5 := by omega
        rcases this with e | e | e | e | e | e <;> rw [e] <;> exact ⟨_, rfl⟩
      refine v_ixL e14 (at_of (j := so.toNat) (by omega) hbb) ?_
      walk_at "go"
      have e15 := s14 _ _ e13
      have p15 := p13.same s14
      have k15 : Keep g.p H H14 := fun b o hb nb => s14 _ _ (k13' _ _ hb nb)
      have hx : ls.getD i 0 ∈ ls := getD_mem hi'
      have hy : ls.getD (i + 1 + j) 0 ∈ ls := getD_mem hj'
      have hxy : ls.getD (i + 1 + j) 0 ≠ ls.getD i 0 := fun z => by have := getD_inj lnd hj' hi' z; omega
      cases bb with
      | false =>
        walk_at "go"
        exact ⟨_, _, _, _, _, _, rel, rfl, p15.mono (by omega), k15, r9, u9.more, e15⟩
      | true =>
        walk_at "go"
        refine v_ixS (by omega) (at_getD hi') ?_
        walk_at "go"
        refine v_ixS (by omega) (at_getD hj') ?_
        walk_at "go"
        refine v_dget (tab_get e15 hx) ?_
        have l1 : (crossBy ls rel (ls.getD i 0)).length ≤ ls.length := List.length_filter_le _ _
        have l2 : (crossBy ls rel (ls.getD (i + 1 + j) 0)).length ≤ ls.length := List.length_filter_le _ _
        have l3 : (crossBy ls rel (ls.getD i 0)).length + [ls.getD (i + 1 + j) 0].length ≤ 1000000 := by rw [List.length_singleton]; omega
        have l4 : (crossBy ls rel (ls.getD (i + 1 + j) 0)).length + [ls.getD i 0].length ≤ 1000000 := by rw [List.length_singleton]; omega
        walk_at "go"
        refine v_put (tab_put e15 hx (by omega)) fun H16 k16 e16 => ?_
        walk_at "go"
        refine v_dget (tab_get e16 hy) ?_
        rw [if_neg hxy]
        walk_at "go"
        refine v_put (tab_put e16 hy (by omega)) fun H17 k17 e17 => ?_
        refine ⟨_, _, _, _, _, _, addRel rel (ls.getD i 0) (ls.getD (i + 1 + j) 0), rfl, ((p15.keep k16 ndp ndc).keep k17 ndp ndc).mono (by omega), fun b o hb nb => k17 _ _ (k16 _ _ (k15 _ _ hb nb) (ne_of_none hb hd0)) (ne_of_none hb hd0), r9.add hx hy hxy.symm, u9.add lnd (by omega) hj', ?_⟩
        rw [e17]
        congr 2
        refine tabKV_congr fun c hc => ?_
        rw [← tabStep lnd r9 (show i < i + 1 + j by omega) hj' u9 c hc, if_neg hxy]
    · rintro σ H9 ⟨y1, y3, y4, y5, y6, y7, rel, rfl, p9, k9, r9, u9, e9⟩
      refine ⟨_, _, _, _, _, _, _, rel, rfl, p9.mono (by omega), k9, r9, u9.turn (by omega), e9⟩
  rintro σ H7 ⟨x1, x2, x3, x4, x5, x6, x7, rel, rfl, p7, k7, r7, u7, e7⟩
  walk_at "go"
  refine k d ls rel H7 hd0 ⟨hcut, r7⟩ e7 (p7.mono (by omega)) k7
end
end Cw
set_option Elab.async false
set_option linter.all false
set_option maxRecDepth 100000
set_option maxHeartbeats 4000000
namespace Cw
open PySem PySem.Spec L2
local macro_rules | `(tactic| walk_at "side") => `(tactic| first | omega | assumption | (dsimp only; omega) | (unfold CMul; omega) | exact ⟨by decide, by decide, by decide⟩ | exact wdiv (by first | assumption | decide | omega) (by first | assumption | decide | omega) | (simp only [List.length_cons, List.length_nil]; omega) | rfl)
local macro_rules | `(tactic| walk_at "hl") => `(tactic| first | assumption | exact upd_same | ((refine Cw.Same.at (by assumption) ?_); walk_at "hl") | ((refine Cw.Keep.at (by assumption) ?_ (by assumption)); walk_at "hl"))
local macro_rules | `(tactic| walk_at "st") => `(tactic| first
  | (with_reducible refine s_seq ?_) | (with_reducible refine g_nm ?_) | (with_reducible refine s_next ?_) | (with_reducible refine s_set ?_) | (with_reducible refine s_drop ?_) | (with_reducible refine s_ret ?_) | (with_reducible refine s_if ?_)
  | ((with_reducible refine e_varG ?_); refine ⟨_, (by with_unfolding_all rfl), ?_⟩) | (with_reducible refine e_c ?_) | (with_reducible refine e_op ?_) | (with_reducible refine e_un ?_)
  | (with_reducible refine e_cons ?_) | (with_reducible refine e_nil ?_) | (with_reducible refine e_cb ?_) | (with_reducible refine e_call ?_) | (with_reducible refine e_md ?_)
  | (with_reducible refine t_test ?_) | (with_reducible refine t_B ?_) | (with_reducible refine t_and ?_) | (with_reducible refine t_or ?_) | (with_reducible refine t_not ?_)
  | (with_reducible refine e_andV ?_) | (with_reducible refine e_orV ?_) | (with_reducible refine e_notV ?_) | (with_reducible refine e_if ?_)
  | (with_reducible refine v_I0 ?_) | ((with_reducible refine v_I ?c ?_); try (case c => walk_at "side")) | (with_reducible refine v_bl ?_)
  | ((with_reducible refine v_eq ?c ?_); (case c => with_unfolding_all rfl)) | ((with_reducible refine v_ne ?c ?_); (case c => with_unfolding_all rfl))
  | (with_reducible refine v_inti ?_) | (with_reducible refine v_intb ?_) | ((with_reducible refine v_lenG ?_); refine ⟨_, (by walk_at "hl"), ?_⟩)
  | ((with_reducible refine v_lenS ?c ?_); try (case c => walk_at "side"))
  | (with_reducible refine e_dnew ?_) | (with_reducible refine e_dget ?_) | (with_reducible refine s_dput ?_) | (with_reducible refine e_lst ?_) | (with_reducible refine e_tup ?_)
  | ((with_reducible refine v_lst ?c ?_); (case c => walk_at "side")) | ((with_reducible refine v_tup ?c ?_); (case c => walk_at "side"))
  | ((with_reducible refine v_dgetG ?_); refine ⟨_, (by assumption), ?_⟩)
  | (with_reducible refine e_sl ?_) | (with_reducible refine e_nopart ?_) | (with_reducible refine e_part ?_) | (with_reducible refine e_m1 ?_) | (with_reducible refine v_isS ?_) | (with_reducible refine v_int ?_)
  | (with_reducible refine e_lc ?_) | (with_reducible refine e_iStr ?_) | (with_reducible refine e_iEnumS ?_) | (with_reducible refine v_iEnumS ?_) | (with_reducible refine v_str ?_) | (with_reducible refine e_yes ?_) | (with_reducible refine e_fld ?_) | (with_reducible refine e_sfld ?_)
  | ((with_reducible refine v_addS ?c ?_); try (case c => walk_at "side")) | (with_reducible refine v_inS ?_) | (with_reducible refine v_notInS ?_) | (with_reducible refine v_ltS ?_)
  | ((with_reducible refine v_inLG ?_); refine ⟨_, (by walk_at "hl"), ?_⟩) | (with_reducible refine v_isiS ?_) | (with_reducible refine e_revS ?_) | ((with_reducible refine v_revS ?c ?_); try (case c => walk_at "side"))
  | ((with_reducible refine v_lenSetG ?_); refine ⟨_, (by walk_at "hl"), ?_⟩)
  | (with_reducible refine e_bm ?_) | (with_reducible refine e_bm0 ?_) | ((with_reducible refine v_tyLG ?_); refine ⟨_, (by walk_at "hl"), ?_⟩)
  | (with_reducible refine iteNT ?_) | (with_reducible refine iteNF ?_) | (with_reducible refine e_for ?_)
  | (with_reducible refine e_iL ?_) | (with_reducible refine e_iT ?_) | ((with_reducible refine v_iLG ?_); refine ⟨_, (by walk_at "hl"), ?_⟩) | (with_reducible refine e_iR1 ?_) | ((with_reducible refine v_iR1 ?c1 ?c2 ?_); try (case c1 => walk_at "side"); try (case c2 => walk_at "side"))
  | (with_reducible refine e_iR2 ?_) | ((with_reducible refine v_iR2 ?c1 ?_); try (case c1 => walk_at "side"))
  | (with_reducible refine e_pr0 ?_) | (with_reducible refine e_pr ?_) | (with_reducible refine e_disp ?_) | (with_reducible refine s_asgT ?_) | (with_reducible refine e_tryA ?_) | (with_reducible refine e_callS ?_) | (with_reducible refine e_mdS ?_) | (with_reducible refine e_par ?_) | (with_reducible refine v_par ?_) | (with_reducible refine e_par3 ?_) | (with_reducible refine v_par3 ?_) | (with_reducible refine e_iK ?_) | (with_reducible refine e_dnotin ?_)
  | (with_reducible refine iteT ?_) | (with_reducible refine iteF ?_))
local macro_rules | `(tactic| walk_at "go") => `(tactic| repeat walk_at "st")
structure TxtV (K : PySem.W.Frag) (mg : Str → Option Value) : Prop extends TxtH K mg where
  tuple : mg "tuple" = none
  min : mg "min" = none
  dict : mg "dict" = none
def spUnits : Sp := fun vs H Q _ => ∃ (d : Addr) (ls : List Nat) (f : Nat → List Nat), vs = [.ref d] ∧ H d = some (.dK (tabKV ls f)) ∧ Tab ls f ∧ ∀ m H', H m = none → MarksAt H' m ls (fun c x => unit x c) → Same H H' → Q (.ref m) H'
def spThrough : Sp := fun vs H Q _ => ∃ (d m : Addr) (ls : List Nat) (f : Nat → List Nat) (M : Nat → Nat → Int) (k : Nat), vs = [.ref d, .ref m, .str (tx [k])] ∧ H d = some (.dK (tabKV ls f)) ∧ Tab ls f ∧ k ∈ ls ∧ MarksAt H m ls M ∧
  ∀ m' H', H m' = none → MarksAt H' m' ls (fun c x => thr f k (fun e => M e x) c) → Same H H' → Q (.ref m') H'
section
variable {P : Program} {w : World} {K : PySem.W.Frag} {mg : Str → Option Value} {base : Heap}
abbrev stunits : Stmt := (top 54)
abbrev Nunits : List Str := ["_law_table", "_law_letters", "_law_found", "_law_item", "_law_each"]
theorem scunits : FnScope Nunits ["_law_table"] (defScope stunits) := ⟨rfl, rfl, rfl, by decide +kernel, rfl, by decide +kernel, by decide +kernel⟩

theorem ok_units (F : FnAt K mg "_law_units" stunits) (T : TxtV K mg) : Def P w K mg base CX0 1 "_law_units" ["_law_table"] spUnits := by
  refine F.ok scunits (fun _ _ _ _ _ _ us hl => match us, hl with | [_], _ => rfl) (fun vs H Q E h => ?_) (fun f cdv A outer s H vs Q E hr h => ?_)
  · obtain ⟨d, ls, f, rfl, _⟩ := h
    rfl
  obtain ⟨d, ls, fn, rfl, hd, tab, k⟩ := h
  have hu := hu_of hr
  have nd := scunits.nd
  have tl := tab.len
  refine ⟨_, (pss_cons (ps_par (i := 1) (j := 2) (by rfl) nd rfl rfl (by decide) rfl rfl (pa_cons (pe_callTy (call_list_dK rfl) (by rfl) T.list (by decide +kernel) (pa_cons (pv 0) pa_nil)) (pa_cons pe_dnewK pa_nil)) (by rfl))
      (pss_cons (ps_for PassesOwn.never rfl (pi_listK (K := K) rfl (pv 1)) (pg_name (i := 3) nd rfl (Or.inr rfl))
      (pss_one (ps_dput hu (pv 2) (pv 3) (pe_callTy (c_tupleK (K := K) rfl) (by rfl) T.tuple (by decide +kernel) (pa_cons (pe_lc (own := [("_law_each", 4)]) (g := gName 4) (by rfl) nd (pi_listK (K := K) rfl (pv 1)) (blkOk_by (own := [("_law_each", 4)]) (N := Nunits) (sc := defScope stunits) (by decide +kernel)) (fun _ _ _ _ _ => (pg_name (i := 4) nd rfl (Or.inl rfl))) (fun _ _ _ _ _ => pts_nil) (fun _ _ _ _ _ => (pe_callTy c_int (by rfl) T.int (by decide +kernel) (pa_cons (pe_cmpR op_eq (pv 3) (pv 4) (nomark _)) pa_nil)))) pa_nil)) rfl)))
      (pss_one (ps_ret (pv 2))))), ?_⟩
  refine s_start [some _, none, none, none, none] rfl ?_
  walk_at "go"
  refine v_listD hd fun l H1 hl s1 e1 => ?_
  rw [tab_keys] at e1
  walk_at "go"
  intro m H2 hm s2 e2
  have e1' := s2 _ _ e1
  walk_at "go"
  refine for_it (walk_listM (ls := ls) (f := fun c => V.str (tx [c]))) (fun i σ H' => ∃ x A, σ = [some (.ref d), some (.ref l), some (.ref m), x, none] ∧ (∀ b o, H1 b = some o → H' b = some o) ∧ H' m = some (.dK (marksKV (ls.take i) A)) ∧ ∀ c ∈ ls.take i, H' (A c) = some (.tup (vecV ls fun x => unit x c))) ⟨_, fun _ => 0, rfl, s2, e2, by simp⟩ ?_ ?_ ?_
  · rintro i σ H' _ ⟨x, A, rfl, k1, _⟩
    exact SqL.of (k1 _ _ e1)
  · rintro i v σ H3 H4 hi ⟨x, A, rfl, k3, m3, t3⟩ ⟨rfl, hv⟩
    have hx : ls.getD i 0 ∈ ls := getD_mem hi
    obtain ⟨c, hc⟩ : ∃ c, ls.getD i 0 = c := ⟨_, rfl⟩
    obtain rfl : v = V.str (tx [c]) := by rw [← hc]; exact hv
    rw [hc] at hx
    have e3 := k3 _ _ e1
    walk_at "go"
    refine vals_all (ls := ls) (it := fun c => V.str (tx [c])) (f := fun x => V.int (unit x c)) (walk_listM (ls := ls) (f := fun c => V.str (tx [c]))) (fun H' s' => SqL.of (s' _ _ e3)) (by omega) (fun y hy H5 s5 R r => ?_) (fun y hy H5 s5 R r => ?_) (fun D H5 hD s5 e5 => ?_)
    · exact r H5 (Same.refl _)
    · walk_at "go"
      have e : (if decide (V.str (tx [c]) = V.str (tx [y])) = true then (1 : Int) else 0) = unit y c := by
        rw [dec_tx]
        unfold unit
        by_cases e : c = y
        · rw [if_pos e, e]
          simp
        · rw [if_neg e]
          simp [e]
      rw [e]
      exact r H5 (Same.refl _)
    walk_at "go"
    refine v_tuple e5 fun t H6 ht s6 e6 => ?_
    have m6 := s6 _ _ (s5 _ _ m3)
    walk_at "go"
    have hn : ¬ c ∈ ls.take i := hc ▸ take_notin tab.nd hi
    refine v_put (marks_new m6 hn (by rw [List.length_take]; omega)) fun H7 k7 e7 => ?_
    refine ⟨_, _, rfl, fun b o hb => k7 _ _ (s6 _ _ (s5 _ _ (k3 _ _ hb))) (ne_of_none hb hm), by rw [take_getD hi, hc]; exact e7, ?_⟩
    intro y hy
    rw [take_getD hi, hc, List.mem_append, List.mem_singleton] at hy
    have ntm : t ≠ m := (ne_of_none (s5 _ _ m3) ht).symm
    by_cases e : y = c
    · rw [if_pos e, e]
      exact k7 _ _ e6 ntm
    · rw [if_neg e]
      have hy := hy.resolve_right e
      have := t3 y hy
      exact k7 _ _ (s6 _ _ (s5 _ _ this)) (ne_of this m3 (by intro z; cases z))
  rintro σ H3 ⟨x, A, rfl, k3, m3, t3⟩
  rw [List.take_of_length_le (Nat.le_refl _)] at m3 t3
  have hm1 : H m = none := by
    cases z : H m with
    | none => rfl
    | some o => have := s1 _ _ z; rw [hm] at this; cases this
  walk_at "go"
  exact k m H3 hm1 ⟨A, m3, t3⟩ fun b o hb => k3 _ _ (s1 _ _ hb)
end
end Cw
set_option Elab.async false
set_option linter.all false
set_option maxRecDepth 100000
set_option maxHeartbeats 4000000
namespace Cw
open PySem PySem.Spec L2
local macro_rules | `(tactic| walk_at "side") => `(tactic| first | omega | assumption | (dsimp only; omega) | (unfold CMul; omega) | exact ⟨by decide, by decide, by decide⟩ | exact wdiv (by first | assumption | decide | omega) (by first | assumption | decide | omega) | (simp only [List.length_cons, List.length_nil]; omega) | rfl)
local macro_rules | `(tactic| walk_at "hl") => `(tactic| first | assumption | exact upd_same | ((refine Cw.Same.at (by assumption) ?_); walk_at "hl") | ((refine Cw.Keep.at (by assumption) ?_ (by assumption)); walk_at "hl"))
local macro_rules | `(tactic| walk_at "st") => `(tactic| first
  | (with_reducible refine s_seq ?_) | (with_reducible refine g_nm ?_) | (with_reducible refine s_next ?_) | (with_reducible refine s_set ?_) | (with_reducible refine s_drop ?_) | (with_reducible refine s_ret ?_) | (with_reducible refine s_if ?_)
  | ((with_reducible refine e_varG ?_); refine ⟨_, (by with_unfolding_all rfl), ?_⟩) | (with_reducible refine e_c ?_) | (with_reducible refine e_op ?_) | (with_reducible refine e_un ?_)
  | (with_reducible refine e_cons ?_) | (with_reducible refine e_nil ?_) | (with_reducible refine e_cb ?_) | (with_reducible refine e_call ?_) | (with_reducible refine e_md ?_)
  | (with_reducible refine t_test ?_) | (with_reducible refine t_B ?_) | (with_reducible refine t_and ?_) | (with_reducible refine t_or ?_) | (with_reducible refine t_not ?_)
  | (with_reducible refine e_andV ?_) | (with_reducible refine e_orV ?_) | (with_reducible refine e_notV ?_) | (with_reducible refine e_if ?_)
  | (with_reducible refine v_I0 ?_) | ((with_reducible refine v_I ?c ?_); try (case c => walk_at "side")) | (with_reducible refine v_bl ?_)
  | ((with_reducible refine v_eq ?c ?_); (case c => with_unfolding_all rfl)) | ((with_reducible refine v_ne ?c ?_); (case c => with_unfolding_all rfl))
  | (with_reducible refine v_inti ?_) | (with_reducible refine v_intb ?_) | ((with_reducible refine v_lenG ?_); refine ⟨_, (by walk_at "hl"), ?_⟩)
  | ((with_reducible refine v_lenS ?c ?_); try (case c => walk_at "side"))
  | (with_reducible refine e_dnew ?_) | (with_reducible refine e_dget ?_) | (with_reducible refine s_dput ?_) | (with_reducible refine e_lst ?_) | (with_reducible refine e_tup ?_)
  | ((with_reducible refine v_lst ?c ?_); (case c => walk_at "side")) | ((with_reducible refine v_tup ?c ?_); (case c => walk_at "side"))
  | ((with_reducible refine v_dgetG ?_); refine ⟨_, (by assumption), ?_⟩)
  | (with_reducible refine e_sl ?_) | (with_reducible refine e_nopart ?_) | (with_reducible refine e_part ?_) | (with_reducible refine e_m1 ?_) | (with_reducible refine v_isS ?_) | (with_reducible refine v_int ?_)
  | (with_reducible refine e_lc ?_) | (with_reducible refine e_iStr ?_) | (with_reducible refine e_iEnumS ?_) | (with_reducible refine v_iEnumS ?_) | (with_reducible refine v_str ?_) | (with_reducible refine e_yes ?_) | (with_reducible refine e_fld ?_) | (with_reducible refine e_sfld ?_)
  | ((with_reducible refine v_addS ?c ?_); try (case c => walk_at "side")) | (with_reducible refine v_inS ?_) | (with_reducible refine v_notInS ?_) | (with_reducible refine v_ltS ?_)
  | ((with_reducible refine v_inLG ?_); refine ⟨_, (by walk_at "hl"), ?_⟩) | (with_reducible refine v_isiS ?_) | (with_reducible refine e_revS ?_) | ((with_reducible refine v_revS ?c ?_); try (case c => walk_at "side"))
  | ((with_reducible refine v_lenSetG ?_); refine ⟨_, (by walk_at "hl"), ?_⟩)
  | (with_reducible refine e_bm ?_) | (with_reducible refine e_bm0 ?_) | ((with_reducible refine v_tyLG ?_); refine ⟨_, (by walk_at "hl"), ?_⟩)
  | (with_reducible refine iteNT ?_) | (with_reducible refine iteNF ?_) | (with_reducible refine e_for ?_)
  | (with_reducible refine e_iL ?_) | (with_reducible refine e_iT ?_) | ((with_reducible refine v_iLG ?_); refine ⟨_, (by walk_at "hl"), ?_⟩) | (with_reducible refine e_iR1 ?_) | ((with_reducible refine v_iR1 ?c1 ?c2 ?_); try (case c1 => walk_at "side"); try (case c2 => walk_at "side"))
  | (with_reducible refine e_iR2 ?_) | ((with_reducible refine v_iR2 ?c1 ?_); try (case c1 => walk_at "side"))
  | (with_reducible refine e_pr0 ?_) | (with_reducible refine e_pr ?_) | (with_reducible refine e_disp ?_) | (with_reducible refine s_asgT ?_) | (with_reducible refine e_tryA ?_) | (with_reducible refine e_callS ?_) | (with_reducible refine e_mdS ?_) | (with_reducible refine e_par ?_) | (with_reducible refine v_par ?_) | (with_reducible refine e_par3 ?_) | (with_reducible refine v_par3 ?_) | (with_reducible refine e_iK ?_) | (with_reducible refine e_dnotin ?_)
  | (with_reducible refine iteT ?_) | (with_reducible refine iteF ?_))
local macro_rules | `(tactic| walk_at "go") => `(tactic| repeat walk_at "st")
section
variable {P : Program} {w : World} {K : PySem.W.Frag} {mg : Str → Option Value} {base : Heap}
abbrev stthrough : Stmt := (top 55)
abbrev Nthrough : List Str := ["_law_table", "_law_marks_here", "_law_door", "_law_own", "_law_found", "_law_each", "_law_number", "_law_at"]
theorem scthrough : FnScope Nthrough ["_law_table", "_law_marks_here", "_law_door"] (defScope stthrough) := ⟨rfl, rfl, rfl, by decide +kernel, rfl, by decide +kernel, by decide +kernel⟩

theorem ok_through (F : FnAt K mg "_law_through" stthrough) (T : TxtV K mg) : Def P w K mg base CX0 1 "_law_through" ["_law_table", "_law_marks_here", "_law_door"] spThrough := by
  refine F.ok scthrough (fun _ _ _ _ _ _ us hl => match us, hl with | [_, _, _], _ => rfl) (fun vs H Q E h => ?_) (fun f cdv A outer s H vs Q E hr h => ?_)
  · obtain ⟨d, m, ls, f, M, k, rfl, _⟩ := h
    rfl
  obtain ⟨d, m, ls, fn, M, kk, rfl, hd, tab, hk, hM, k⟩ := h
  have hu := hu_of hr
  have nd := scthrough.nd
  have tl := tab.len
  obtain ⟨A0, hm, hA⟩ := hM.ex
  refine ⟨_, (pss_cons (ps_asg (pe_tup (pa_cons (pe_dget hu (pv 1) (pv 2) (fun _ _ => rfl)) (pa_cons pe_dnewK pa_nil))) (pg_tup rfl (pgs_cons (pg_name (i := 3) nd rfl (Or.inr rfl)) (pgs_cons (pg_name (i := 4) nd rfl (Or.inl rfl)) pgs_nil))))
      (pss_cons (ps_lock (ps_for PassesOwn.never rfl (pi_keys (pv 1)) (pg_name (i := 5) nd rfl (Or.inr rfl))
      (pss_one (ps_if (pt_cmpR op_eq (pv 5) (pv 2) (nomark _))
        (pss_one (ps_dput hu (pv 4) (pv 5) (pe_callTy (c_tupleK (K := K) rfl) (by rfl) T.tuple (by decide +kernel) (pa_cons (pe_lc (own := [("_law_number", 6)]) (g := gName 6) (by rfl) nd (pi_tupK (K := K) rfl (pv 3)) (blkOk_by (own := [("_law_number", 6)]) (N := Nthrough) (sc := defScope stthrough) (by decide +kernel)) (fun _ _ _ _ _ => (pg_name (i := 6) nd rfl (Or.inl rfl))) (fun _ _ _ _ _ => pts_nil) (fun _ _ _ _ _ => (pe_un un_neg (pv 6)))) pa_nil)) rfl))
        (pss_one (ps_if (pt_cmpR op_inS (pv 5) (pe_dget hu (pv 0) (pv 2) (fun _ _ => rfl)) (by rfl))
          (pss_one (ps_dput hu (pv 4) (pv 5) (pe_dget hu (pv 1) (pv 5) (fun _ _ => rfl)) rfl))
          (pss_one (ps_dput hu (pv 4) (pv 5) (pe_callTy (c_tupleK (K := K) rfl) (by rfl) T.tuple (by decide +kernel) (pa_cons (pe_lc (own := [("_law_at", 7)]) (g := gName 7) (by rfl) nd (pi_range1 (by rfl) T.range (pa_cons (pe_callB (c_lenK (K := K) rfl) (by rfl) T.len PySem.boot_len (pa_cons (pv 3) pa_nil)) pa_nil)) (blkOk_by (own := [("_law_at", 7)]) (N := Nthrough) (sc := defScope stthrough) (by decide +kernel)) (fun _ _ _ _ _ => (pg_name (i := 7) nd rfl (Or.inl rfl))) (fun _ _ _ _ _ => pts_nil) (fun _ _ _ _ _ => (pe_op op_add (pe_ix (ix_TK (K := K) rfl) (pe_dget hu (pv 1) (pv 5) (fun _ _ => rfl)) (pv 7) (fun _ _ => rfl)) (pe_op op_mul pe_int (pe_ix (ix_TK (K := K) rfl) (pv 3) (pv 7) (fun _ _ => rfl)))))) pa_nil)) rfl))))))))
      (pss_one (ps_ret (pv 4))))), ?_⟩
  refine s_start [some _, some _, some _, none, none, none, none, none] rfl ?_
  walk_at "go"
  refine v_dget (marks_get hm hk) ?_
  walk_at "go"
  intro q H1 hq s1 e1
  walk_at "go"
  intro t H2 ht s2 e2
  refine v_gTup2 rfl e2 ?_
  have s12 := s1.trans s2
  have hm2 := s12 _ _ hm
  walk_at "go"
  refine e_lock hm2 trivial fun od => ?_
  have nqm : q ≠ m := (ne_of_none hm hq).symm
  have ndm : d ≠ m := by
    intro z
    rw [z, hm] at hd
    injection hd with hd
    injection hd with hd
    cases ls with
    | nil => cases hk
    | cons c r =>
      unfold marksKV tabKV at hd
      rw [List.map_cons, List.map_cons] at hd
      injection hd with hd _
      injection hd with _ hd
      cases hd
  have nqd : q ≠ d := (ne_of_none hd hq).symm
  have nAm : ∀ c ∈ ls, A0 c ≠ m := fun c hc => ne_of (hA c hc) hm (by intro z; cases z)
  have nAq : ∀ c ∈ ls, A0 c ≠ q := fun c hc => ne_of_none (hA c hc) hq
  walk_at "go"
  refine ⟨m, od, rfl, .inl ⟨_, upd_same, ?_⟩⟩
  refine for_it walk_let (fun i σ H' => ∃ x B, σ = [some (.ref d), some (.ref m), some (.str (tx [kk])), some (.ref (A0 kk)), some (.ref q), x, none, none] ∧ (∀ b o, H b = some o → b ≠ m → H' b = some o) ∧ H' m = some (.frz od (.dK (marksKV ls A0))) ∧ H' q = some (.dK (marksKV (ls.take i) B)) ∧ ∀ c ∈ ls.take i, H' (B c) = some (.tup (vecV ls fun x => thr fn kk (fun e => M e x) c)))
    ⟨_, fun _ => 0, rfl, fun b o hb nb => by rw [upd_ne nb]; exact s12 _ _ hb, upd_same, by rw [upd_ne nqm]; exact s2 _ _ e1, by simp⟩ ?_ ?_ ?_
  · rintro i σ H' _ ⟨x, B, rfl, _, h, _⟩
    exact h
  · rintro i v σ H3 H4 hi ⟨x, B, rfl, k3, m3, q3, t3⟩ ⟨rfl, hv⟩
    have hx : ls.getD i 0 ∈ ls := getD_mem hi
    obtain ⟨c, hc⟩ : ∃ c, ls.getD i 0 = c := ⟨_, rfl⟩
    obtain rfl : v = V.str (tx [c]) := by rw [← hc]; exact hv
    rw [hc] at hx
    have hn : ¬ c ∈ ls.take i := hc ▸ take_notin tab.nd hi
    have hown := k3 _ _ (hA kk hk) (nAm kk hk)
    have hcA := k3 _ _ (hA c hx) (nAm c hx)
    have fin : ∀ (H5 H6 : Hp) (p : Addr), Same H4 H5 → H5 p = some (.tup (vecV ls fun x => thr fn kk (fun e => M e x) c)) → Keep q H5 H6 → H6 q = some (.dK (marksKV (ls.take i ++ [c]) fun y => if y = c then p else B y)) →
        ∃ x B, [some (V.ref d), some (V.ref m), some (V.str (tx [kk])), some (V.ref (A0 kk)), some (V.ref q), some (V.str (tx [c])), none, none] = [some (.ref d), some (.ref m), some (.str (tx [kk])), some (.ref (A0 kk)), some (.ref q), x, none, none] ∧ (∀ b o, H b = some o → b ≠ m → H6 b = some o) ∧ H6 m = some (.frz od (.dK (marksKV ls A0))) ∧ H6 q = some (.dK (marksKV (ls.take (i + 1)) B)) ∧ ∀ c ∈ ls.take (i + 1), H6 (B c) = some (.tup (vecV ls fun x => thr fn kk (fun e => M e x) c)) := by
      intro H5 H6 p s5 e5 k6 e6
      have q5 := s5 _ _ q3
      refine ⟨_, _, rfl, fun b o hb nb => k6 _ _ (s5 _ _ (k3 _ _ hb nb)) (ne_of_none hb hq), k6 _ _ (s5 _ _ m3) nqm.symm, by rw [take_getD hi, hc]; exact e6, ?_⟩
      intro y hy
      rw [take_getD hi, hc, List.mem_append, List.mem_singleton] at hy
      by_cases e : y = c
      · rw [if_pos e, e]
        exact k6 _ _ e5 (ne_of e5 q5 (by intro z; cases z))
      · rw [if_neg e]
        have := t3 y (hy.resolve_right e)
        exact k6 _ _ (s5 _ _ this) (ne_of this q3 (by intro z; cases z))
    walk_at "go"
    rw [dec_tx]
    refine if_dec (fun c1 => ?_) (fun c1 => ?_)
    · have c1 : c = kk := by
        injection c1
      walk_at "go"
      refine v_iT hown ?_
      refine vals_all (ls := ls) (it := fun x => V.int (M kk x)) (f := fun x => V.int (- M kk x)) (walk_tupM (ls := ls) (f := fun x => V.int (M kk x))) (fun H' s' => SqT.of (s' _ _ hown)) (by omega) (fun y hy H5 s5 R r => ?_) (fun y hy H5 s5 R r => ?_) (fun D H5 hD s5 e5 => ?_)
      · exact r H5 (Same.refl _)
      · walk_at "go"
        exact ⟨_, rfl, r H5 (Same.refl _)⟩
      walk_at "go"
      refine v_tuple e5 fun p H6 hp s6 e6 => ?_
      have q6 := s6 _ _ (s5 _ _ q3)
      walk_at "go"
      refine v_put (marks_new q6 hn (by rw [List.length_take]; omega)) fun H7 k7 e7 => ?_
      refine fin H6 H7 p (s5.trans s6) ?_ k7 e7
      rw [e6]
      congr 2
      refine List.map_congr_left fun x _ => ?_
      show _ = V.int (thr fn kk (fun e => M e x) c)
      rw [c1, thr_self]
    · have c1 : c ≠ kk := fun z => c1 (by rw [z])
      walk_at "go"
      refine v_dget (tab_get (k3 _ _ hd ndm) hk) ?_
      walk_at "go"
      refine if_dec (fun c2 => ?_) (fun c2 => ?_)
      · walk_at "go"
        refine v_dget (marks_getF m3 hx) ?_
        walk_at "go"
        refine v_put (marks_new q3 hn (by rw [List.length_take]; omega)) fun H7 k7 e7 => ?_
        refine fin H4 H7 (A0 c) (Same.refl _) ?_ k7 e7
        rw [hcA]
        congr 2
        refine List.map_congr_left fun x _ => ?_
        show _ = V.int (thr fn kk (fun e => M e x) c)
        unfold thr
        rw [if_neg c1, if_pos c2]
      · walk_at "go"
        refine v_lenT hown ?_
        rw [vecV_len]
        walk_at "go"
        refine vals_rng (ls := ls) (f := fun x => V.int (M c x + 2 * M kk x)) (by omega) (fun j hj H5 s5 R r => ?_) (fun j hj H5 s5 R r => ?_) (fun D H5 hD s5 e5 => ?_)
        · exact r H5 (Same.refl _)
        · walk_at "go"
          refine v_dget (marks_getF (s5 _ _ m3) hx) ?_
          walk_at "go"
          refine v_ixT (s5 _ _ hcA) (at_vec hj) ?_
          walk_at "go"
          refine v_ixT (s5 _ _ hown) (at_vec hj) ?_
          walk_at "go"
          exact r H5 (Same.refl _)
        walk_at "go"
        refine v_tuple e5 fun p H6 hp s6 e6 => ?_
        have q6 := s6 _ _ (s5 _ _ q3)
        walk_at "go"
        refine v_put (marks_new q6 hn (by rw [List.length_take]; omega)) fun H7 k7 e7 => ?_
        refine fin H6 H7 p (s5.trans s6) ?_ k7 e7
        rw [e6]
        congr 2
        refine List.map_congr_left fun x _ => ?_
        show _ = V.int (thr fn kk (fun e => M e x) c)
        rw [thr_not c1 c2]
  rintro σ H3 ⟨x, B, rfl, k3, m3, q3, t3⟩
  rw [List.take_of_length_le (Nat.le_refl _)] at q3 t3
  refine ⟨m3, ?_⟩
  walk_at "go"
  refine k q _ hq ⟨B, by rw [upd_ne nqm]; exact q3, fun c hc => ?_⟩ fun b o hb => ?_
  · have := t3 c hc
    rw [upd_ne (ne_of this m3 (by intro z; cases z))]
    exact this
  · by_cases e : b = m
    · rw [e, upd_same, ← hb, e, hm]
    · rw [upd_ne e]
      exact k3 _ _ hb e
end
end Cw
set_option Elab.async false
set_option linter.all false
set_option maxRecDepth 100000
set_option maxHeartbeats 4000000
namespace Cw
open PySem PySem.Spec L2
local macro_rules | `(tactic| walk_at "side") => `(tactic| first | omega | assumption | (dsimp only; omega) | (unfold CMul; omega) | exact ⟨by decide, by decide, by decide⟩ | exact wdiv (by first | assumption | decide | omega) (by first | assumption | decide | omega) | (simp only [List.length_cons, List.length_nil]; omega) | rfl)
local macro_rules | `(tactic| walk_at "hl") => `(tactic| first | assumption | exact upd_same | ((refine Cw.Same.at (by assumption) ?_); walk_at "hl") | ((refine Cw.Keep.at (by assumption) ?_ (by assumption)); walk_at "hl"))
local macro_rules | `(tactic| walk_at "st") => `(tactic| first
  | (with_reducible refine s_seq ?_) | (with_reducible refine g_nm ?_) | (with_reducible refine s_next ?_) | (with_reducible refine s_set ?_) | (with_reducible refine s_drop ?_) | (with_reducible refine s_ret ?_) | (with_reducible refine s_if ?_)
  | ((with_reducible refine e_varG ?_); refine ⟨_, (by with_unfolding_all rfl), ?_⟩) | (with_reducible refine e_c ?_) | (with_reducible refine e_op ?_) | (with_reducible refine e_un ?_)
  | (with_reducible refine e_cons ?_) | (with_reducible refine e_nil ?_) | (with_reducible refine e_cb ?_) | (with_reducible refine e_call ?_) | (with_reducible refine e_md ?_)
  | (with_reducible refine t_test ?_) | (with_reducible refine t_B ?_) | (with_reducible refine t_and ?_) | (with_reducible refine t_or ?_) | (with_reducible refine t_not ?_)
  | (with_reducible refine e_andV ?_) | (with_reducible refine e_orV ?_) | (with_reducible refine e_notV ?_) | (with_reducible refine e_if ?_)
  | (with_reducible refine v_I0 ?_) | ((with_reducible refine v_I ?c ?_); try (case c => walk_at "side")) | (with_reducible refine v_bl ?_)
  | ((with_reducible refine v_eq ?c ?_); (case c => with_unfolding_all rfl)) | ((with_reducible refine v_ne ?c ?_); (case c => with_unfolding_all rfl))
  | (with_reducible refine v_inti ?_) | (with_reducible refine v_intb ?_) | ((with_reducible refine v_lenG ?_); refine ⟨_, (by walk_at "hl"), ?_⟩)
  | ((with_reducible refine v_lenS ?c ?_); try (case c => walk_at "side"))
  | (with_reducible refine e_dnew ?_) | (with_reducible refine e_dget ?_) | (with_reducible refine s_dput ?_) | (with_reducible refine e_lst ?_) | (with_reducible refine e_tup ?_)
  | ((with_reducible refine v_lst ?c ?_); (case c => walk_at "side")) | ((with_reducible refine v_tup ?c ?_); (case c => walk_at "side"))
  | ((with_reducible refine v_dgetG ?_); refine ⟨_, (by assumption), ?_⟩)
  | (with_reducible refine e_sl ?_) | (with_reducible refine e_nopart ?_) | (with_reducible refine e_part ?_) | (with_reducible refine e_m1 ?_) | (with_reducible refine v_isS ?_) | (with_reducible refine v_int ?_)
  | (with_reducible refine e_lc ?_) | (with_reducible refine e_iStr ?_) | (with_reducible refine e_iEnumS ?_) | (with_reducible refine v_iEnumS ?_) | (with_reducible refine v_str ?_) | (with_reducible refine e_yes ?_) | (with_reducible refine e_fld ?_) | (with_reducible refine e_sfld ?_)
  | ((with_reducible refine v_addS ?c ?_); try (case c => walk_at "side")) | (with_reducible refine v_inS ?_) | (with_reducible refine v_notInS ?_) | (with_reducible refine v_ltS ?_)
  | ((with_reducible refine v_inLG ?_); refine ⟨_, (by walk_at "hl"), ?_⟩) | (with_reducible refine v_isiS ?_) | (with_reducible refine e_revS ?_) | ((with_reducible refine v_revS ?c ?_); try (case c => walk_at "side"))
  | ((with_reducible refine v_lenSetG ?_); refine ⟨_, (by walk_at "hl"), ?_⟩)
  | (with_reducible refine e_bm ?_) | (with_reducible refine e_bm0 ?_) | ((with_reducible refine v_tyLG ?_); refine ⟨_, (by walk_at "hl"), ?_⟩)
  | (with_reducible refine iteNT ?_) | (with_reducible refine iteNF ?_) | (with_reducible refine e_for ?_)
  | (with_reducible refine e_iL ?_) | (with_reducible refine e_iT ?_) | ((with_reducible refine v_iLG ?_); refine ⟨_, (by walk_at "hl"), ?_⟩) | (with_reducible refine e_iR1 ?_) | ((with_reducible refine v_iR1 ?c1 ?c2 ?_); try (case c1 => walk_at "side"); try (case c2 => walk_at "side"))
  | (with_reducible refine e_iR2 ?_) | ((with_reducible refine v_iR2 ?c1 ?_); try (case c1 => walk_at "side"))
  | (with_reducible refine e_pr0 ?_) | (with_reducible refine e_pr ?_) | (with_reducible refine e_disp ?_) | (with_reducible refine s_asgT ?_) | (with_reducible refine e_tryA ?_) | (with_reducible refine e_callS ?_) | (with_reducible refine e_mdS ?_) | (with_reducible refine e_par ?_) | (with_reducible refine v_par ?_) | (with_reducible refine e_par3 ?_) | (with_reducible refine v_par3 ?_) | (with_reducible refine e_iK ?_) | (with_reducible refine e_dnotin ?_)
  | (with_reducible refine iteT ?_) | (with_reducible refine iteF ?_))
local macro_rules | `(tactic| walk_at "go") => `(tactic| repeat walk_at "st")
def spMarks : Sp := fun vs H Q _ => ∃ (d : Addr) (ls : List Nat) (f : Nat → List Nat) (w : List Nat), vs = [.ref d, .str (tx w)] ∧ H d = some (.dK (tabKV ls f)) ∧ Tab ls f ∧ (∀ c ∈ w, c ∈ ls) ∧ ∀ m H', MarksAt H' m ls (fun c x => act f w.reverse (unit x) c) → Same H H' → Q (.ref m) H'
def backs (ls : List Nat) (M : Nat → Nat → Int) : List Nat := ls.filter fun c => decide (∃ x ∈ ls, M c x < 0)
def spBacks : Sp := fun vs H Q _ => ∃ (m : Addr) (ls : List Nat) (M : Nat → Nat → Int), vs = [.ref m] ∧ MarksAt H m ls M ∧ ls.length ≤ 8 ∧ 
  ∀ l H', H' l = some (.lst ((backs ls M).map fun c => V.str (tx [c]))) → Same H H' → Q (.ref l) H'
def spName : Sp := fun vs H Q _ => ∃ (d : Addr) (ls : List Nat) (f : Nat → List Nat) (w : List Nat), vs = [.ref d, .str (tx w)] ∧ H d = some (.dK (tabKV ls f)) ∧ Tab ls f ∧ CrOk f ∧ ls.Pairwise (· < ·) ∧ (∀ c ∈ w, c ∈ ls) ∧ w.length ≤ 10000 ∧ ∀ H', Same H H' → Q (.str (tx (joinC f [] w))) H'
theorem joinC_mem {cr : Nat → List Nat} {c : Nat} : ∀ {way name : List Nat}, c ∈ joinC cr name way → c ∈ name ∨ c ∈ way
  | [], name, h => .inl h
  | k :: r, name, h => by
    rcases joinC_mem (way := r) (name := stepOf (cr k) name k) h with z | z
    · rcases stepOf_mem z with e | e
      · exact .inr (e ▸ List.mem_cons_self ..)
      · exact .inl e
    · exact .inr (List.mem_cons_of_mem _ z)
theorem joinC_len (cr : Nat → List Nat) : ∀ (way name : List Nat), (joinC cr name way).length ≤ name.length + way.length
  | [], name => Nat.le_refl _
  | k :: r, name => by
    show (joinC cr (stepOf (cr k) name k) r).length ≤ _
    have := joinC_len cr r (stepOf (cr k) name k)
    have := stepOf_len (cr k) name k
    rw [List.length_cons]
    omega
/-- the backs of a name's marks: empty for home, else its first letter first -/
theorem backs_nil {f : Nat → List Nat} {ls : List Nat} (ok : CrOk f) : backs ls (fun c x => act f [] (unit x) c) = [] := by
  unfold backs
  rw [List.filter_eq_nil_iff]
  intro c hc h
  have := (mark_neg (ls := ls) ok (w := []) trivial (fun _ z => nomatch z) hc).mp (of_decide_eq_true h)
  exact this
theorem backs_cons {f : Nat → List Nat} {ls : List Nat} (ok : CrOk f) (asc : ls.Pairwise (· < ·)) {c : Nat} {r : List Nat} (h : NF f (c :: r)) (hw : ∀ y ∈ c :: r, y ∈ ls) : ∃ t, backs ls (fun e x => act f (c :: r) (unit x) e) = c :: t := by
  have mem : ∀ s, s ∈ backs ls (fun e x => act f (c :: r) (unit x) e) → c ≤ s := fun s hs => by
    obtain ⟨h1, h2⟩ := List.mem_filter.mp hs
    exact h.least ((mark_neg ok h.red hw h1).mp (of_decide_eq_true h2))
  have hc : c ∈ backs ls (fun e x => act f (c :: r) (unit x) e) := List.mem_filter.mpr ⟨hw c (List.mem_cons_self ..), decide_eq_true ((mark_neg ok h.red hw (hw c (List.mem_cons_self ..))).mpr (.inl rfl))⟩
  have ap : (backs ls (fun e x => act f (c :: r) (unit x) e)).Pairwise (· < ·) := asc.filter _
  generalize backs ls (fun e x => act f (c :: r) (unit x) e) = b at *
  cases b with
  | nil => cases hc
  | cons y t =>
    refine ⟨t, ?_⟩
    have h1 := mem y (List.mem_cons_self ..)
    rcases List.mem_cons.mp hc with e | e
    · rw [e]
    · have := (List.pairwise_cons.mp ap).1 c e
      omega
section
variable {P : Program} {w : World} {K : PySem.W.Frag} {mg : Str → Option Value} {base : Heap}
abbrev stmarks : Stmt := (top 56)
abbrev Nmarks : List Str := ["_law_table", "_law_walk_here", "_law_found", "_law_item"]
theorem scmarks : FnScope Nmarks ["_law_table", "_law_walk_here"] (defScope stmarks) := ⟨rfl, rfl, rfl, by decide +kernel, rfl, by decide +kernel, by decide +kernel⟩

theorem ok_marks (F : FnAt K mg "_law_marks" stmarks) (D_units : Def P w K mg base CX0 1 "_law_units" ["_law_table"] spUnits) (D_through : Def P w K mg base CX0 1 "_law_through" ["_law_table", "_law_marks_here", "_law_door"] spThrough) : Def P w K mg base CX0 2 "_law_marks" ["_law_table", "_law_walk_here"] spMarks := by
  refine F.ok scmarks (fun _ _ _ _ _ _ us hl => match us, hl with | [_, _], _ => rfl) (fun vs H Q E h => ?_) (fun f cdv A outer s H vs Q E hr h => ?_)
  · obtain ⟨d, ls, f, w, rfl, _⟩ := h
    rfl
  obtain ⟨d, ls, fn, wk, rfl, hd, tab, hw, k⟩ := h
  have hu := hu_of hr
  have nd := scmarks.nd
  refine ⟨_, (pss_cons (ps_set (i := 2) nd rfl (Or.inl rfl) (pe_cd D_units hr pass0 (pa_cons (pv 0) pa_nil)))
      (pss_cons (ps_for PassesOwn.never rfl (pi_str (pv 1)) (pg_name (i := 3) nd rfl (Or.inl rfl))
      (pss_one (ps_set (i := 2) nd rfl (Or.inl rfl) (pe_cd D_through hr pass0 (pa_cons (pv 0) (pa_cons (pv 2) (pa_cons (pv 3) pa_nil)))))))
      (pss_one (ps_ret (pv 2))))), ?_⟩
  refine s_start [some _, some _, none, none] rfl ?_
  walk_at "go"
  refine ⟨d, ls, fn, rfl, hd, tab, fun m H1 _ m1 s1 => ?_⟩
  walk_at "go"
  refine for_it (walk_tx wk) (fun i σ H' => ∃ x m, σ = [some (.ref d), some (.str (tx wk)), some (.ref m), x] ∧ MarksAt H' m ls (fun c x => act fn (wk.take i).reverse (unit x) c) ∧ Same H H') ⟨_, m, rfl, m1, s1⟩ (fun _ _ _ _ _ => trivial) ?_ ?_
  · rintro i v σ H2 H3 hi ⟨x, m, rfl, m2, s2⟩ ⟨rfl, rfl⟩
    walk_at "go"
    refine ⟨d, m, ls, fn, _, wk.getD i 0, rfl, s2 _ _ hd, tab, hw _ (getD_mem hi), m2, fun m' H4 _ m4 s4 => ?_⟩
    refine ⟨_, m', rfl, ?_, s2.trans s4⟩
    rw [take_getD hi, List.reverse_append]
    exact m4
  rintro σ H2 ⟨x, m, rfl, m2, s2⟩
  rw [List.take_of_length_le (Nat.le_refl _)] at m2
  walk_at "go"
  exact k m H2 m2 s2
abbrev stbacks : Stmt := (top 57)
abbrev Nbacks : List Str := ["_law_marks_here", "_law_item", "_law_number"]
theorem scbacks : FnScope Nbacks ["_law_marks_here"] (defScope stbacks) := ⟨rfl, rfl, rfl, by decide +kernel, rfl, by decide +kernel, by decide +kernel⟩

theorem ok_backs (F : FnAt K mg "_law_backs" stbacks) (T : TxtV K mg) : Def P w K mg base CX0 1 "_law_backs" ["_law_marks_here"] spBacks := by
  refine F.ok scbacks (fun _ _ _ _ _ _ us hl => match us, hl with | [_], _ => rfl) (fun vs H Q E h => ?_) (fun f cdv A outer s H vs Q E hr h => ?_)
  · obtain ⟨m, ls, M, rfl, _⟩ := h
    rfl
  obtain ⟨m, ls, M, rfl, hM, hl, k⟩ := h
  have hu := hu_of hr
  have nd := scbacks.nd
  obtain ⟨A0, hm, hA⟩ := hM.ex
  refine ⟨_, (pss_one (ps_lock (ps_ret (pe_lc (own := [("_law_item", 1)]) (g := gName 1) (by rfl) nd (pi_keys (pv 0)) (blkOk_by (own := [("_law_item", 1)]) (N := Nbacks) (sc := defScope stbacks) (by decide +kernel)) (fun _ _ _ _ _ => (pg_name (i := 1) nd rfl (Or.inl rfl))) (fun _ _ _ _ _ => (pts_one (pt_cmpR op_lt (pe_callB (cr_minK (K := K) rfl rfl) (by rfl) T.min (by decide +kernel) (pa_cons (pe_lc (own := [("_law_number", 2)]) (g := gName 2) (by rfl) nd (pi_tupK (K := K) rfl (pe_dget hu (pv 0) (pv 1) (fun _ _ => rfl))) (blkOk_by (own := [("_law_number", 2)]) (N := Nbacks) (sc := lcSc [".0", "_law_item"] ["min"] ["_law_marks_here"]) (by decide +kernel)) (fun _ _ _ _ _ => (pg_name (i := 2) nd rfl (Or.inl rfl))) (fun _ _ _ _ _ => pts_nil) (fun _ _ _ _ _ => (pe_callTy c_int (by rfl) T.int (by decide +kernel) (pa_cons (pv 2) pa_nil)))) pa_nil)) pe_int (nomark _)))) (fun _ _ _ _ _ => (pv 1)))))), ?_⟩
  refine s_start [some _, none, none] rfl ?_
  refine e_lock hm trivial fun od => ?_
  have nAm : ∀ c ∈ ls, A0 c ≠ m := fun c hc => ne_of (hA c hc) hm (by intro z; cases z)
  walk_at "go"
  refine ⟨m, od, rfl, .inl ⟨_, upd_same, ?_⟩⟩
  refine vals_some (ls := ls) (it := fun c => V.str (tx [c])) (f := fun c => V.str (tx [c])) (b := fun c => decide (∃ x ∈ ls, M c x < 0)) (walk_let (g := fun c => V.ref (A0 c))) (fun H' s' => s' _ _ upd_same) (by omega) (fun c hc H1 s1 R r => ?_) (fun c hc hb H1 s1 R r => ?_) (fun D H1 hD s1 e1 => ?_)
  · have hc1 : H1 (A0 c) = some (.tup (vecV ls (M c))) := s1 _ _ (by rw [upd_ne (nAm c hc)]; exact hA c hc)
    walk_at "go"
    refine v_dget (marks_getF (s1 _ _ upd_same) hc) ?_
    walk_at "go"
    refine v_iT hc1 ?_
    refine vals_all (ls := ls) (it := fun x => V.int (M c x)) (f := fun x => V.int (M c x)) (walk_tupM (ls := ls) (f := fun x => V.int (M c x))) (fun H' s' => SqT.of (s' _ _ hc1)) (by omega) (fun y hy H5 s5 R r => ?_) (fun y hy H5 s5 R r => ?_) (fun D H5 hD s5 e5 => ?_)
    · exact r H5 (Same.refl _)
    · walk_at "go"
      exact r H5 (Same.refl _)
    walk_at "go"
    have e6 : H5 D = some (.lst ((ls.map (M c)).map V.int)) := by
      rw [e5, List.map_map]
      rfl
    refine ⟨D, _, rfl, SqL.of e6, by rw [List.length_map]; exact List.length_pos_of_mem hc, fun z hz hle => ?_⟩
    walk_at "go"
    have e7 : decide (z < 0) = decide (∃ x ∈ ls, M c x < 0) := by
      refine decide_eq_decide.mpr ⟨fun h => ?_, fun h => ?_⟩
      · obtain ⟨x, hx, e⟩ := List.mem_map.mp hz
        exact ⟨x, hx, by omega⟩
      · obtain ⟨x, hx, e⟩ := h
        have := hle (M c x) (List.mem_map.mpr ⟨x, hx, rfl⟩)
        omega
    rw [e7]
    exact r H5 s5
  · walk_at "go"
    exact r H1 (Same.refl _)
  have hmm : H1 m = some (.frz od (.dK (marksKV ls A0))) := s1 _ _ upd_same
  refine ⟨hmm, ?_⟩
  have hDm : D ≠ m := fun z => by rw [z, upd_same] at hD; cases hD
  refine k D _ (by rw [upd_ne hDm]; exact e1) fun b o hb => ?_
  by_cases e : b = m
  · rw [e, upd_same, ← hb, e, hm]
  · rw [upd_ne e]
    exact s1 _ _ (by rw [upd_ne e]; exact hb)
abbrev stname : Stmt := (top 58)
abbrev Nname : List Str := ["_law_table", "_law_walk_here", "_law_marks_here", "_law_found", "_law_backs_here"]
theorem scname : FnScope Nname ["_law_table", "_law_walk_here"] (defScope stname) := ⟨rfl, rfl, rfl, by decide +kernel, rfl, by decide +kernel, by decide +kernel⟩

theorem ok_name (F : FnAt K mg "_law_name" stname) (D_marks : Def P w K mg base CX0 2 "_law_marks" ["_law_table", "_law_walk_here"] spMarks) (D_through : Def P w K mg base CX0 1 "_law_through" ["_law_table", "_law_marks_here", "_law_door"] spThrough) (D_backs : Def P w K mg base CX0 1 "_law_backs" ["_law_marks_here"] spBacks) : Def P w K mg base CX0 3 "_law_name" ["_law_table", "_law_walk_here"] spName := by
  refine F.ok scname (fun _ _ _ _ _ _ us hl => match us, hl with | [_, _], _ => rfl) (fun vs H Q E h => ?_) (fun f cdv A outer s H vs Q E hr h => ?_)
  · obtain ⟨d, ls, f, w, rfl, _⟩ := h
    rfl
  obtain ⟨d, ls, fn, wk, rfl, hd, tab, ok, asc, hw, hwl, k⟩ := h
  have hu := hu_of hr
  have nd := scname.nd
  replace D_through := D_through.mono (show 1 ≤ 2 by decide)
  replace D_backs := D_backs.mono (show 1 ≤ 2 by decide)
  have tl := tab.len
  have nfN : NF fn (joinC fn [] wk) := NF_join ok NF_nil
  have memN : ∀ y ∈ joinC fn [] wk, y ∈ ls := fun y hy => (joinC_mem hy).elim (fun z => nomatch z) (hw y)
  have lenN := joinC_len fn wk []
  rw [List.length_nil] at lenN
  have actN : ∀ f0, act fn (joinC fn [] wk) f0 = act fn wk f0 := fun f0 => act_join ok wk [] f0
  generalize joinC fn [] wk = NN at *
  refine ⟨_, (pss_cons (ps_par (i := 2) (j := 3) (by rfl) nd rfl rfl (by decide) rfl rfl (pa_cons (pe_cd D_marks hr pass0 (pa_cons (pv 0) (pa_cons (pe_revS (pv 1)) pa_nil))) (pa_cons (pe_tx [] (by decide +kernel)) pa_nil)) (by rfl))
      (pss_cons (ps_set (i := 4) nd rfl (Or.inl rfl) (pe_cd D_backs hr pass0 (pa_cons (pv 2) pa_nil)))
      (pss_cutS (ps_while PassesOwn.never (pt_cmpR (op_neDK (K := K) rfl hr.units) (pv 4) (pe_lst pa_nil) (nomark _))
      (pss_cons (ps_set (i := 3) nd rfl (Or.inl rfl) (pe_op op_addS (pv 3) (pe_ix (ix_LK (K := K) rfl) (pv 4) pe_int (fun _ _ => rfl))))
        (pss_cons (ps_set (i := 2) nd rfl (Or.inl rfl) (pe_cd D_through hr pass0 (pa_cons (pv 0) (pa_cons (pv 2) (pa_cons (pe_ix (ix_LK (K := K) rfl) (pv 4) pe_int (fun _ _ => rfl)) pa_nil)))))
        (pss_one (ps_set (i := 4) nd rfl (Or.inl rfl) (pe_cd D_backs hr pass0 (pa_cons (pv 2) pa_nil)))))))
      (pss_one (ps_ret (pv 3)))))), ?_⟩
  refine s_start [some _, some _, none, none, none] rfl ?_
  walk_at "go"
  refine ⟨d, ls, fn, _, rfl, hd, tab, fun c hc => hw c (List.mem_reverse.mp hc), fun m H1 m1 s1 => ?_⟩
  have m1 : MarksAt H1 m ls (fun c x => act fn NN (unit x) c) := m1.congr fun c _ x _ => by rw [List.reverse_reverse, actN]
  walk_at "go"
  refine ⟨m, ls, _, rfl, m1, tl, fun l H2 e2 s2 => ?_⟩
  walk_at "go"
  refine s_cut (fun σ H' => ∃ m l, σ = [some (.ref d), some (.str (tx wk)), some (.ref m), some (.str (tx NN)), some (.ref l)] ∧ Same H H') ?_ ?_
  · refine s_while (fun n σ H' => ∃ u v m l, NN = u ++ v ∧ n = v.length ∧ σ = [some (.ref d), some (.str (tx wk)), some (.ref m), some (.str (tx u)), some (.ref l)] ∧ Same H H' ∧ MarksAt H' m ls (fun c x => act fn v (unit x) c) ∧ H' l = some (.lst ((backs ls (fun c x => act fn v (unit x) c)).map fun c => V.str (tx [c])))) NN.length ⟨[], NN, m, l, rfl, rfl, rfl, s1.trans s2, m1.same s2, e2⟩ ?_
    rintro n σ H3 ⟨u, v, m, l, e, rfl, rfl, s3, m3, e3⟩
    have nfv : NF fn v := by
      rw [e] at nfN
      clear e actN memN lenN
      induction u with
      | nil => exact nfN
      | cons y u ih => exact ih nfN.tail
    have memv : ∀ y ∈ v, y ∈ ls := fun y hy => memN y (by rw [e]; exact List.mem_append_right _ hy)
    walk_at "go"
    intro q H4 hq s4 e4
    have small : ∀ l' ∈ (backs ls (fun c x => act fn v (unit x) c)).map (fun c => [c]), ∀ c ∈ l', c < 1000 := by
      intro l' hl' c hc
      obtain ⟨y, hy, rfl⟩ := List.mem_map.mp hl'
      rw [List.mem_singleton.mp hc]
      have := LET_lt (tab.lt y (List.mem_filter.mp hy).1)
      omega
    have e3' : H4 l = some (.lst (((backs ls (fun c x => act fn v (unit x) c)).map fun c => tx [c]).map V.str)) := by
      rw [s4 _ _ e3, List.map_map]
      rfl
    refine v_neNilS e3' (fun x hx => ?_) e4 ?_
    · obtain ⟨y, hy, rfl⟩ := List.mem_map.mp hx
      exact ok_tx (small [y] (List.mem_map.mpr ⟨y, hy, rfl⟩))
    rw [List.isEmpty_map]
    walk_at "go"
    cases v with
    | nil =>
      rw [backs_nil ok]
      refine iteF ?_
      refine ⟨m, l, ?_, s3.trans s4⟩
      rw [e, List.append_nil]
    | cons c r =>
      obtain ⟨t, et⟩ := backs_cons ok asc nfv memv
      rw [et]
      rw [et] at e3
      refine iteT ?_
      have e34 := s4 _ _ e3
      have hc : c ∈ ls := memv c (List.mem_cons_self ..)
      have lu : u.length + [c].length ≤ 1000000 := by
        have := congrArg List.length e
        rw [List.length_append] at this
        rw [List.length_singleton]
        omega
      refine v_turn ?_
      walk_at "go"
      refine v_ixL e34 (atI_nat (j := 0) rfl) ?_
      walk_at "go"
      refine v_ixL e34 (atI_nat (j := 0) rfl) ?_
      walk_at "go"
      refine ⟨d, m, ls, fn, _, c, rfl, s4 _ _ (s3 _ _ hd), tab, hc, m3.same s4, fun m' H5 _ m5 s5 => ?_⟩
      have m5 : MarksAt H5 m' ls (fun c x => act fn r (unit x) c) := m5.congr fun b _ x _ => by
        show thr fn c (thr fn c (act fn r (unit x))) b = _
        rw [thr_thr ok]
      walk_at "go"
      refine ⟨m', ls, _, rfl, m5, tl, fun l' H6 e6 s6 => ?_⟩
      refine ⟨r.length, by simp, u ++ [c], r, m', l', by rw [e]; simp, rfl, rfl, ((s3.trans s4).trans s5).trans s6, m5.same s6, e6⟩
  rintro σ H3 ⟨m, l, rfl, s3⟩
  walk_at "go"
  exact k H3 s3
end
end Cw
set_option Elab.async false
set_option linter.all false
set_option maxRecDepth 100000
set_option maxHeartbeats 4000000
namespace Cw
open PySem PySem.Spec L2
local macro_rules | `(tactic| walk_at "side") => `(tactic| first | omega | assumption | (dsimp only; omega) | (unfold CMul; omega) | exact ⟨by decide, by decide, by decide⟩ | exact wdiv (by first | assumption | decide | omega) (by first | assumption | decide | omega) | (simp only [List.length_cons, List.length_nil]; omega) | rfl)
local macro_rules | `(tactic| walk_at "hl") => `(tactic| first | assumption | exact upd_same | ((refine Cw.Same.at (by assumption) ?_); walk_at "hl") | ((refine Cw.Keep.at (by assumption) ?_ (by assumption)); walk_at "hl"))
local macro_rules | `(tactic| walk_at "st") => `(tactic| first
  | (with_reducible refine s_seq ?_) | (with_reducible refine g_nm ?_) | (with_reducible refine s_next ?_) | (with_reducible refine s_set ?_) | (with_reducible refine s_drop ?_) | (with_reducible refine s_ret ?_) | (with_reducible refine s_if ?_)
  | ((with_reducible refine e_varG ?_); refine ⟨_, (by with_unfolding_all rfl), ?_⟩) | (with_reducible refine e_c ?_) | (with_reducible refine e_op ?_) | (with_reducible refine e_un ?_)
  | (with_reducible refine e_cons ?_) | (with_reducible refine e_nil ?_) | (with_reducible refine e_cb ?_) | (with_reducible refine e_call ?_) | (with_reducible refine e_md ?_)
  | (with_reducible refine t_test ?_) | (with_reducible refine t_B ?_) | (with_reducible refine t_and ?_) | (with_reducible refine t_or ?_) | (with_reducible refine t_not ?_)
  | (with_reducible refine e_andV ?_) | (with_reducible refine e_orV ?_) | (with_reducible refine e_notV ?_) | (with_reducible refine e_if ?_)
  | (with_reducible refine v_I0 ?_) | ((with_reducible refine v_I ?c ?_); try (case c => walk_at "side")) | (with_reducible refine v_bl ?_)
  | ((with_reducible refine v_eq ?c ?_); (case c => with_unfolding_all rfl)) | ((with_reducible refine v_ne ?c ?_); (case c => with_unfolding_all rfl))
  | (with_reducible refine v_inti ?_) | (with_reducible refine v_intb ?_) | ((with_reducible refine v_lenG ?_); refine ⟨_, (by walk_at "hl"), ?_⟩)
  | ((with_reducible refine v_lenS ?c ?_); try (case c => walk_at "side"))
  | (with_reducible refine e_dnew ?_) | (with_reducible refine e_dget ?_) | (with_reducible refine s_dput ?_) | (with_reducible refine e_lst ?_) | (with_reducible refine e_tup ?_)
  | ((with_reducible refine v_lst ?c ?_); (case c => walk_at "side")) | ((with_reducible refine v_tup ?c ?_); (case c => walk_at "side"))
  | ((with_reducible refine v_dgetG ?_); refine ⟨_, (by assumption), ?_⟩)
  | (with_reducible refine e_sl ?_) | (with_reducible refine e_nopart ?_) | (with_reducible refine e_part ?_) | (with_reducible refine e_m1 ?_) | (with_reducible refine v_isS ?_) | (with_reducible refine v_int ?_)
  | (with_reducible refine e_lc ?_) | (with_reducible refine e_iStr ?_) | (with_reducible refine e_iEnumS ?_) | (with_reducible refine v_iEnumS ?_) | (with_reducible refine v_str ?_) | (with_reducible refine e_yes ?_) | (with_reducible refine e_fld ?_) | (with_reducible refine e_sfld ?_)
  | ((with_reducible refine v_addS ?c ?_); try (case c => walk_at "side")) | (with_reducible refine v_inS ?_) | (with_reducible refine v_notInS ?_) | (with_reducible refine v_ltS ?_)
  | ((with_reducible refine v_inLG ?_); refine ⟨_, (by walk_at "hl"), ?_⟩) | (with_reducible refine v_isiS ?_) | (with_reducible refine e_revS ?_) | ((with_reducible refine v_revS ?c ?_); try (case c => walk_at "side"))
  | ((with_reducible refine v_lenSetG ?_); refine ⟨_, (by walk_at "hl"), ?_⟩)
  | (with_reducible refine e_bm ?_) | (with_reducible refine e_bm0 ?_) | ((with_reducible refine v_tyLG ?_); refine ⟨_, (by walk_at "hl"), ?_⟩)
  | (with_reducible refine iteNT ?_) | (with_reducible refine iteNF ?_) | (with_reducible refine e_for ?_)
  | (with_reducible refine e_iL ?_) | (with_reducible refine e_iT ?_) | ((with_reducible refine v_iLG ?_); refine ⟨_, (by walk_at "hl"), ?_⟩) | (with_reducible refine e_iR1 ?_) | ((with_reducible refine v_iR1 ?c1 ?c2 ?_); try (case c1 => walk_at "side"); try (case c2 => walk_at "side"))
  | (with_reducible refine e_iR2 ?_) | ((with_reducible refine v_iR2 ?c1 ?_); try (case c1 => walk_at "side"))
  | (with_reducible refine e_pr0 ?_) | (with_reducible refine e_pr ?_) | (with_reducible refine e_disp ?_) | (with_reducible refine s_asgT ?_) | (with_reducible refine e_tryA ?_) | (with_reducible refine e_callS ?_) | (with_reducible refine e_mdS ?_) | (with_reducible refine e_par ?_) | (with_reducible refine v_par ?_) | (with_reducible refine e_par3 ?_) | (with_reducible refine v_par3 ?_) | (with_reducible refine e_iK ?_) | (with_reducible refine e_dnotin ?_)
  | (with_reducible refine iteT ?_) | (with_reducible refine iteF ?_))
local macro_rules | `(tactic| walk_at "go") => `(tactic| repeat walk_at "st")
def spPlain : Sp := fun vs H Q _ => ∃ (d : Addr) (ls : List Nat) (f : Nat → List Nat), vs = [.ref d] ∧ H d = some (.dK (tabKV ls f)) ∧ Tab ls f ∧ ∀ p H', H p = none → Same H H' → H' p = some (.dK (tabKV ls (fun _ => []))) → Q (.ref p) H'
theorem paired_map {α β : Type} {r : α → β → Prop} {A : Nat → α} {B : Nat → β} : ∀ {ls : List Nat}, (∀ c ∈ ls, r (A c) (B c)) → Paired r (ls.map A) (ls.map B)
  | [], _ => .nil
  | c :: ls, h => .cons (h c (List.mem_cons_self ..)) (paired_map fun d hd => h d (List.mem_cons_of_mem _ hd))
theorem let_pw {ls : List Nat} {g : Nat → V} (h : ls.Nodup) : (ls.map fun c => ((Sum.inr (tx [c]) : Key), g c)).Pairwise (fun a b => a.1 ≠ b.1) := by
  rw [List.pairwise_map]
  refine List.Pairwise.imp (fun {a b} hab z => ?_) h
  have := key_tx.mp z
  injection this with e _
  exact hab e
section
variable {P : Program} {w : World} {K : PySem.W.Frag} {mg : Str → Option Value} {base : Heap}
abbrev stplain : Stmt := (top 60)
abbrev Nplain : List Str := ["_law_table", "_law_item"]
theorem scplain : FnScope Nplain ["_law_table"] (defScope stplain) := ⟨rfl, rfl, rfl, by decide +kernel, rfl, by decide +kernel, by decide +kernel⟩

theorem ok_plain (F : FnAt K mg "_law_plain" stplain) (T : TxtV K mg) : Def P w K mg base CX0 1 "_law_plain" ["_law_table"] spPlain := by
  refine F.ok scplain (fun _ _ _ _ _ _ us hl => match us, hl with | [_], _ => rfl) (fun vs H Q E h => ?_) (fun f cdv A outer s H vs Q E hr h => ?_)
  · obtain ⟨d, ls, f, rfl, _⟩ := h
    rfl
  obtain ⟨d, ls, fn, rfl, hd, tab, k⟩ := h
  have hu := hu_of hr
  have nd := scplain.nd
  have tl := tab.len
  refine ⟨_, (pss_one (ps_lock (ps_ret (pe_callTy (c_dictPK (K := K) rfl rfl) (by rfl) T.dict (by decide +kernel) (pa_cons (pe_lc (own := [("_law_item", 1)]) (g := gName 1) (by rfl) nd (pi_keys (pv 0)) (blkOk_by (own := [("_law_item", 1)]) (N := Nplain) (sc := defScope stplain) (by decide +kernel)) (fun _ _ _ _ _ => (pg_name (i := 1) nd rfl (Or.inl rfl))) (fun _ _ _ _ _ => pts_nil) (fun _ _ _ _ _ => (pe_tup (pa_cons (pv 1) (pa_cons (pe_tx [] (by decide +kernel)) pa_nil))))) pa_nil))))), ?_⟩
  refine s_start [some _, none] rfl ?_
  refine e_lock hd trivial fun od => ?_
  walk_at "go"
  refine ⟨d, od, rfl, .inl ⟨_, upd_same, ?_⟩⟩
  intro D hD
  have hDd : D ≠ d := fun z => by rw [z, upd_same] at hD; cases hD
  have hDH : H D = none := by rw [upd_ne hDd] at hD; exact hD
  refine lc_it (walk_let (g := fun c => V.str (tx (fn c)))) (fun j H' => ∃ A : Nat → Addr, H' D = some (.lst ((ls.take j).map fun c => V.ref (A c))) ∧ (∀ c ∈ ls.take j, H' (A c) = some (.tup [.str (tx [c]), .str (tx [])])) ∧ (∀ b o, H b = some o → b ≠ d → H' b = some o) ∧ H' d = some (.frz od (.dK (tabKV ls fn)))) ⟨fun _ => 0, upd_same, by simp, fun b o hb nb => by rw [upd_ne (ne_of_none hb hDH), upd_ne nb]; exact hb, by rw [upd_ne hDd.symm]; exact upd_same⟩ ?_ ?_ ?_
  · rintro j H' _ ⟨A, _, _, _, h⟩
    exact h
  · rintro j v H3 H4 hj ⟨A, e3, t3, k3, d3⟩ ⟨rfl, hv⟩
    obtain ⟨c, hc⟩ : ∃ c, ls.getD j 0 = c := ⟨_, rfl⟩
    obtain rfl : v = V.str (tx [c]) := by rw [← hc]; exact hv
    have hn : ¬ c ∈ ls.take j := hc ▸ take_notin tab.nd hj
    walk_at "go"
    refine ⟨rfl, ?_⟩
    walk_at "go"
    intro t H5 ht s5 e5
    have e5D := s5 _ _ e3
    refine ⟨_, e5D, ?_, fun y => if y = c then t else A y, ?_, ?_, ?_, ?_⟩
    · refine szlt ?_
      rw [List.length_map, List.length_take]
      omega
    · rw [upd_same, take_getD hj, hc, List.map_append]
      congr 3
      · refine List.map_congr_left fun y hy => ?_
        show V.ref (A y) = V.ref (if y = c then t else A y)
        rw [if_neg (fun z : y = c => hn (z ▸ hy))]
      · show [V.ref t] = [V.ref (if c = c then t else A c)]
        rw [if_pos rfl]
    · intro y hy
      rw [take_getD hj, hc, List.mem_append, List.mem_singleton] at hy
      show upd H5 D _ (if y = c then t else A y) = _
      by_cases e : y = c
      · rw [if_pos e, upd_ne (ne_of e5 e5D (by intro z; cases z)), e]
        exact e5
      · rw [if_neg e]
        have := s5 _ _ (t3 y (hy.resolve_right e))
        rw [upd_ne (ne_of this e5D (by intro z; cases z))]
        exact this
    · intro b o hb nb
      rw [upd_ne (ne_of_none hb hDH)]
      exact s5 _ _ (k3 _ _ hb nb)
    · rw [upd_ne hDd.symm]
      exact s5 _ _ d3
  rintro H3 ⟨A, e3, t3, k3, d3⟩
  rw [List.take_of_length_le (Nat.le_refl _)] at e3 t3
  walk_at "go"
  refine ⟨D, ls.map A, ls.map fun c => ((Sum.inr (tx [c]) : Key), V.str (tx [])), rfl, SqL.of (by rw [e3, List.map_map]; rfl), paired_map fun c hc => SqT.of (t3 c hc), fun p hp => ?_⟩
  rw [merge_new (fun _ _ => rfl) (let_pw tab.nd), List.nil_append]
  have hpd : p ≠ d := fun z => by rw [z, d3] at hp; cases hp
  refine ⟨by rw [upd_ne hpd.symm]; exact d3, ?_⟩
  refine k p _ ?_ ?_ ?_
  · cases z : H p with
    | none => rfl
    | some o =>
      have := k3 _ _ z hpd
      rw [hp] at this
      cases this
  · intro b o hb
    by_cases e : b = d
    · rw [e, upd_same, ← hb, e, hd]
    · rw [upd_ne e]
      have := k3 _ _ hb e
      rw [upd_ne (ne_of_none this hp)]
      exact this
  · rw [upd_ne hpd, upd_same]
    rfl
end
end Cw
set_option Elab.async false
set_option linter.all false
set_option maxRecDepth 100000
set_option maxHeartbeats 4000000
/-! rooms of a drawn floor -/
namespace Cw
open PySem PySem.Spec L2
def spLaw (K : PySem.W.Frag) : Sp := fun vs H Q _ => ∃ (a : Addr) (ns : List Int), vs = [.ref a] ∧ SqL K H a (ns.map V.int) ∧ ns.length ≤ 63 ∧ ∀ H', Q (.bl true) H'
theorem if_nI {c A B : Prop} {inst : Decidable c} (h : c) (q : B) : if (!decide c) = true then A else B := if_ndec (fun z => absurd h z) (fun _ => q)
theorem if_I {c A B : Prop} {inst : Decidable c} (h : c) (q : A) : if decide c = true then A else B := if_dec (fun _ => q) (fun z => absurd h z)
/-! ### rooms of one plan -/
theorem RoomAt.go {R : Addr} {H H' : Hp} {r x : Addr} {name : List Nat} (s : Same H H') (h : RoomAt R H r x name) : RoomAt R H' r x name := h.same s
theorem PlanAt.go {C : Addr} {H H' : Hp} {x : Addr} {ks : List Nat} {ps : List (List Nat)} (s : Same H H') (h : PlanAt C H x ks ps) : PlanAt C H' x ks ps := h.same s
section
variable {K : PySem.W.Frag} {H : Hp} {Q : VK} {C R r r' x : Addr} {a b : List Nat} {ks : List Nat} {ps : List (List Nat)} {E : XK}
theorem v_rname {P : V → Prop} (h : RoomAt R H r x a) (c : Cls K R) (n : NoAttr K R "name") (q : P (.str (tx a))) : ∃ a' C dx fs v, V.ref r = .ref a' ∧ H a' = some (.ins C dx fs) ∧ Cls K C ∧ NoAttr K C "name" ∧ fs.lookup ("name" : Str) = some v ∧ P v := by
  obtain ⟨dx, e⟩ := h.ex
  exact v_fld e c n roomF_n q
theorem v_rnameG {P : V → Prop} (q : ∃ R x a, RoomAt R H r x a ∧ Cls K R ∧ NoAttr K R "name" ∧ P (.str (tx a))) : ∃ a' C dx fs v, V.ref r = .ref a' ∧ H a' = some (.ins C dx fs) ∧ Cls K C ∧ NoAttr K C "name" ∧ fs.lookup ("name" : Str) = some v ∧ P v := by
  obtain ⟨R, x, a, h, c, n, q⟩ := q
  exact v_rname h c n q
theorem v_rplan {P : V → Prop} (h : RoomAt R H r x a) (c : Cls K R) (n : NoAttr K R "plan") (q : P (.ref x)) : ∃ a' C dx fs v, V.ref r = .ref a' ∧ H a' = some (.ins C dx fs) ∧ Cls K C ∧ NoAttr K C "plan" ∧ fs.lookup ("plan" : Str) = some v ∧ P v := by
  obtain ⟨dx, e⟩ := h.ex
  exact v_fld e c n roomF_p q
theorem v_rplanG {P : V → Prop} (q : ∃ R x a, RoomAt R H r x a ∧ Cls K R ∧ NoAttr K R "plan" ∧ P (.ref x)) : ∃ a' C dx fs v, V.ref r = .ref a' ∧ H a' = some (.ins C dx fs) ∧ Cls K C ∧ NoAttr K C "plan" ∧ fs.lookup ("plan" : Str) = some v ∧ P v := by
  obtain ⟨R, x, a, h, c, n, q⟩ := q
  exact v_rplan h c n q
theorem rooms2 (h1 : RoomAt R H r x a) (h2 : RoomAt R H r' x b) (pl : PlanAt C H x ks ps) (ok : PsOk ps) (la : a.length ≤ 2000) (lb : b.length ≤ 2000) : Rooms2 C R H r x a r' x b true := ⟨h1, h2, ⟨ks, ks, ps, ps, pl, pl, ok, ok, (decide_eq_true ⟨rfl, rfl⟩).symm⟩, la, lb⟩
theorem v_req (h1 : RoomAt R H r x a) (h2 : RoomAt R H r' x b) (pl : PlanAt C H x ks ps) (ok : PsOk ps) (la : a.length ≤ 2000) (lb : b.length ≤ 2000) (q : Q (.bl (decide (a = b))) H) : rM2 R (spRoomEq C R) E (.ref r) (.ref r') H Q := by
  obtain ⟨dx, e1⟩ := h1.ex
  obtain ⟨dy, e2⟩ := h2.ex
  refine v_M2 e1 e2 ⟨_, _, _, _, _, _, _, rfl, rooms2 h1 h2 pl ok la lb, ?_⟩
  rw [Bool.true_and]
  exact q
theorem v_rne (h1 : RoomAt R H r x a) (h2 : RoomAt R H r' x b) (pl : PlanAt C H x ks ps) (ok : PsOk ps) (la : a.length ≤ 2000) (lb : b.length ≤ 2000) (q : Q (.bl (!decide (a = b))) H) : rM2n R (spRoomEq C R) E (.ref r) (.ref r') H Q := by
  obtain ⟨dx, e1⟩ := h1.ex
  obtain ⟨dy, e2⟩ := h2.ex
  refine v_M2n e1 e2 ⟨_, _, _, _, _, _, _, rfl, rooms2 h1 h2 pl ok la lb, ?_⟩
  rw [Bool.true_and]
  exact ⟨_, rfl, q⟩
theorem v_rlen (h : RoomAt R H r x a) (l : a.length ≤ 100000) (q : Q (.int a.length) H) : rLenM R (spRoomLen R) E [.ref r] H Q := by
  obtain ⟨dx, e⟩ := h.ex
  exact v_lenM e ⟨_, _, _, rfl, h, l, a.length, rfl, by omega, q⟩
theorem v_reqT {z : Str} (h : RoomAt R H r x a) (q : Q (.bl false) H) : rMS R (spRoomEqS R) E (.ref r) (.str z) H Q := by
  obtain ⟨dx, e⟩ := h.ex
  exact v_MS e ⟨_, _, rfl, q⟩
theorem v_rlenG (q : ∃ x a, RoomAt R H r x a ∧ a.length ≤ 100000 ∧ Q (.int a.length) H) : rLenM R (spRoomLen R) E [.ref r] H Q := by
  obtain ⟨x, a, h, l, q⟩ := q
  exact v_rlen h l q
theorem v_reqG (q : ∃ x a b ks ps, RoomAt R H r x a ∧ RoomAt R H r' x b ∧ PlanAt C H x ks ps ∧ PsOk ps ∧ a.length ≤ 2000 ∧ b.length ≤ 2000 ∧ Q (.bl (decide (a = b))) H) : rM2 R (spRoomEq C R) E (.ref r) (.ref r') H Q := by
  obtain ⟨x, a, b, ks, ps, h1, h2, h3, h4, h5, h6, q⟩ := q
  exact v_req h1 h2 h3 h4 h5 h6 q
theorem v_rneG (q : ∃ x a b ks ps, RoomAt R H r x a ∧ RoomAt R H r' x b ∧ PlanAt C H x ks ps ∧ PsOk ps ∧ a.length ≤ 2000 ∧ b.length ≤ 2000 ∧ Q (.bl (!decide (a = b))) H) : rM2n R (spRoomEq C R) E (.ref r) (.ref r') H Q := by
  obtain ⟨x, a, b, ks, ps, h1, h2, h3, h4, h5, h6, q⟩ := q
  exact v_rne h1 h2 h3 h4 h5 h6 q
theorem v_reqTG {z : Str} (q : ∃ x a, RoomAt R H r x a ∧ Q (.bl false) H) : rMS R (spRoomEqS R) E (.ref r) (.str z) H Q := by
  obtain ⟨x, a, h, q⟩ := q
  exact v_reqT h q
theorem v_peqS {x : Addr} (pl : PlanAt C H x ks ps) (ok : PsOk ps) (q : Q (.bl true) H) : rM2 C (spPlanEq C) E (.ref x) (.ref x) H Q := by
  obtain ⟨dx, t, d, e, _⟩ := pl.ex
  refine v_M2 e e ⟨_, _, _, _, _, _, rfl, pl, pl, ok, ok, ?_⟩
  rw [decide_eq_true ⟨rfl, rfl⟩]
  exact q
theorem v_peqG {x : Addr} (q : ∃ ks ps, PlanAt C H x ks ps ∧ PsOk ps ∧ Q (.bl true) H) : rM2 C (spPlanEq C) E (.ref x) (.ref x) H Q := by
  obtain ⟨ks, ps, h1, h2, q⟩ := q
  exact v_peqS h1 h2 q
end
/-! ### rooms of a drawn floor -/
section
variable {K : PySem.W.Frag} {H : Hp} {Q : VK} {C R r x : Addr} {ls : List Nat} {fn : Nat → List Nat} {a b w : List Nat} {k : Nat} {E : XK}
theorem inAsc (T : Tab ls fn) (h : ∀ c ∈ a, c ∈ ls) : ∀ c ∈ a, c ∈ ascOf ls := fun c hc => ascOf_mem.mpr ⟨T.lt c (h c hc), h c hc⟩
theorem memN (h : ∀ c ∈ a, c ∈ ls) : ∀ c ∈ joinC fn [] a, c ∈ ls := fun c hc => h c (name_mem hc)
theorem sp_room (fl : Fl ls fn) (pl : PlanAt C H x (ascOf ls) (tabPairs ls fn)) (hw : ∀ c ∈ w, c ∈ ls) (l : w.length ≤ 2000) (q : ∀ r H', H r = none → Same H H' → RoomAt R H' r x (joinC fn [] w) → Q (.ref r) H') : spRoom C R [.ref x, .str (tx w)] H Q E := by
  refine ⟨x, _, _, w, rfl, pl, inAsc fl.tab hw, l, fun r H' h s ro => q r H' h s ?_⟩
  rw [joinOf_tab fl.tab (name := []) (by simp) hw] at ro
  exact ro
theorem v_add (fl : Fl ls fn) (h : RoomAt R H r x (joinC fn [] a)) (pl : PlanAt C H x (ascOf ls) (tabPairs ls fn)) (ha : ∀ c ∈ a, c ∈ ls) (hb : ∀ c ∈ b, c ∈ ls) (la : a.length ≤ 1000) (lb : b.length ≤ 1000) (q : ∀ r' H', H r' = none → Same H H' → RoomAt R H' r' x (joinC fn [] (a ++ b)) → Q (.ref r') H') : rMS R (spRoomAdd C R) E (.ref r) (.str (tx b)) H Q := by
  obtain ⟨dr, er⟩ := h.ex
  have n1 := name_len fn a
  have j1 := joinOf_len (ascOf ls) (tabPairs ls fn) b (joinC fn [] a)
  have n1 : (joinC fn [] a).length ≤ a.length := n1
  refine v_MS er ⟨r, x, _, _, _, b, rfl, h, pl, inAsc fl.tab (memN ha), inAsc fl.tab hb, by omega, by omega, by omega, fun r' H' hr' s' ro => q r' H' hr' s' ?_⟩
  have hm : ∀ c ∈ joinC fn (joinC fn [] a) b, c ∈ ls := fun c hc => (joinC_mem' hc).elim (memN ha c) (hb c)
  rw [joinOf_tab fl.tab (memN ha) hb, joinOf_tab fl.tab (name := []) (by simp) hm, show joinC fn [] (joinC fn (joinC fn [] a) b) = joinC fn [] (a ++ b) from name_app fl.ok a b] at ro
  exact ro
theorem v_get (fl : Fl ls fn) (h : RoomAt R H r x (joinC fn [] a)) (pl : PlanAt C H x (ascOf ls) (tabPairs ls fn)) (ha : ∀ c ∈ a, c ∈ ls) (hk : k ∈ ls) (la : a.length ≤ 1000) (q : ∀ r' H', H r' = none → Same H H' → RoomAt R H' r' x (joinC fn [] (a ++ [k])) → Q (.ref r') H') : rMS R (spGetitem C R) E (.ref r) (.str (tx [k])) H Q := by
  obtain ⟨dr, er⟩ := h.ex
  have n1 : (joinC fn [] a).length ≤ a.length := name_len fn a
  refine v_MS er ⟨r, x, _, _, _, k, rfl, h, pl, inAsc (a := [k]) fl.tab (by simpa using hk) k (by simp), inAsc fl.tab (memN ha), by omega, fun r' H' hr' s' ro => q r' H' hr' s' ?_⟩
  have hm : ∀ c ∈ stepOf (fn k) (joinC fn [] a) k, c ∈ ls := fun c hc => (stepOf_mem hc).elim (fun z => z ▸ hk) (memN ha c)
  rw [stepOf_tab fl.tab hk (memN ha), joinOf_tab fl.tab (name := []) (by simp) hm, show joinC fn [] (stepOf (fn k) (joinC fn [] a) k) = joinC fn [] (a ++ [k]) from name_step fl.ok a k] at ro
  exact ro
theorem sp_name {d : Addr} (fl : Fl ls fn) (hd : H d = some (.dK (tabKV ls fn))) (hw : ∀ c ∈ w, c ∈ ls) (l : w.length ≤ 10000) (q : ∀ H', Same H H' → Q (.str (tx (joinC fn [] w))) H') : spName [.ref d, .str (tx w)] H Q E := ⟨d, ls, fn, w, rfl, hd, fl.tab, fl.ok, fl.asc, hw, l, q⟩
end
theorem v_mdRG {R r : Addr} {H : Hp} {m : Str} {P : Prop} (q : ∃ x a, RoomAt R H r x a ∧ (¬ m = "name" ∧ ¬ m = "plan") ∧ P) : ∃ a dx fs, V.ref r = .ref a ∧ H a = some (.ins R dx fs) ∧ fs.lookup m = none ∧ P := by
  obtain ⟨x, a, h, ⟨h1, h2⟩, q⟩ := q
  obtain ⟨dx, e⟩ := h.ex
  exact ⟨r, dx, _, rfl, e, roomF_no h1 h2, q⟩
end Cw
set_option Elab.async false
set_option linter.all false
set_option maxRecDepth 100000
set_option maxHeartbeats 4000000
/-! ways turned back; the doors that lead nearer -/
namespace Cw
section
variable {cr f : Nat → List Nat} {ls : List Nat}
theorem act_rev (ok : CrOk f) : ∀ (w : List Nat) (g : Nat → Int), act f w.reverse (act f w g) = g
  | [], g => rfl
  | k :: r, g => by
    rw [List.reverse_cons, act_app]
    show act f r.reverse (thr f k (thr f k (act f r g))) = g
    rw [thr_thr ok, act_rev ok r]
theorem act_rev' (ok : CrOk f) (w : List Nat) (g : Nat → Int) : act f w (act f w.reverse g) = g := by
  have := act_rev ok w.reverse g
  rw [List.reverse_reverse] at this
  exact this
theorem act_rev_eq (ok : CrOk f) {v w : List Nat} (h : ∀ g, act f v g = act f w g) (g : Nat → Int) : act f v.reverse g = act f w.reverse g := by
  have e1 := act_rev' ok w g
  rw [← h] at e1
  have e2 := congrArg (act f v.reverse) e1
  rw [act_rev ok] at e2
  exact e2.symm
/-- the name of a way turned back -/
theorem name_rev (ok : CrOk f) (w : List Nat) : nameOf f (nameOf f w).reverse = nameOf f w.reverse := name_eq ok fun g => act_rev_eq ok (name_act ok w) g
theorem name_cat (ok : CrOk f) (a b : List Nat) : nameOf f (nameOf f a ++ nameOf f b) = nameOf f (a ++ b) := name_eq ok fun g => by
  rw [act_app, act_app, name_act ok, name_act ok]
theorem name_catL (ok : CrOk f) (a b : List Nat) : nameOf f (nameOf f a ++ b) = nameOf f (a ++ b) := name_eq ok fun g => by
  rw [act_app, act_app, name_act ok]
theorem name_catR (ok : CrOk f) (a b : List Nat) : nameOf f (a ++ nameOf f b) = nameOf f (a ++ b) := name_eq ok fun g => by
  rw [act_app, act_app, name_act ok]
theorem name_back (ok : CrOk f) (a : List Nat) : nameOf f (a.reverse ++ a) = [] := name_eq (w := []) ok fun g => by
  rw [act_app, act_rev ok]
  rfl
theorem name_there (ok : CrOk f) (a b : List Nat) : nameOf f (a ++ (a.reverse ++ b)) = nameOf f b := name_eq ok fun g => by
  rw [act_app, act_app, act_rev' ok]
/-- the way from one room to another one -/
def wayC (f : Nat → List Nat) (a b : List Nat) : List Nat := nameOf f (a.reverse ++ b)
theorem way_name (ok : CrOk f) (a b : List Nat) : wayC f (nameOf f a) (nameOf f b) = wayC f a b := name_eq ok fun g => by
  rw [act_app, act_app, name_act ok b, act_rev_eq ok (name_act ok a)]
theorem way_rev (ok : CrOk f) (a b : List Nat) : nameOf f (wayC f a b).reverse = wayC f b a := by
  unfold wayC
  rw [name_rev ok, List.reverse_append, List.reverse_reverse]
theorem way_len_le (ok : CrOk f) (a b : List Nat) : (wayC f b a).length ≤ (wayC f a b).length := by
  rw [← way_rev ok a b]
  have := name_len f (wayC f a b).reverse
  rw [List.length_reverse] at this
  exact this
theorem way_len (ok : CrOk f) (a b : List Nat) : (wayC f b a).length = (wayC f a b).length := Nat.le_antisymm (way_len_le ok a b) (way_len_le ok b a)
theorem way_tri (ok : CrOk f) (a b c : List Nat) : (wayC f a b).length ≤ (wayC f a c).length + (wayC f c b).length := by
  have e : wayC f a b = nameOf f (wayC f a c ++ wayC f c b) := by
    unfold wayC
    rw [name_cat ok]
    refine name_eq ok fun g => ?_
    simp only [act_app]
    rw [act_rev' ok]
  rw [e, ← List.length_append]
  exact name_len f _
theorem way_self (ok : CrOk f) (a : List Nat) : wayC f a a = [] := name_back ok a
theorem way_nil (a : List Nat) : wayC f [] a = nameOf f a := rfl
theorem way_goes (ok : CrOk f) (a b : List Nat) : nameOf f (a ++ wayC f a b) = nameOf f b := by
  unfold wayC
  rw [name_catR ok, name_there ok]
/-! ### odd and even -/
theorem step_len (part name : List Nat) (k : Nat) : (stepOf part name k).length = name.length + 1 ∨ (stepOf part name k).length + 1 = name.length := by
  obtain ⟨d, e, e1, hd, he, hc⟩ := stepOf_cases part name k
  have l1 := congrArg List.length e1
  rw [List.length_reverse, List.length_append] at l1
  rcases hc with ⟨e', rfl, e2⟩ | ⟨hk, e2⟩
  · have l2 := congrArg List.length e2
    rw [List.length_reverse, List.length_append] at l2
    rw [List.length_cons] at l1
    right
    omega
  · have l2 := congrArg List.length e2
    rw [List.length_reverse, List.length_append, List.length_reverse, putIn_len, List.length_reverse] at l2
    left
    omega
theorem join_par (f : Nat → List Nat) : ∀ (w n : List Nat), ((joinC f n w).length + n.length + w.length) % 2 = 0
  | [], n => by
    show (n.length + n.length + 0) % 2 = 0
    omega
  | k :: r, n => by
    have ih := join_par f r (stepOf (f k) n k)
    show ((joinC f (stepOf (f k) n k) r).length + n.length + (k :: r).length) % 2 = 0
    rw [List.length_cons]
    have := step_len (f k) n k
    omega
theorem name_par (f : Nat → List Nat) (w : List Nat) : ((nameOf f w).length + w.length) % 2 = 0 := by
  have := join_par f w []
  rw [List.length_nil] at this
  show ((joinC f [] w).length + w.length) % 2 = 0
  omega
theorem way_par (ok : CrOk f) (a b : List Nat) : ((nameOf f a).length + (nameOf f b).length + (wayC f a b).length) % 2 = 0 := by
  have h1 := name_par f a
  have h2 := name_par f b
  have h3 := name_par f (a.reverse ++ b)
  rw [List.length_append, List.length_reverse] at h3
  unfold wayC
  omega
/-! ### doors nearer -/
instance descDec (cr : Nat → List Nat) (s : Nat) : (w : List Nat) → Decidable (desc cr s w)
  | [] => isFalse id
  | t :: r => by
    have := descDec cr s r
    exact inferInstanceAs (Decidable (t = s ∨ (t ∈ cr s ∧ desc cr s r)))
theorem Red_iff : ∀ {w : List Nat}, Red cr w ↔ ∀ p t q r, w = p ++ t :: (q ++ t :: r) → ¬ ∀ y ∈ q, y ∈ cr t
  | [] => ⟨fun _ p t q r e => (by cases p <;> cases e), fun _ => trivial⟩
  | x :: w => by
    constructor
    · intro h p t q r e hq
      cases p with
      | nil =>
        injection e with e1 e2
        subst e1
        exact h.1 (e2 ▸ desc_of hq)
      | cons y p =>
        injection e with e1 e2
        exact Red_iff.mp h.2 p t q r e2 hq
    · intro h
      refine ⟨fun z => ?_, Red_iff.mpr fun p t q r e hq => h (x :: p) t q r (by rw [e]; rfl) hq⟩
      obtain ⟨p, q, e, hp⟩ := desc_split z
      exact h [] x p q (by rw [e]; rfl) hp
theorem Red.rev {w : List Nat} (h : Red cr w) : Red cr w.reverse := by
  rw [Red_iff]
  intro p t q r e hq
  have e2 := congrArg List.reverse e
  rw [List.reverse_reverse] at e2
  refine Red_iff.mp h r.reverse t q.reverse p.reverse ?_ fun y hy => hq y (List.mem_reverse.mp hy)
  rw [e2]
  simp
/-- the doors of a room that lead back -/
theorem backs_desc (ok : CrOk f) {w : List Nat} (hw : ∀ y ∈ w, y ∈ ls) : (ls.filter fun c => decide (∃ x ∈ ls, act f w.reverse (unit x) c < 0)) = ls.filter fun c => decide (desc f c (nameOf f w).reverse) := by
  refine List.filter_congr fun c hc => ?_
  have h1 := mark_neg (ls := ls) ok (name_NF ok w).red.rev (fun y hy => hw y (name_mem (List.mem_reverse.mp hy))) hc
  rw [Bool.eq_iff_iff, decide_eq_true_iff, decide_eq_true_iff, ← h1]
  unfold mark
  have e : ∀ g, act f (nameOf f w).reverse g = act f w.reverse g := act_rev_eq ok (name_act ok w)
  simp only [e]
theorem desc_two (ok : CrOk cr) {s t : Nat} (ne : s ≠ t) : ∀ {w : List Nat}, desc cr s w → desc cr t w → s ∈ cr t
  | [], h, _ => h.elim
  | x :: r, h1, h2 => by
    rcases h1 with rfl | ⟨a1, b1⟩
    · rcases h2 with rfl | ⟨a2, b2⟩
      · exact absurd rfl ne
      · exact a2
    · rcases h2 with rfl | ⟨a2, b2⟩
      · exact ok.sym _ _ a1
      · exact desc_two ok ne b1 b2
theorem step_len_desc (ok : CrOk cr) (name : List Nat) (k : Nat) : (desc cr k name.reverse → (stepOf (cr k) name k).length + 1 = name.length) ∧ (¬ desc cr k name.reverse → (stepOf (cr k) name k).length = name.length + 1) := by
  obtain ⟨d, e, e1, hd, he, hc⟩ := stepOf_cases (cr k) name k
  have l1 := congrArg List.length e1
  rw [List.length_reverse, List.length_append] at l1
  rw [e1]
  have hp := desc_pass (q := e) ok hd
  rcases hc with ⟨e', rfl, e2⟩ | ⟨hk, e2⟩
  · have l2 := congrArg List.length e2
    rw [List.length_reverse, List.length_append] at l2
    rw [List.length_cons] at l1
    exact ⟨fun _ => by omega, fun z => absurd (hp.mpr (.inl rfl)) z⟩
  · have l2 := congrArg List.length e2
    rw [List.length_reverse, List.length_append, List.length_reverse, putIn_len, List.length_reverse] at l2
    refine ⟨fun z => ?_, fun _ => by omega⟩
    have z := hp.mp z
    cases e with
    | nil => exact z.elim
    | cons y r =>
      rcases z with z | ⟨z, _⟩
      · exact absurd (by rw [z]; rfl) hk
      · exact absurd z (he y rfl)
/-- letters of a way that all before them cross -/
def frees (f : Nat → List Nat) (ks : List Nat) (p : List Nat) : List Nat := p.foldl (fun free k => free.filter fun o => decide (o ∈ f k)) ks
def founds (f : Nat → List Nat) : List Nat → List Nat → List Nat
  | _, [] => []
  | free, k :: r => (if k ∈ free then [k] else []) ++ founds f (free.filter fun o => decide (o ∈ f k)) r
theorem founds_mem (ok : CrOk f) {s : Nat} : ∀ {w free : List Nat}, s ∈ founds f free w ↔ s ∈ free ∧ desc f s w
  | [], free => ⟨fun z => (nomatch z), fun z => z.2.elim⟩
  | k :: r, free => by
    have ih := founds_mem ok (s := s) (w := r) (free := free.filter fun o => decide (o ∈ f k))
    show s ∈ (if k ∈ free then [k] else []) ++ founds f _ r ↔ s ∈ free ∧ (k = s ∨ (k ∈ f s ∧ desc f s r))
    rw [List.mem_append, ih, List.mem_filter, decide_eq_true_iff]
    constructor
    · rintro (h | ⟨⟨h1, h2⟩, h3⟩)
      · by_cases c : k ∈ free
        · rw [if_pos c, List.mem_singleton] at h
          exact ⟨h ▸ c, .inl h.symm⟩
        · rw [if_neg c] at h
          cases h
      · exact ⟨h1, .inr ⟨ok.sym _ _ h2, h3⟩⟩
    · rintro ⟨h1, rfl | ⟨h2, h3⟩⟩
      · left
        rw [if_pos h1]
        exact List.mem_singleton.mpr rfl
      · right
        exact ⟨⟨h1, ok.sym _ _ h2⟩, h3⟩
theorem founds_nil (f : Nat → List Nat) : ∀ w : List Nat, founds f [] w = []
  | [] => rfl
  | k :: r => by
    show (if k ∈ ([] : List Nat) then [k] else []) ++ founds f [] r = []
    rw [if_neg (fun z => nomatch z), founds_nil f r]
    rfl
end
end Cw
set_option Elab.async false
set_option linter.all false
set_option maxRecDepth 100000
set_option maxHeartbeats 4000000
namespace Cw
open PySem PySem.Spec L2
local macro_rules | `(tactic| walk_at "side") => `(tactic| first | omega | assumption | (dsimp only; omega) | (unfold CMul; omega) | exact ⟨by decide, by decide, by decide⟩ | exact wdiv (by first | assumption | decide | omega) (by first | assumption | decide | omega) | (simp only [List.length_cons, List.length_nil]; omega) | rfl)
local macro_rules | `(tactic| walk_at "hl") => `(tactic| first | assumption | exact upd_same | ((refine Cw.Same.at (by assumption) ?_); walk_at "hl") | ((refine Cw.Keep.at (by assumption) ?_ (by assumption)); walk_at "hl"))
local macro_rules | `(tactic| walk_at "st") => `(tactic| first
  | (with_reducible refine s_seq ?_) | (with_reducible refine g_nm ?_) | (with_reducible refine s_next ?_) | (with_reducible refine s_set ?_) | (with_reducible refine s_drop ?_) | (with_reducible refine s_ret ?_) | (with_reducible refine s_if ?_)
  | ((with_reducible refine e_varG ?_); refine ⟨_, (by with_unfolding_all rfl), ?_⟩) | (with_reducible refine e_c ?_) | (with_reducible refine e_op ?_) | (with_reducible refine e_un ?_)
  | (with_reducible refine e_cons ?_) | (with_reducible refine e_nil ?_) | (with_reducible refine e_cb ?_) | (with_reducible refine e_call ?_) | (with_reducible refine e_md ?_)
  | (with_reducible refine t_test ?_) | (with_reducible refine t_B ?_) | (with_reducible refine t_and ?_) | (with_reducible refine t_or ?_) | (with_reducible refine t_not ?_)
  | (with_reducible refine e_andV ?_) | (with_reducible refine e_orV ?_) | (with_reducible refine e_notV ?_) | (with_reducible refine e_if ?_)
  | (with_reducible refine v_I0 ?_) | ((with_reducible refine v_I ?c ?_); try (case c => walk_at "side")) | (with_reducible refine v_bl ?_)
  | ((with_reducible refine v_eq ?c ?_); (case c => with_unfolding_all rfl)) | ((with_reducible refine v_ne ?c ?_); (case c => with_unfolding_all rfl))
  | (with_reducible refine v_inti ?_) | (with_reducible refine v_intb ?_) | ((with_reducible refine v_lenG ?_); refine ⟨_, (by walk_at "hl"), ?_⟩)
  | ((with_reducible refine v_lenS ?c ?_); try (case c => walk_at "side"))
  | (with_reducible refine e_dnew ?_) | (with_reducible refine e_dget ?_) | (with_reducible refine s_dput ?_) | (with_reducible refine e_lst ?_) | (with_reducible refine e_tup ?_)
  | ((with_reducible refine v_lst ?c ?_); (case c => walk_at "side")) | ((with_reducible refine v_tup ?c ?_); (case c => walk_at "side"))
  | ((with_reducible refine v_dgetG ?_); refine ⟨_, (by assumption), ?_⟩)
  | (with_reducible refine e_sl ?_) | (with_reducible refine e_nopart ?_) | (with_reducible refine e_part ?_) | (with_reducible refine e_m1 ?_) | (with_reducible refine v_isS ?_) | (with_reducible refine v_int ?_)
  | (with_reducible refine e_lc ?_) | (with_reducible refine e_iStr ?_) | (with_reducible refine e_iEnumS ?_) | (with_reducible refine v_iEnumS ?_) | (with_reducible refine v_str ?_) | (with_reducible refine e_yes ?_) | (with_reducible refine e_fld ?_) | (with_reducible refine e_sfld ?_)
  | ((with_reducible refine v_addS ?c ?_); try (case c => walk_at "side")) | (with_reducible refine v_inS ?_) | (with_reducible refine v_notInS ?_) | (with_reducible refine v_ltS ?_)
  | ((with_reducible refine v_inLG ?_); refine ⟨_, (by walk_at "hl"), ?_⟩) | (with_reducible refine v_isiS ?_) | (with_reducible refine e_revS ?_) | ((with_reducible refine v_revS ?c ?_); try (case c => walk_at "side"))
  | ((with_reducible refine v_lenSetG ?_); refine ⟨_, (by walk_at "hl"), ?_⟩)
  | (with_reducible refine e_bm ?_) | (with_reducible refine e_bm0 ?_) | ((with_reducible refine v_tyLG ?_); refine ⟨_, (by walk_at "hl"), ?_⟩)
  | (with_reducible refine iteNT ?_) | (with_reducible refine iteNF ?_) | (with_reducible refine e_for ?_)
  | (with_reducible refine e_iL ?_) | (with_reducible refine e_iT ?_) | ((with_reducible refine v_iLG ?_); refine ⟨_, (by walk_at "hl"), ?_⟩) | (with_reducible refine e_iR1 ?_) | ((with_reducible refine v_iR1 ?c1 ?c2 ?_); try (case c1 => walk_at "side"); try (case c2 => walk_at "side"))
  | (with_reducible refine e_iR2 ?_) | ((with_reducible refine v_iR2 ?c1 ?_); try (case c1 => walk_at "side"))
  | (with_reducible refine e_pr0 ?_) | (with_reducible refine e_pr ?_) | (with_reducible refine e_disp ?_) | (with_reducible refine s_asgT ?_) | (with_reducible refine e_tryA ?_) | (with_reducible refine e_callS ?_) | (with_reducible refine e_mdS ?_) | (with_reducible refine e_par ?_) | (with_reducible refine v_par ?_) | (with_reducible refine e_par3 ?_) | (with_reducible refine v_par3 ?_) | (with_reducible refine e_iK ?_) | (with_reducible refine e_dnotin ?_)
  | (with_reducible refine iteT ?_) | (with_reducible refine iteF ?_))
local macro_rules | `(tactic| walk_at "go") => `(tactic| repeat walk_at "st")
section
variable {P : Program} {w : World} {K : PySem.W.Frag} {mg : Str → Option Value} {base : Heap} {C : Addr}
abbrev stturned_back : Stmt := (top 14)
abbrev Nturned_back : List Str := ["plan", "name"]
theorem scturned_back : FnScope Nturned_back ["plan", "name"] (defScope stturned_back) := ⟨rfl, rfl, rfl, by decide +kernel, rfl, by decide +kernel, by decide +kernel⟩

theorem ok_turned_back (F : FnAt K mg "turned_back" stturned_back) (D_joined : Def P w K mg base CX0 2 "joined" ["plan", "name", "way"] (spJoined C)) : Def P w K mg base CX0 3 "turned_back" ["plan", "name"] (spBack C) := by
  refine F.ok scturned_back (fun _ _ _ _ _ _ us hl => match us, hl with | [_, _], _ => rfl) (fun vs H Q E h => ?_) (fun f cdv A outer s H vs Q E hr h => ?_)
  · obtain ⟨x, ks, ps, name, rfl, _⟩ := h
    rfl
  obtain ⟨x, ks, ps, name, rfl, h1, hk, hl, q⟩ := h
  have hu := hu_of hr
  have nd := scturned_back.nd
  refine ⟨_, (pss_one (ps_ret (pe_cd D_joined hr pass0 (pa_cons (pv 0) (pa_cons (pe_tx [] (by decide +kernel)) (pa_cons (pe_revS (pv 1)) pa_nil)))))), ?_⟩
  refine s_start [some _, some _] rfl ?_
  walk_at "go"

  refine ⟨x, ks, ps, [], name.reverse, rfl, h1, fun c hc => hk c (List.mem_reverse.mp hc), ?_, q⟩
  rw [List.length_reverse, List.length_nil]
  omega
abbrev stway_from : Stmt := (top 15)
abbrev Nway_from : List Str := ["plan", "name", "goal"]
theorem scway_from : FnScope Nway_from ["plan", "name", "goal"] (defScope stway_from) := ⟨rfl, rfl, rfl, by decide +kernel, rfl, by decide +kernel, by decide +kernel⟩

theorem ok_way_from (F : FnAt K mg "way_from" stway_from) (D_joined : Def P w K mg base CX0 2 "joined" ["plan", "name", "way"] (spJoined C)) (D_turned_back : Def P w K mg base CX0 3 "turned_back" ["plan", "name"] (spBack C)) : Def P w K mg base CX0 4 "way_from" ["plan", "name", "goal"] (spWayFrom C) := by
  refine F.ok scway_from (fun _ _ _ _ _ _ us hl => match us, hl with | [_, _, _], _ => rfl) (fun vs H Q E h => ?_) (fun f cdv A outer s H vs Q E hr h => ?_)
  · obtain ⟨x, ks, ps, name, goal, rfl, _⟩ := h
    rfl
  obtain ⟨x, ks, ps, name, goal, rfl, h1, hk, hg, hl, hm, q⟩ := h
  have hu := hu_of hr
  have nd := scway_from.nd
  replace D_joined := D_joined.mono (show 2 ≤ 3 by decide)
  refine ⟨_, (pss_one (ps_ret (pe_cd D_joined hr pass0 (pa_cons (pv 0) (pa_cons (pe_cd D_turned_back hr pass0 (pa_cons (pv 0) (pa_cons (pv 1) pa_nil))) (pa_cons (pv 2) pa_nil)))))), ?_⟩
  refine s_start [some _, some _, some _] rfl ?_
  walk_at "go"
  refine ⟨x, ks, ps, name, rfl, h1, hk, hl, ?_⟩
  walk_at "go"
  refine ⟨x, ks, ps, _, goal, rfl, h1, hg, ?_, q⟩
  have := backOf_len ks ps name
  omega
end
end Cw
set_option Elab.async false
set_option linter.all false
set_option maxRecDepth 100000
set_option maxHeartbeats 4000000
namespace Cw
open PySem PySem.Spec L2
local macro_rules | `(tactic| walk_at "side") => `(tactic| first | omega | assumption | (dsimp only; omega) | (unfold CMul; omega) | exact ⟨by decide, by decide, by decide⟩ | exact wdiv (by first | assumption | decide | omega) (by first | assumption | decide | omega) | (simp only [List.length_cons, List.length_nil]; omega) | rfl)
local macro_rules | `(tactic| walk_at "hl") => `(tactic| first | assumption | exact upd_same | ((refine Cw.Same.at (by assumption) ?_); walk_at "hl") | ((refine Cw.Keep.at (by assumption) ?_ (by assumption)); walk_at "hl"))
local macro_rules | `(tactic| walk_at "st") => `(tactic| first
  | (with_reducible refine s_seq ?_) | (with_reducible refine g_nm ?_) | (with_reducible refine s_next ?_) | (with_reducible refine s_set ?_) | (with_reducible refine s_drop ?_) | (with_reducible refine s_ret ?_) | (with_reducible refine s_if ?_)
  | ((with_reducible refine e_varG ?_); refine ⟨_, (by with_unfolding_all rfl), ?_⟩) | (with_reducible refine e_c ?_) | (with_reducible refine e_op ?_) | (with_reducible refine e_un ?_)
  | (with_reducible refine e_cons ?_) | (with_reducible refine e_nil ?_) | (with_reducible refine e_cb ?_) | (with_reducible refine e_call ?_) | (with_reducible refine e_md ?_)
  | (with_reducible refine t_test ?_) | (with_reducible refine t_B ?_) | (with_reducible refine t_and ?_) | (with_reducible refine t_or ?_) | (with_reducible refine t_not ?_)
  | (with_reducible refine e_andV ?_) | (with_reducible refine e_orV ?_) | (with_reducible refine e_notV ?_) | (with_reducible refine e_if ?_)
  | (with_reducible refine v_I0 ?_) | ((with_reducible refine v_I ?c ?_); try (case c => walk_at "side")) | (with_reducible refine v_bl ?_)
  | ((with_reducible refine v_eq ?c ?_); (case c => with_unfolding_all rfl)) | ((with_reducible refine v_ne ?c ?_); (case c => with_unfolding_all rfl))
  | (with_reducible refine v_inti ?_) | (with_reducible refine v_intb ?_) | ((with_reducible refine v_lenG ?_); refine ⟨_, (by walk_at "hl"), ?_⟩)
  | ((with_reducible refine v_lenS ?c ?_); try (case c => walk_at "side"))
  | (with_reducible refine e_dnew ?_) | (with_reducible refine e_dget ?_) | (with_reducible refine s_dput ?_) | (with_reducible refine e_lst ?_) | (with_reducible refine e_tup ?_)
  | ((with_reducible refine v_lst ?c ?_); (case c => walk_at "side")) | ((with_reducible refine v_tup ?c ?_); (case c => walk_at "side"))
  | ((with_reducible refine v_dgetG ?_); refine ⟨_, (by assumption), ?_⟩)
  | (with_reducible refine e_sl ?_) | (with_reducible refine e_nopart ?_) | (with_reducible refine e_part ?_) | (with_reducible refine e_m1 ?_) | (with_reducible refine v_isS ?_) | (with_reducible refine v_int ?_)
  | (with_reducible refine e_lc ?_) | (with_reducible refine e_iStr ?_) | (with_reducible refine e_iEnumS ?_) | (with_reducible refine v_iEnumS ?_) | (with_reducible refine v_str ?_) | (with_reducible refine e_yes ?_) | (with_reducible refine e_fld ?_) | (with_reducible refine e_sfld ?_)
  | ((with_reducible refine v_addS ?c ?_); try (case c => walk_at "side")) | (with_reducible refine v_inS ?_) | (with_reducible refine v_notInS ?_) | (with_reducible refine v_ltS ?_)
  | ((with_reducible refine v_inLG ?_); refine ⟨_, (by walk_at "hl"), ?_⟩) | (with_reducible refine v_isiS ?_) | (with_reducible refine e_revS ?_) | ((with_reducible refine v_revS ?c ?_); try (case c => walk_at "side"))
  | ((with_reducible refine v_lenSetG ?_); refine ⟨_, (by walk_at "hl"), ?_⟩)
  | (with_reducible refine e_bm ?_) | (with_reducible refine e_bm0 ?_) | ((with_reducible refine v_tyLG ?_); refine ⟨_, (by walk_at "hl"), ?_⟩)
  | (with_reducible refine iteNT ?_) | (with_reducible refine iteNF ?_) | (with_reducible refine e_for ?_)
  | (with_reducible refine e_iL ?_) | (with_reducible refine e_iT ?_) | ((with_reducible refine v_iLG ?_); refine ⟨_, (by walk_at "hl"), ?_⟩) | (with_reducible refine e_iR1 ?_) | ((with_reducible refine v_iR1 ?c1 ?c2 ?_); try (case c1 => walk_at "side"); try (case c2 => walk_at "side"))
  | (with_reducible refine e_iR2 ?_) | ((with_reducible refine v_iR2 ?c1 ?_); try (case c1 => walk_at "side"))
  | (with_reducible refine e_pr0 ?_) | (with_reducible refine e_pr ?_) | (with_reducible refine e_disp ?_) | (with_reducible refine s_asgT ?_) | (with_reducible refine e_tryA ?_) | (with_reducible refine e_callS ?_) | (with_reducible refine e_mdS ?_) | (with_reducible refine e_par ?_) | (with_reducible refine v_par ?_) | (with_reducible refine e_par3 ?_) | (with_reducible refine v_par3 ?_) | (with_reducible refine e_iK ?_) | (with_reducible refine e_dnotin ?_)
  | (with_reducible refine iteT ?_) | (with_reducible refine iteF ?_))
local macro_rules | `(tactic| walk_at "go") => `(tactic| repeat walk_at "st")
section
variable {P : Program} {w : World} {K : PySem.W.Frag} {mg : Str → Option Value} {base : Heap} {C R O : Addr}
end
end Cw
set_option Elab.async false
set_option linter.all false
set_option maxRecDepth 100000
set_option maxHeartbeats 4000000
namespace Cw
open PySem PySem.Spec L2
local macro_rules | `(tactic| walk_at "side") => `(tactic| first | omega | assumption | (dsimp only; omega) | (unfold CMul; omega) | exact ⟨by decide, by decide, by decide⟩ | exact wdiv (by first | assumption | decide | omega) (by first | assumption | decide | omega) | (simp only [List.length_cons, List.length_nil]; omega) | rfl)
local macro_rules | `(tactic| walk_at "hl") => `(tactic| first | assumption | exact upd_same | ((refine Cw.Same.at (by assumption) ?_); walk_at "hl") | ((refine Cw.Keep.at (by assumption) ?_ (by assumption)); walk_at "hl"))
local macro_rules | `(tactic| walk_at "st") => `(tactic| first
  | (with_reducible refine s_seq ?_) | (with_reducible refine g_nm ?_) | (with_reducible refine s_next ?_) | (with_reducible refine s_set ?_) | (with_reducible refine s_drop ?_) | (with_reducible refine s_ret ?_) | (with_reducible refine s_if ?_)
  | ((with_reducible refine e_varG ?_); refine ⟨_, (by with_unfolding_all rfl), ?_⟩) | (with_reducible refine e_c ?_) | (with_reducible refine e_op ?_) | (with_reducible refine e_un ?_)
  | (with_reducible refine e_cons ?_) | (with_reducible refine e_nil ?_) | (with_reducible refine e_cb ?_) | (with_reducible refine e_call ?_) | (with_reducible refine e_md ?_)
  | (with_reducible refine t_test ?_) | (with_reducible refine t_B ?_) | (with_reducible refine t_and ?_) | (with_reducible refine t_or ?_) | (with_reducible refine t_not ?_)
  | (with_reducible refine e_andV ?_) | (with_reducible refine e_orV ?_) | (with_reducible refine e_notV ?_) | (with_reducible refine e_if ?_)
  | (with_reducible refine v_I0 ?_) | ((with_reducible refine v_I ?c ?_); try (case c => walk_at "side")) | (with_reducible refine v_bl ?_)
  | ((with_reducible refine v_eq ?c ?_); (case c => with_unfolding_all rfl)) | ((with_reducible refine v_ne ?c ?_); (case c => with_unfolding_all rfl))
  | (with_reducible refine v_inti ?_) | (with_reducible refine v_intb ?_) | ((with_reducible refine v_lenG ?_); refine ⟨_, (by walk_at "hl"), ?_⟩)
  | ((with_reducible refine v_lenS ?c ?_); try (case c => walk_at "side"))
  | (with_reducible refine e_dnew ?_) | (with_reducible refine e_dget ?_) | (with_reducible refine s_dput ?_) | (with_reducible refine e_lst ?_) | (with_reducible refine e_tup ?_)
  | ((with_reducible refine v_lst ?c ?_); (case c => walk_at "side")) | ((with_reducible refine v_tup ?c ?_); (case c => walk_at "side"))
  | ((with_reducible refine v_dgetG ?_); refine ⟨_, (by assumption), ?_⟩)
  | (with_reducible refine e_sl ?_) | (with_reducible refine e_nopart ?_) | (with_reducible refine e_part ?_) | (with_reducible refine e_m1 ?_) | (with_reducible refine v_isS ?_) | (with_reducible refine v_int ?_)
  | (with_reducible refine e_lc ?_) | (with_reducible refine e_iStr ?_) | (with_reducible refine e_iEnumS ?_) | (with_reducible refine v_iEnumS ?_) | (with_reducible refine v_str ?_) | (with_reducible refine e_yes ?_) | (with_reducible refine e_fld ?_) | (with_reducible refine e_sfld ?_)
  | ((with_reducible refine v_addS ?c ?_); try (case c => walk_at "side")) | (with_reducible refine v_inS ?_) | (with_reducible refine v_notInS ?_) | (with_reducible refine v_ltS ?_)
  | ((with_reducible refine v_inLG ?_); refine ⟨_, (by walk_at "hl"), ?_⟩) | (with_reducible refine v_isiS ?_) | (with_reducible refine e_revS ?_) | ((with_reducible refine v_revS ?c ?_); try (case c => walk_at "side"))
  | ((with_reducible refine v_lenSetG ?_); refine ⟨_, (by walk_at "hl"), ?_⟩)
  | (with_reducible refine e_bm ?_) | (with_reducible refine e_bm0 ?_) | ((with_reducible refine v_tyLG ?_); refine ⟨_, (by walk_at "hl"), ?_⟩)
  | (with_reducible refine iteNT ?_) | (with_reducible refine iteNF ?_) | (with_reducible refine e_for ?_)
  | (with_reducible refine e_iL ?_) | (with_reducible refine e_iT ?_) | ((with_reducible refine v_iLG ?_); refine ⟨_, (by walk_at "hl"), ?_⟩) | (with_reducible refine e_iR1 ?_) | ((with_reducible refine v_iR1 ?c1 ?c2 ?_); try (case c1 => walk_at "side"); try (case c2 => walk_at "side"))
  | (with_reducible refine e_iR2 ?_) | ((with_reducible refine v_iR2 ?c1 ?_); try (case c1 => walk_at "side"))
  | (with_reducible refine e_pr0 ?_) | (with_reducible refine e_pr ?_) | (with_reducible refine e_disp ?_) | (with_reducible refine s_asgT ?_) | (with_reducible refine e_tryA ?_) | (with_reducible refine e_callS ?_) | (with_reducible refine e_mdS ?_) | (with_reducible refine e_par ?_) | (with_reducible refine v_par ?_) | (with_reducible refine e_par3 ?_) | (with_reducible refine v_par3 ?_) | (with_reducible refine e_iK ?_) | (with_reducible refine e_dnotin ?_)
  | (with_reducible refine iteT ?_) | (with_reducible refine iteF ?_))
local macro_rules | `(tactic| walk_at "go") => `(tactic| repeat walk_at "st")
def spFree (C : Addr) : Sp := fun vs H Q _ => ∃ (x : Addr) (ks : List Nat) (ps : List (List Nat)) (free : List Nat) (k : Nat), vs = [.ref x, .str (tx free), .str (tx [k])] ∧ PlanAt C H x ks ps ∧ k ∈ ks ∧ free.length ≤ 1000 ∧ ∀ H', Same H H' → Q (.str (tx (free.filter fun o => decide (o ∈ crossOf ks ps k)))) H'
/-- the kinds in front of a way -/
def firstsOf (ks : List Nat) (ps : List (List Nat)) (way : List Nat) : List Nat := ks.filter fun s => decide (s ∈ founds (crossOf ks ps) ks way)
def spFirst (C : Addr) : Sp := fun vs H Q _ => ∃ (x : Addr) (ks : List Nat) (ps : List (List Nat)) (way : List Nat), vs = [.ref x, .str (tx way)] ∧ PlanAt C H x ks ps ∧ (∀ c ∈ way, c ∈ ks) ∧ ks.length ≤ 1000 ∧ way.length ≤ 100000 ∧ ∀ H', Same H H' → Q (.str (tx (firstsOf ks ps way))) H'
def spLast (C : Addr) : Sp := fun vs H Q _ => ∃ (x : Addr) (ks : List Nat) (ps : List (List Nat)) (way : List Nat), vs = [.ref x, .str (tx way)] ∧ PlanAt C H x ks ps ∧ (∀ c ∈ way, c ∈ ks) ∧ ks.length ≤ 1000 ∧ way.length ≤ 100000 ∧ ∀ H', Same H H' → Q (.str (tx (firstsOf ks ps way.reverse))) H'
def spNearer (C R : Addr) : Sp := fun vs H Q _ => ∃ (r x : Addr) (ks : List Nat) (ps : List (List Nat)) (name : List Nat), vs = [.ref r] ∧ RoomAt R H r x name ∧ PlanAt C H x ks ps ∧ (∀ c ∈ name, c ∈ ks) ∧ ks.length ≤ 1000 ∧ name.length ≤ 100000 ∧ ∀ H', Same H H' → Q (.str (tx (firstsOf ks ps name.reverse))) H'
theorem filt_len {p : Nat → Bool} {l : List Nat} : (l.filter p).length ≤ l.length := List.length_filter_le p l
theorem founds_len (f : Nat → List Nat) : ∀ (w free : List Nat), (founds f free w).length ≤ w.length
  | [], _ => Nat.le_refl _
  | k :: r, free => by
    have := founds_len f r (free.filter fun o => decide (o ∈ f k))
    show ((if k ∈ free then [k] else []) ++ founds f _ r).length ≤ _
    rw [List.length_append, List.length_cons]
    split <;> simp <;> omega
theorem str_emp {free : List Nat} : decide (V.str (tx free) = V.str (tx [])) = decide (free = []) := dec_tx
section
variable {P : Program} {w : World} {K : PySem.W.Frag} {mg : Str → Option Value} {base : Heap} {C R O : Addr}
abbrev ststill_free : Stmt := (top 16)
abbrev Nstill_free : List Str := ["plan", "kinds", "kind", "other"]
theorem scstill_free : FnScope Nstill_free ["plan", "kinds", "kind"] (defScope ststill_free) := ⟨rfl, rfl, rfl, by decide +kernel, rfl, by decide +kernel, by decide +kernel⟩

theorem ok_still_free (F : FnAt K mg "still_free" ststill_free) (T : TxtP K mg C) : Def P w K mg base CX0 1 "still_free" ["plan", "kinds", "kind"] (spFree C) := by
  refine F.ok scstill_free (fun _ _ _ _ _ _ us hl => match us, hl with | [_, _, _], _ => rfl) (fun vs H Q E h => ?_) (fun f cdv A outer s H vs Q E hr h => ?_)
  · obtain ⟨x, ks, ps, free, k, rfl, _⟩ := h
    rfl
  obtain ⟨x, ks, ps, free, k, rfl, h1, hk, hl, q⟩ := h
  have hu := hu_of hr
  have nd := scstill_free.nd
  refine ⟨_, (pss_one (ps_ret (pe_joinK (K := K) rfl (pe_tx [] (by decide +kernel)) (pe_lc (own := [("other", 3)]) (g := gName 3) (by rfl) nd (pi_str (pv 1)) (blkOk_by (own := [("other", 3)]) (N := Nstill_free) (sc := defScope ststill_free) (by decide +kernel)) (fun _ _ _ _ _ => (pg_name (i := 3) nd rfl (Or.inl rfl))) (fun _ _ _ _ _ => (pts_one (pt_cmpR op_inS (pv 3) (pe_dget hu (pe_flK (K := K) rfl (pv 0) rfl) (pv 2) (fun _ _ => rfl)) (by rfl)))) (fun _ _ _ _ _ => (pv 3)))))), ?_⟩
  refine s_start [some _, some _, some _, none] rfl ?_
  obtain ⟨dx, t, d, a1, a2, a3⟩ := h1.ex
  walk_at "go"
  refine v_lcS (l := free) (b := fun c => decide (c ∈ crossOf ks ps k)) (f := fun c => V.str (tx [c])) (by omega) (fun c _ H1 s1 R r => ?_) (fun c _ _ H1 s1 R r => ?_) (fun D H1 hD s1 e1 => ?_)
  · walk_at "go"
    refine v_fld (s1 _ _ a1) T.Plan.cl T.nO planF_o ?_
    walk_at "go"
    refine v_dget (dget_let (g := fun k => V.str (tx (crossOf ks ps k))) (s1 _ _ a3) hk) ?_
    walk_at "go"
    exact r H1 (Same.refl _)
  · walk_at "go"
    exact r H1 (Same.refl _)
  walk_at "go"
  rw [strs_ones] at e1
  have hl2 := filt_len (p := fun c => decide (c ∈ crossOf ks ps k)) (l := free)
  refine v_join e1 (by rw [flat_ones]; omega) ?_
  rw [flat_ones]
  exact q H1 s1
abbrev stfirst_kinds : Stmt := (top 17)
abbrev Nfirst_kinds : List Str := ["plan", "way", "found", "free", "kind"]
theorem scfirst_kinds : FnScope Nfirst_kinds ["plan", "way"] (defScope stfirst_kinds) := ⟨rfl, rfl, rfl, by decide +kernel, rfl, by decide +kernel, by decide +kernel⟩

theorem ok_first_kinds (F : FnAt K mg "first_kinds" stfirst_kinds) (T : TxtP K mg C) (D_still_free : Def P w K mg base CX0 1 "still_free" ["plan", "kinds", "kind"] (spFree C)) : Def P w K mg base CX0 2 "first_kinds" ["plan", "way"] (spFirst C) := by
  refine F.ok scfirst_kinds (fun _ _ _ _ _ _ us hl => match us, hl with | [_, _], _ => rfl) (fun vs H Q E h => ?_) (fun f cdv A outer s H vs Q E hr h => ?_)
  · obtain ⟨x, ks, ps, way, rfl, _⟩ := h
    rfl
  obtain ⟨x, ks, ps, way, rfl, h1, hw, hk, hl, q⟩ := h
  have hu := hu_of hr
  have nd := scfirst_kinds.nd
  refine ⟨_, (pss_cons (ps_set (i := 2) nd rfl (Or.inr rfl) (pe_tx [] (by decide +kernel)))
      (pss_cons (ps_set (i := 3) nd rfl (Or.inl rfl) (pe_flK (K := K) rfl (pv 0) rfl))
      (pss_cutS (ps_for PassesOwn.never rfl (pi_str (pv 1)) (pg_name (i := 4) nd rfl (Or.inl rfl))
      (pss_cons (ps_if (pt_cmpR op_eq (pv 3) (pe_tx [] (by decide +kernel)) (nomark _))
        (pss_one ps_break)
        pss_nil)
        (pss_cutS (ps_if (pt_cmpR op_inS (pv 4) (pv 3) (by rfl))
        (pss_one (ps_set (i := 2) nd rfl (Or.inr rfl) (pe_op op_addS (pv 2) (pv 4))))
        pss_nil)
        (pss_one (ps_set (i := 3) nd rfl (Or.inl rfl) (pe_cd D_still_free hr pass0 (pa_cons (pv 0) (pa_cons (pv 3) (pa_cons (pv 4) pa_nil)))))))))
      (pss_one (ps_ret (pe_joinK (K := K) rfl (pe_tx [] (by decide +kernel)) (pe_lc (own := [("kind", 4)]) (g := gName 4) (by rfl) nd (pi_str (pe_flK (K := K) rfl (pv 0) rfl)) (blkOk_by (own := [("kind", 4)]) (N := Nfirst_kinds) (sc := defScope stfirst_kinds) (by decide +kernel)) (fun _ _ _ _ _ => (pg_name (i := 4) nd rfl (Or.inl rfl))) (fun _ _ _ _ _ => (pts_one (pt_cmpR op_inS (pv 4) (pv 2) (by rfl)))) (fun _ _ _ _ _ => (pv 4))))))))), ?_⟩
  refine s_start [some _, some _, none, none, none] rfl ?_
  obtain ⟨dx, t, d, a1, a2, a3⟩ := h1.ex
  have fl := founds_len (crossOf ks ps) way ks
  walk_at "go"
  refine v_fld a1 T.Plan.cl T.nK planF_k ?_
  walk_at "go"
  refine s_cut (fun σ H' => ∃ free z, σ = [some (.ref x), some (.str (tx way)), some (.str (tx (founds (crossOf ks ps) ks way))), some (.str (tx free)), z] ∧ Same H H') ?_ ?_
  · walk_at "go"
    refine for_it (walk_tx way) (fun i σ H' => ∃ fd free z, σ = [some (.ref x), some (.str (tx way)), some (.str (tx fd)), some (.str (tx free)), z] ∧ Same H H' ∧ free.length ≤ 1000 ∧ founds (crossOf ks ps) ks way = fd ++ founds (crossOf ks ps) free (way.drop i)) ⟨[], ks, _, rfl, Same.refl _, hk, rfl⟩ (fun _ _ _ _ _ => trivial) ?_ ?_
    · rintro i v σ H2 H3 hi ⟨fd, free, z, rfl, s2, lf, e2⟩ ⟨rfl, rfl⟩
      have dr : way.drop i = way.getD i 0 :: way.drop (i + 1) := by
        rw [List.drop_eq_getElem_cons hi, List.getD_eq_getElem?_getD, List.getElem?_eq_getElem hi]
        rfl
      have hc := hw _ (getD_mem hi)
      rw [dr] at e2
      generalize way.getD i 0 = c at *
      have l2 := congrArg List.length e2
      rw [List.length_append] at l2
      walk_at "go"
      rw [dec_tx]
      refine if_dec (fun c1 => ?_) (fun c1 => ?_)
      · refine s_brk ?_
        rw [c1, founds_nil, List.append_nil] at e2
        rw [e2]
        exact ⟨_, _, rfl, s2⟩
      walk_at "go"
      have e3 : founds (crossOf ks ps) free (c :: way.drop (i + 1)) = (if c ∈ free then [c] else []) ++ founds (crossOf ks ps) (free.filter fun o => decide (o ∈ crossOf ks ps c)) (way.drop (i + 1)) := rfl
      rw [e3, ← List.append_assoc] at e2
      have lf2 := filt_len (p := fun o => decide (o ∈ crossOf ks ps c)) (l := free)
      refine s_cut (fun σ H' => σ = [some (.ref x), some (.str (tx way)), some (.str (tx (fd ++ if c ∈ free then [c] else []))), some (.str (tx free)), some (.str (tx [c]))] ∧ H' = H3) ?_ ?_
      · walk_at "go"
        refine if_dec (fun c2 => ?_) (fun c2 => ?_)
        · have l3 : fd.length + [c].length ≤ 1000000 := by
            rw [List.length_singleton]
            omega
          walk_at "go"
          rw [if_pos c2]
          exact ⟨rfl, rfl⟩
        · walk_at "go"
          rw [if_neg c2, List.append_nil]
          exact ⟨rfl, rfl⟩
      rintro σ H4 ⟨rfl, rfl⟩
      walk_at "go"
      refine ⟨x, ks, ps, free, c, rfl, h1.same s2, hc, lf, fun H5 s5 => ?_⟩
      exact ⟨_, _, _, rfl, s2.trans s5, by omega, e2⟩
    · rintro σ H2 ⟨fd, free, z, rfl, s2, lf, e2⟩
      rw [List.drop_length] at e2
      have e2 : founds (crossOf ks ps) ks way = fd := by
        rw [e2]
        exact List.append_nil _
      rw [e2]
      exact ⟨_, _, rfl, s2⟩
  rintro σ H2 ⟨free, z, rfl, s2⟩
  walk_at "go"
  refine v_fld (s2 _ _ a1) T.Plan.cl T.nK planF_k ?_
  walk_at "go"
  refine v_lcS (l := ks) (b := fun c => decide (c ∈ founds (crossOf ks ps) ks way)) (f := fun c => V.str (tx [c])) (by omega) (fun c _ H1 s1 R r => ?_) (fun c _ _ H1 s1 R r => ?_) (fun D H3 hD s3 e3 => ?_)
  · walk_at "go"
    exact r H1 (Same.refl _)
  · walk_at "go"
    exact r H1 (Same.refl _)
  walk_at "go"
  rw [strs_ones] at e3
  have hl2 := filt_len (p := fun c => decide (c ∈ founds (crossOf ks ps) ks way)) (l := ks)
  refine v_join e3 (by rw [flat_ones]; omega) ?_
  rw [flat_ones]
  exact q H3 (s2.trans s3)
end
/-! ### of a drawn floor -/
section
variable {K : PySem.W.Frag} {H : Hp} {Q : VK} {C R O r r' x : Addr} {ls : List Nat} {fn : Nat → List Nat} {a b : List Nat} {E : XK}
theorem way_tab (fl : Fl ls fn) (ha : ∀ c ∈ a, c ∈ ls) (hb : ∀ c ∈ b, c ∈ ls) : wayOf (ascOf ls) (tabPairs ls fn) (joinC fn [] a) (joinC fn [] b) = wayC fn a b := by
  have m1 : ∀ c ∈ (joinC fn [] a).reverse, c ∈ ls := fun c hc => memN ha c (List.mem_reverse.mp hc)
  unfold wayOf backOf
  rw [joinOf_tab fl.tab (name := []) (by simp) m1, joinOf_tab fl.tab (memN m1) (memN hb), ← joinC_app]
  exact way_name fl.ok a b
theorem sp_wayto (fl : Fl ls fn) (h1 : RoomAt R H r x (joinC fn [] a)) (h2 : RoomAt R H r' x (joinC fn [] b)) (pl : PlanAt C H x (ascOf ls) (tabPairs ls fn)) (ha : ∀ c ∈ a, c ∈ ls) (hb : ∀ c ∈ b, c ∈ ls) (la : a.length ≤ 2000) (lb : b.length ≤ 2000) (q : Q (.str (tx (wayC fn a b))) H) : calmOf (spWayTo C R O) [.ref r, .ref r'] H Q E := by
  have n1 : (joinC fn [] a).length ≤ a.length := name_len fn a
  have n2 : (joinC fn [] b).length ≤ b.length := name_len fn b
  refine ⟨r, x, _, r', x, _, true, _, _, rfl, rooms2 h1 h2 pl (pairsOf_small _) (by omega) (by omega), pl, inAsc fl.tab (memN ha), fun _ => inAsc fl.tab (memN hb), fun _ => ?_, fun z => (nomatch z)⟩
  rw [way_tab fl ha hb]
  exact q
theorem sp_dist (fl : Fl ls fn) (h1 : RoomAt R H r x (joinC fn [] a)) (h2 : RoomAt R H r' x (joinC fn [] b)) (pl : PlanAt C H x (ascOf ls) (tabPairs ls fn)) (ha : ∀ c ∈ a, c ∈ ls) (hb : ∀ c ∈ b, c ∈ ls) (la : a.length ≤ 2000) (lb : b.length ≤ 2000) (q : Q (.int (wayC fn a b).length) H) : calmOf (spDistance C R O) [.ref r, .ref r'] H Q E := by
  have n1 : (joinC fn [] a).length ≤ a.length := name_len fn a
  have n2 : (joinC fn [] b).length ≤ b.length := name_len fn b
  refine ⟨r, x, _, r', x, _, true, _, _, rfl, rooms2 h1 h2 pl (pairsOf_small _) (by omega) (by omega), pl, inAsc fl.tab (memN ha), fun _ => inAsc fl.tab (memN hb), fun _ => ?_, fun z => (nomatch z)⟩
  rw [way_tab fl ha hb]
  exact q
theorem asc_self (fl : Fl ls fn) : ascOf ls = ls := by
  have h1 : (ascOf ls).Perm ls := by
    refine (List.perm_ext_iff_of_nodup (ascOf_nodup ls) fl.tab.nd).mpr fun c => ?_
    rw [ascOf_mem]
    exact ⟨fun z => z.2, fun z => ⟨fl.tab.lt c z, z⟩⟩
  have s1 : (ascOf ls).Pairwise (· < ·) := List.Pairwise.filter _ (by decide +kernel : LET.Pairwise (· < ·))
  exact h1.eq_of_pairwise (fun a b _ _ h1 h2 => by omega) s1 fl.asc
theorem founds_congr {f g : Nat → List Nat} : ∀ {w free : List Nat}, (∀ k ∈ w, ∀ c ∈ free, c ∈ f k ↔ c ∈ g k) → founds f free w = founds g free w
  | [], free, _ => rfl
  | k :: r, free, h => by
    have e : (free.filter fun o => decide (o ∈ f k)) = free.filter fun o => decide (o ∈ g k) := List.filter_congr fun c hc => decide_eq_decide.mpr (h k (List.mem_cons_self ..) c hc)
    show (if k ∈ free then [k] else []) ++ founds f _ r = (if k ∈ free then [k] else []) ++ founds g _ r
    rw [e, founds_congr fun y hy c hc => h y (List.mem_cons_of_mem _ hy) c (List.mem_filter.mp hc).1]
/-- nearer, by the marks -/
theorem firsts_tab (fl : Fl ls fn) (ha : ∀ c ∈ a, c ∈ ls) : firstsOf (ascOf ls) (tabPairs ls fn) (joinC fn [] a).reverse = ls.filter fun c => decide (desc fn c (joinC fn [] a).reverse) := by
  unfold firstsOf
  rw [asc_self fl]
  refine List.filter_congr fun c hc => decide_eq_decide.mpr ?_
  rw [founds_congr (g := fn) fun k hk c hc => ?_, founds_mem fl.ok]
  · exact ⟨fun z => z.2, fun z => ⟨hc, z⟩⟩
  · have := cross_tab fl.tab (memN ha k (List.mem_reverse.mp hk)) hc
    rw [asc_self fl] at this
    exact this
theorem sp_nearer (fl : Fl ls fn) (h1 : RoomAt R H r x (joinC fn [] a)) (pl : PlanAt C H x (ascOf ls) (tabPairs ls fn)) (ha : ∀ c ∈ a, c ∈ ls) (la : a.length ≤ 2000) (q : ∀ H', Same H H' → Q (.str (tx (ls.filter fun c => decide (desc fn c (joinC fn [] a).reverse)))) H') : spNearer C R [.ref r] H Q E := by
  have n1 : (joinC fn [] a).length ≤ a.length := name_len fn a
  have tl := fl.tab.len
  refine ⟨r, x, _, _, _, rfl, h1, pl, inAsc fl.tab (memN ha), by rw [asc_self fl]; omega, by omega, fun H' s' => ?_⟩
  rw [firsts_tab fl ha]
  exact q H' s'
end
end Cw
set_option Elab.async false
set_option linter.all false
set_option maxRecDepth 100000
set_option maxHeartbeats 4000000
/-! walls in plain words: two doors of one kind lie in one wall just if their marks agree but for the sign -/
namespace Cw
/-! ### sums of coordinates -/
def sumL : List Nat → (Nat → Int) → Int
  | [], _ => 0
  | x :: r, v => v x + sumL r v
theorem sumL_congr {u v : Nat → Int} : ∀ {ls : List Nat}, (∀ x ∈ ls, u x = v x) → sumL ls u = sumL ls v
  | [], _ => rfl
  | x :: r, h => by
    show u x + sumL r u = v x + sumL r v
    rw [h x (List.mem_cons_self ..), sumL_congr fun y hy => h y (List.mem_cons_of_mem _ hy)]
theorem sumL_comb (a b : Int) (u v : Nat → Int) : ∀ ls : List Nat, sumL ls (fun x => a * u x + b * v x) = a * sumL ls u + b * sumL ls v
  | [] => by simp [sumL]
  | x :: r => by
    show (a * u x + b * v x) + sumL r _ = a * (u x + sumL r u) + b * (v x + sumL r v)
    rw [sumL_comb a b u v r, Int.mul_add, Int.mul_add]
    omega
theorem sumL_nonneg {v : Nat → Int} : ∀ {ls : List Nat}, (∀ x ∈ ls, 0 ≤ v x) → 0 ≤ sumL ls v
  | [], _ => by simp [sumL]
  | x :: r, h => by
    show 0 ≤ v x + sumL r v
    have := h x (List.mem_cons_self ..)
    have := sumL_nonneg (ls := r) fun y hy => h y (List.mem_cons_of_mem _ hy)
    omega
theorem sumL_nonpos {v : Nat → Int} : ∀ {ls : List Nat}, (∀ x ∈ ls, v x ≤ 0) → sumL ls v ≤ 0
  | [], _ => by simp [sumL]
  | x :: r, h => by
    show v x + sumL r v ≤ 0
    have := h x (List.mem_cons_self ..)
    have := sumL_nonpos (ls := r) fun y hy => h y (List.mem_cons_of_mem _ hy)
    omega
theorem sumL_pos {v : Nat → Int} : ∀ {ls : List Nat}, Pos ls v → 1 ≤ sumL ls v
  | [], h => by
    obtain ⟨x, hx, _⟩ := h.2
    cases hx
  | y :: r, h => by
    show 1 ≤ v y + sumL r v
    have h1 := h.1 y (List.mem_cons_self ..)
    have h2 := sumL_nonneg (ls := r) fun z hz => h.1 z (List.mem_cons_of_mem _ hz)
    obtain ⟨x, hx, hp⟩ := h.2
    rcases List.mem_cons.mp hx with rfl | hx
    · omega
    · have := sumL_pos (ls := r) ⟨fun z hz => h.1 z (List.mem_cons_of_mem _ hz), x, hx, hp⟩
      omega
theorem sumL_out {g : Nat → Int} {s : Nat} : ∀ {ls : List Nat}, ¬ s ∈ ls → sumL ls (fun x => g x * unit x s) = 0
  | [], _ => rfl
  | y :: r, h => by
    show g y * unit y s + sumL r _ = 0
    rw [sumL_out fun z => h (List.mem_cons_of_mem _ z)]
    unfold unit
    rw [if_neg fun z : s = y => h (z ▸ List.mem_cons_self ..)]
    simp
theorem sumL_unit {g : Nat → Int} {s : Nat} : ∀ {ls : List Nat}, ls.Nodup → s ∈ ls → sumL ls (fun x => g x * unit x s) = g s
  | [], _, h => nomatch h
  | y :: r, hn, h => by
    show g y * unit y s + sumL r _ = g s
    have hn' := List.nodup_cons.mp hn
    by_cases e : s = y
    · subst e
      rw [sumL_out hn'.1]
      unfold unit
      rw [if_pos rfl]
      omega
    · rw [sumL_unit hn'.2 ((List.mem_cons.mp h).resolve_left e)]
      unfold unit
      rw [if_neg e]
      omega
theorem sumL_one {s : Nat} {ls : List Nat} (hn : ls.Nodup) (hs : s ∈ ls) : sumL ls (fun x => unit x s) = 1 := by
  have := sumL_unit (g := fun _ => 1) hn hs
  rw [← this]
  exact sumL_congr fun x _ => by omega
section
variable {f : Nat → List Nat} {ls : List Nat} {s t : Nat}
/-- a way acts as a matrix of whole numbers -/
theorem act_lin (hn : ls.Nodup) (ok : CrOk f) (g : Nat → Int) : ∀ {w : List Nat} {s : Nat}, (∀ y ∈ w, y ∈ ls) → s ∈ ls → act f w g s = sumL ls fun x => g x * mark f w s x
  | [], s, _, hs => (sumL_unit hn hs).symm
  | t :: r, s, hw, hs => by
    have ht := hw t (List.mem_cons_self ..)
    have hr : ∀ y ∈ r, y ∈ ls := fun y hy => hw y (List.mem_cons_of_mem _ hy)
    show thr f t (act f r g) s = _
    by_cases e : s = t
    · subst e
      rw [thr_self, act_lin hn ok g hr hs]
      have := sumL_comb (-1) 0 (fun x => g x * mark f r s x) (fun _ => 0) ls
      have e2 : sumL ls (fun x => g x * mark f (s :: r) s x) = sumL ls fun x => -1 * (g x * mark f r s x) + 0 * 0 := sumL_congr fun x _ => by
        show g x * thr f s (act f r (unit x)) s = _
        rw [thr_self, Int.mul_neg]
        show -(g x * mark f r s x) = _
        omega
      rw [e2, this]
      omega
    · by_cases c : s ∈ f t
      · rw [thr_cr ok c, act_lin hn ok g hr hs]
        refine sumL_congr fun x _ => ?_
        show _ = g x * thr f t (act f r (unit x)) s
        rw [thr_cr ok c]
        rfl
      · rw [thr_not e c, act_lin hn ok g hr hs, act_lin hn ok g hr ht]
        have := sumL_comb 1 2 (fun x => g x * mark f r s x) (fun x => g x * mark f r t x) ls
        have e2 : sumL ls (fun x => g x * mark f (t :: r) s x) = sumL ls fun x => 1 * (g x * mark f r s x) + 2 * (g x * mark f r t x) := sumL_congr fun x _ => by
          show g x * thr f t (act f r (unit x)) s = _
          rw [thr_not e c]
          show g x * (mark f r s x + 2 * mark f r t x) = _
          rw [Int.mul_add, ← Int.mul_assoc, Int.mul_comm (g x) 2, Int.mul_assoc]
          omega
        rw [e2, this]
        omega
theorem mark_nn (ok : CrOk f) {w : List Nat} (hr : Red f w) (hw : ∀ y ∈ w, y ∈ ls) (hs : s ∈ ls) (hd : ¬ desc f s w) : Pos ls (mark f w s) := (mark_pos ok _ w rfl hr hw).1 s hs hd
theorem mark_np (ok : CrOk f) {w : List Nat} (hr : Red f w) (hw : ∀ y ∈ w, y ∈ ls) (hs : s ∈ ls) (hd : desc f s w) : ∀ x ∈ ls, mark f w s x ≤ 0 := by
  intro x hx
  obtain ⟨u, ru, du, lu, au, mu⟩ := Red_desc ok hr hd
  have := (mark_nn ok ru (fun y hy => hw y (mu y hy)) hs du).1 x hx
  show act f w (unit x) s ≤ 0
  rw [au, thr_self]
  have : 0 ≤ act f u (unit x) s := this
  omega
/-- a way that leaves the mark of a kind goes through kinds that cross it -/
theorem mark_fix (hn : ls.Nodup) (ok : CrOk f) (hs : s ∈ ls) : ∀ {w : List Nat}, Red f w → (∀ y ∈ w, y ∈ ls) → (∀ x ∈ ls, mark f w s x = unit x s) → ∀ y ∈ w, y ∈ f s
  | [], _, _, _, y, hy => nomatch hy
  | t :: r, hr, hw, he, y, hy => by
    have ht := hw t (List.mem_cons_self ..)
    have hr' : ∀ y ∈ r, y ∈ ls := fun y hy => hw y (List.mem_cons_of_mem _ hy)
    have S1 : sumL ls (mark f (t :: r) s) = 1 := by rw [sumL_congr he, sumL_one hn hs]
    have Pt := sumL_pos (mark_nn ok hr.2 hr' ht hr.1)
    by_cases e : s = t
    · subst e
      have e2 : sumL ls (mark f (s :: r) s) = sumL ls fun x => -1 * mark f r s x + 0 * mark f r s x := sumL_congr fun x _ => by
        show thr f s (act f r (unit x)) s = _
        rw [thr_self]
        show - mark f r s x = _
        omega
      rw [e2, sumL_comb] at S1
      omega
    · by_cases c : s ∈ f t
      · have ih := mark_fix hn ok hs hr.2 hr' fun x hx => by
          rw [← he x hx]
          show act f r (unit x) s = thr f t (act f r (unit x)) s
          rw [thr_cr ok c]
        rcases List.mem_cons.mp hy with rfl | hy
        · exact ok.sym _ _ c
        · exact ih y hy
      · have e2 : sumL ls (mark f (t :: r) s) = sumL ls fun x => 1 * mark f r s x + 2 * mark f r t x := sumL_congr fun x _ => by
          show thr f t (act f r (unit x)) s = _
          rw [thr_not e c]
          show mark f r s x + 2 * mark f r t x = _
          omega
        rw [e2, sumL_comb] at S1
        by_cases d : desc f s r
        · have := sumL_pos ((mark_pos ok _ r rfl hr.2 hr').2 s hs t ht e c d hr.1 1 1 (by decide) (by decide) (by decide))
          rw [sumL_comb] at this
          omega
        · have := sumL_pos (mark_nn ok hr.2 hr' hs d)
          omega
theorem mark_zero (ok : CrOk f) {x : Nat} : ∀ {w : List Nat} {s : Nat}, ¬ x ∈ w → x ≠ s → mark f w s x = 0
  | [], s, _, h => by
    show unit x s = 0
    unfold unit
    rw [if_neg fun z : s = x => h z.symm]
  | t :: r, s, hw, h => by
    have h1 : ¬ x ∈ r := fun z => hw (List.mem_cons_of_mem _ z)
    have h2 : x ≠ t := fun z => hw (z ▸ List.mem_cons_self ..)
    have e1 := mark_zero ok h1 h
    have e2 := mark_zero ok h1 h2
    show thr f t (act f r (unit x)) s = 0
    have e1 : act f r (unit x) s = 0 := e1
    have e2 : act f r (unit x) t = 0 := e2
    unfold thr
    split
    · omega
    · split <;> omega
theorem act_of_name (ok : CrOk f) (w : List Nat) (g : Nat → Int) : act f (nameOf f w).reverse g = act f w.reverse g := act_rev_eq ok (name_act ok w) g
/-- two rooms from which no door of a kind that crosses s leads back, with one mark of s, are one -/
theorem wall_uniq (hn : ls.Nodup) (ok : CrOk f) (hs : s ∈ ls) {m n : List Nat} (hm : NF f m) (hn' : NF f n) (im : ∀ y ∈ m, y ∈ ls) (in' : ∀ y ∈ n, y ∈ ls)
    (dm : ∀ t ∈ f s, ¬ desc f t m.reverse) (dn : ∀ t ∈ f s, ¬ desc f t n.reverse) (he : ∀ x ∈ ls, mark f m.reverse s x = mark f n.reverse s x) : m = n := by
  have imr : ∀ y ∈ m.reverse, y ∈ ls := fun y hy => im y (List.mem_reverse.mp hy)
  have inr' : ∀ y ∈ n.reverse, y ∈ ls := fun y hy => in' y (List.mem_reverse.mp hy)
  have au : ∀ g, act f (wayC f n m).reverse g = act f m.reverse (act f n g) := fun g => by
    unfold wayC
    rw [act_of_name ok, List.reverse_append, List.reverse_reverse, act_app]
  have iu : ∀ y ∈ (wayC f n m).reverse, y ∈ ls := fun y hy => by
    rcases List.mem_append.mp (name_mem (List.mem_reverse.mp hy)) with z | z
    · exact in' y (List.mem_reverse.mp z)
    · exact im y z
  have ru : Red f (wayC f n m).reverse := (name_NF ok _).red.rev
  have fx : ∀ x ∈ ls, mark f (wayC f n m).reverse s x = unit x s := by
    intro x hx
    show act f (wayC f n m).reverse (unit x) s = _
    rw [au, act_lin hn ok _ imr hs, sumL_congr (v := fun y => act f n (unit x) y * mark f n.reverse s y) fun y hy => by rw [he y hy], ← act_lin hn ok _ inr' hs, act_rev ok]
  have uin := mark_fix hn ok hs ru iu fx
  have hg := way_goes ok n m
  have am : ∀ g, act f m.reverse g = act f (wayC f n m).reverse (act f n.reverse g) := fun g => by
    rw [← act_app, ← List.reverse_append, ← act_of_name ok (n ++ wayC f n m), hg, act_of_name ok]
  cases hu : (wayC f n m).reverse with
  | nil =>
    have : wayC f n m = [] := by simpa using hu
    rw [this, List.append_nil] at hg
    have e1 : nameOf f n = n := (is_NF ok).mpr hn'
    have e2 : nameOf f m = m := (is_NF ok).mpr hm
    rw [e1, e2] at hg
    exact hg.symm
  | cons t r =>
    have tin : t ∈ f s := uin t (by rw [hu]; exact List.mem_cons_self ..)
    have tls : t ∈ ls := iu t (by rw [hu]; exact List.mem_cons_self ..)
    have hd : desc f t (wayC f n m).reverse := by rw [hu]; exact .inl rfl
    obtain ⟨x, hx, hp⟩ := (mark_nn ok hm.red.rev imr tls (dm t tin)).2
    have e1 : mark f m.reverse t x = sumL ls fun y => act f n.reverse (unit x) y * mark f (wayC f n m).reverse t y := by
      show act f m.reverse (unit x) t = _
      rw [am, act_lin hn ok _ iu tls]
    have e2 : (sumL ls fun y => act f n.reverse (unit x) y * mark f (wayC f n m).reverse t y) ≤ 0 := by
      refine sumL_nonpos fun y hy => ?_
      have np := mark_np ok ru iu tls hd y hy
      by_cases c : y ∈ f s
      · have := (mark_nn ok hn'.red.rev inr' hy (dn y c)).1 x hx
        have this : 0 ≤ act f n.reverse (unit x) y := this
        exact Int.mul_nonpos_of_nonneg_of_nonpos this np
      · have z := mark_zero ok (x := y) (w := (wayC f n m).reverse) (s := t) (fun z => c (uin y z)) (fun z => c (z ▸ tin))
        rw [z]
        omega
    omega
/-! ### the end of a way that may be left off -/
/-- letters out of free that may be brought ahead, and the rest -/
def splitA (f : Nat → List Nat) : List Nat → List Nat → List Nat × List Nat
  | _, [] => ([], [])
  | free, k :: r => if k ∈ free then (k :: (splitA f free r).1, (splitA f free r).2) else ((splitA f (free.filter fun o => decide (o ∈ f k)) r).1, k :: (splitA f (free.filter fun o => decide (o ∈ f k)) r).2)
theorem splitA_in (f : Nat → List Nat) : ∀ (w free : List Nat), ∀ y ∈ (splitA f free w).1, y ∈ free
  | [], _, y, hy => nomatch hy
  | k :: r, free, y, hy => by
    unfold splitA at hy
    by_cases c : k ∈ free
    · rw [if_pos c] at hy
      rcases List.mem_cons.mp hy with rfl | hy
      · exact c
      · exact splitA_in f r free y hy
    · rw [if_neg c] at hy
      exact (List.mem_filter.mp (splitA_in f r _ y hy)).1
theorem splitA_mem1 (f : Nat → List Nat) : ∀ (w free : List Nat), ∀ y ∈ (splitA f free w).1, y ∈ w
  | [], _, y, hy => nomatch hy
  | k :: r, free, y, hy => by
    unfold splitA at hy
    by_cases c : k ∈ free
    · rw [if_pos c] at hy
      rcases List.mem_cons.mp hy with rfl | hy
      · exact List.mem_cons_self ..
      · exact List.mem_cons_of_mem _ (splitA_mem1 f r free y hy)
    · rw [if_neg c] at hy
      exact List.mem_cons_of_mem _ (splitA_mem1 f r _ y hy)
theorem splitA_mem2 (f : Nat → List Nat) : ∀ (w free : List Nat), ∀ y ∈ (splitA f free w).2, y ∈ w
  | [], _, y, hy => nomatch hy
  | k :: r, free, y, hy => by
    unfold splitA at hy
    by_cases c : k ∈ free
    · rw [if_pos c] at hy
      exact List.mem_cons_of_mem _ (splitA_mem2 f r free y hy)
    · rw [if_neg c] at hy
      rcases List.mem_cons.mp hy with rfl | hy
      · exact List.mem_cons_self ..
      · exact List.mem_cons_of_mem _ (splitA_mem2 f r _ y hy)
theorem splitA_len (f : Nat → List Nat) : ∀ (w free : List Nat), (splitA f free w).1.length + (splitA f free w).2.length = w.length
  | [], _ => rfl
  | k :: r, free => by
    unfold splitA
    by_cases c : k ∈ free
    · rw [if_pos c]
      have := splitA_len f r free
      simp only [List.length_cons]
      omega
    · rw [if_neg c]
      have := splitA_len f r (free.filter fun o => decide (o ∈ f k))
      simp only [List.length_cons]
      omega
theorem splitA_nil (f : Nat → List Nat) : ∀ w : List Nat, splitA f [] w = ([], w)
  | [] => rfl
  | k :: r => by
    unfold splitA
    rw [if_neg (fun z => nomatch z)]
    show ((splitA f [] r).1, k :: (splitA f [] r).2) = _
    rw [splitA_nil f r]
theorem splitA_act (ok : CrOk f) (g : Nat → Int) : ∀ (w free : List Nat), act f ((splitA f free w).1 ++ (splitA f free w).2) g = act f w g
  | [], _ => rfl
  | k :: r, free => by
    unfold splitA
    by_cases c : k ∈ free
    · rw [if_pos c]
      show thr f k (act f ((splitA f free r).1 ++ (splitA f free r).2) g) = thr f k (act f r g)
      rw [splitA_act ok g r free]
    · rw [if_neg c]
      show act f ((splitA f _ r).1 ++ k :: (splitA f _ r).2) g = thr f k (act f r g)
      rw [← splitA_act ok g r (free.filter fun o => decide (o ∈ f k)), act_app, act_app]
      show act f (splitA f _ r).1 (thr f k (act f (splitA f _ r).2 g)) = _
      rw [act_comm ok fun y hy => of_decide_eq_true (List.mem_filter.mp (splitA_in f r _ y hy)).2]
theorem splitA_desc (ok : CrOk f) : ∀ (w free : List Nat), ∀ t ∈ free, ¬ desc f t (splitA f free w).2
  | [], _, t, _ => id
  | k :: r, free, t, ht => by
    unfold splitA
    by_cases c : k ∈ free
    · rw [if_pos c]
      exact splitA_desc ok r free t ht
    · rw [if_neg c]
      rintro (z | ⟨z1, z2⟩)
      · exact c (z ▸ ht)
      · exact splitA_desc ok r _ t (List.mem_filter.mpr ⟨ht, decide_eq_true (ok.sym _ _ z1)⟩) z2
theorem splitA_back {k : Nat} : ∀ {w free : List Nat}, (∀ y ∈ free, y ∈ f k) → desc f k (splitA f free w).2 → desc f k w
  | [], _, _, h => h
  | c :: r, free, hf, h => by
    unfold splitA at h
    by_cases e : c ∈ free
    · rw [if_pos e] at h
      exact .inr ⟨hf c e, splitA_back hf h⟩
    · rw [if_neg e] at h
      rcases h with h | ⟨h1, h2⟩
      · exact .inl h
      · exact .inr ⟨h1, splitA_back (fun y hy => hf y (List.mem_filter.mp hy).1) h2⟩
theorem okAt_rest {k : Nat} : ∀ {w free : List Nat}, (∀ y ∈ free, y ∈ f k) → okAt f k w → okAt f k (splitA f free w).2
  | [], _, _, h => h
  | c :: r, free, hf, h => by
    unfold splitA
    by_cases e : c ∈ free
    · rw [if_pos e]
      exact okAt_rest hf (h.2 (hf c e)).2
    · rw [if_neg e]
      exact ⟨h.1, fun z => ⟨(h.2 z).1, okAt_rest (fun y hy => hf y (List.mem_filter.mp hy).1) (h.2 z).2⟩⟩
theorem NFr_rest : ∀ {w free : List Nat}, NFr f w → NFr f (splitA f free w).2
  | [], _, h => h
  | c :: r, free, h => by
    unfold splitA
    by_cases e : c ∈ free
    · rw [if_pos e]
      exact NFr_rest h.2
    · rw [if_neg e]
      exact ⟨okAt_rest (fun y hy => of_decide_eq_true (List.mem_filter.mp hy).2) h.1, NFr_rest h.2⟩
theorem splitA_congr {g : Nat → List Nat} : ∀ {w free free' : List Nat}, (∀ c ∈ w, c ∈ free ↔ c ∈ free') → (∀ k ∈ w, ∀ c ∈ w, c ∈ f k ↔ c ∈ g k) → splitA f free w = splitA g free' w
  | [], _, _, _, _ => rfl
  | k :: r, free, free', h1, h2 => by
    have hk := h1 k (List.mem_cons_self ..)
    have h2' : ∀ k ∈ r, ∀ c ∈ r, c ∈ f k ↔ c ∈ g k := fun y hy c hc => h2 y (List.mem_cons_of_mem _ hy) c (List.mem_cons_of_mem _ hc)
    unfold splitA
    by_cases c : k ∈ free
    · rw [if_pos c, if_pos (hk.mp c), splitA_congr (fun y hy => h1 y (List.mem_cons_of_mem _ hy)) h2']
    · rw [if_neg c, if_neg fun z => c (hk.mpr z), splitA_congr (free' := free'.filter fun o => decide (o ∈ g k)) (fun y hy => ?_) h2']
      rw [List.mem_filter, List.mem_filter, decide_eq_true_iff, decide_eq_true_iff, h1 y (List.mem_cons_of_mem _ hy), h2 k (List.mem_cons_self ..) y (List.mem_cons_of_mem _ hy)]
/-! ### where a wall begins -/
def nearC (f : Nat → List Nat) (name : List Nat) (s : Nat) : List Nat := if desc f s name.reverse then stepOf (f s) name s else name
def startC (f : Nat → List Nat) (name : List Nat) (s : Nat) : List Nat := (splitA f (f s) (nearC f name s).reverse).2.reverse
theorem near_not (ok : CrOk f) {name : List Nat} (h : NF f name) (s : Nat) : ¬ desc f s (nearC f name s).reverse := by
  unfold nearC
  by_cases c : desc f s name.reverse
  · rw [if_pos c]
    intro z
    have l1 := (step_len_desc ok name s).1 c
    have l2 := (step_len_desc ok (stepOf (f s) name s) s).1 z
    have e : stepOf (f s) (stepOf (f s) name s) s = name := by
      have e1 : nameOf f name = name := (is_NF ok).mpr h
      have e2 := name_twice ok name s
      rw [e1] at e2
      have e3 : nameOf f (name ++ [s] ++ [s]) = stepOf (f s) (stepOf (f s) (nameOf f name) s) s := by
        show joinC f [] (name ++ [s] ++ [s]) = _
        rw [joinC_app, joinC_app]
        rfl
      rw [e3, e1] at e2
      exact e2
    rw [e] at l2
    omega
  · rw [if_neg c]
    exact c
theorem near_NF (ok : CrOk f) {name : List Nat} (h : NF f name) (s : Nat) : NF f (nearC f name s) := by
  unfold nearC
  split
  · exact NF_step ok h
  · exact h
theorem near_mem {name : List Nat} {s c : Nat} (h : c ∈ nearC f name s) : c = s ∨ c ∈ name := by
  unfold nearC at h
  split at h
  · exact stepOf_mem h
  · exact .inr h
theorem near_len (ok : CrOk f) (name : List Nat) (s : Nat) : (nearC f name s).length ≤ name.length := by
  unfold nearC
  split
  · have := (step_len_desc ok name s).1 (by assumption)
    omega
  · omega
theorem start_NF (ok : CrOk f) {name : List Nat} (h : NF f name) (s : Nat) : NF f (startC f name s) := by
  unfold startC NF
  rw [List.reverse_reverse]
  exact NFr_rest (near_NF ok h s)
theorem start_not (ok : CrOk f) {name : List Nat} (h : NF f name) (s : Nat) : ¬ desc f s (startC f name s).reverse := by
  unfold startC
  rw [List.reverse_reverse]
  exact fun z => near_not ok h s (splitA_back (fun y hy => hy) z)
theorem start_free (ok : CrOk f) (name : List Nat) (s : Nat) : ∀ t ∈ f s, ¬ desc f t (startC f name s).reverse := by
  unfold startC
  rw [List.reverse_reverse]
  exact splitA_desc ok _ _
theorem start_mem {name : List Nat} {s c : Nat} (h : c ∈ startC f name s) : c = s ∨ c ∈ name := near_mem (List.mem_reverse.mp (splitA_mem2 f _ _ c (List.mem_reverse.mp h)))
theorem start_len (ok : CrOk f) (name : List Nat) (s : Nat) : (startC f name s).length ≤ name.length := by
  unfold startC
  have := splitA_len f (nearC f name s).reverse (f s)
  have := near_len ok name s
  rw [List.length_reverse] at *
  omega
theorem mark_along (ok : CrOk f) {g : Nat → Int} {v : List Nat} : ∀ {u : List Nat}, (∀ y ∈ u, y ∈ f s) → act f (u ++ v) g s = act f v g s
  | [], _ => rfl
  | y :: u, h => by
    show thr f y (act f (u ++ v) g) s = _
    rw [thr_cr ok (ok.sym _ _ (h y (List.mem_cons_self ..))), mark_along ok fun z hz => h z (List.mem_cons_of_mem _ hz)]
theorem start_mark (ok : CrOk f) (name : List Nat) (s : Nat) (g : Nat → Int) : act f (startC f name s).reverse g s = act f (nearC f name s).reverse g s := by
  unfold startC
  rw [List.reverse_reverse, ← splitA_act ok g (nearC f name s).reverse (f s)]
  exact (mark_along ok (splitA_in f _ _)).symm
theorem near_mark (ok : CrOk f) (name : List Nat) (s : Nat) (g : Nat → Int) : act f (nearC f name s).reverse g s = if desc f s name.reverse then - act f name.reverse g s else act f name.reverse g s := by
  unfold nearC
  by_cases c : desc f s name.reverse
  · rw [if_pos c, if_pos c, act_rev_eq ok (fun g => act_step ok name s g), List.reverse_append]
    show thr f s (act f name.reverse g) s = _
    rw [thr_self]
  · rw [if_neg c, if_neg c]
/-- the mark or its opposite, whichever is not below nought -/
def posM (f : Nat → List Nat) (ls : List Nat) (w : List Nat) (s : Nat) : Nat → Int := if ∃ x ∈ ls, act f w.reverse (unit x) s < 0 then fun x => - act f w.reverse (unit x) s else fun x => act f w.reverse (unit x) s
theorem pos_start (ok : CrOk f) {w : List Nat} (hw : ∀ y ∈ w, y ∈ ls) (hs : s ∈ ls) (x : Nat) : posM f ls w s x = mark f (startC f (nameOf f w) s).reverse s x := by
  have hr := (name_NF ok w).red.rev
  have h1 := mark_neg (ls := ls) ok hr (fun y hy => hw y (name_mem (List.mem_reverse.mp hy))) hs
  show _ = act f (startC f (nameOf f w) s).reverse (unit x) s
  rw [start_mark ok, near_mark ok]
  unfold posM
  have e : (∃ x ∈ ls, act f w.reverse (unit x) s < 0) ↔ desc f s (nameOf f w).reverse := by
    rw [← h1]
    unfold mark
    simp only [act_of_name ok]
  by_cases c : desc f s (nameOf f w).reverse
  · rw [if_pos c, if_pos (e.mpr c), act_of_name ok]
  · rw [if_neg c, if_neg fun z => c (e.mp z), act_of_name ok]
/-- one wall, by the marks -/
theorem wall_iff (hn : ls.Nodup) (ok : CrOk f) (hs : s ∈ ls) {v w : List Nat} (hv : ∀ y ∈ v, y ∈ ls) (hw : ∀ y ∈ w, y ∈ ls) : startC f (nameOf f v) s = startC f (nameOf f w) s ↔ ∀ x ∈ ls, posM f ls v s x = posM f ls w s x := by
  constructor
  · intro h x _
    rw [pos_start ok hv hs, pos_start ok hw hs, h]
  · intro h
    have mem : ∀ {w : List Nat}, (∀ y ∈ w, y ∈ ls) → ∀ y ∈ startC f (nameOf f w) s, y ∈ ls := fun hw y hy => (start_mem hy).elim (fun z => z ▸ hs) fun z => hw y (name_mem z)
    refine wall_uniq hn ok hs (start_NF ok (name_NF ok v) s) (start_NF ok (name_NF ok w) s) (mem hv) (mem hw) (start_free ok _ s) (start_free ok _ s) fun x hx => ?_
    rw [← pos_start ok hv hs, ← pos_start ok hw hs]
    exact h x hx
end
end Cw
set_option Elab.async false
set_option linter.all false
set_option maxRecDepth 100000
set_option maxHeartbeats 4000000
/-! more of walls in plain words -/
namespace Cw
section
variable {f : Nat → List Nat} {ls : List Nat} {s t : Nat}
/-- a door from its other side -/
theorem pos_thr (ok : CrOk f) {w : List Nat} (hw : ∀ y ∈ w, y ∈ ls) (hs : s ∈ ls) : posM f ls (w ++ [s]) s = posM f ls w s := by
  have hr := (name_NF ok w).red.rev
  have hm : ∀ y ∈ (nameOf f w).reverse, y ∈ ls := fun y hy => hw y (name_mem (List.mem_reverse.mp hy))
  have e1 : ∀ x, act f (w ++ [s]).reverse (unit x) s = - act f w.reverse (unit x) s := fun x => by
    rw [List.reverse_append]
    show thr f s (act f w.reverse (unit x)) s = _
    rw [thr_self]
  have e2 : ∀ x, mark f (nameOf f w).reverse s x = act f w.reverse (unit x) s := fun x => by
    unfold mark
    rw [act_of_name ok]
  unfold posM
  simp only [e1]
  by_cases c : desc f s (nameOf f w).reverse
  · have h1 := mark_np ok hr hm hs c
    have h2 := (mark_neg (ls := ls) ok hr hm hs).mpr c
    simp only [e2] at h1 h2
    rw [if_pos h2, if_neg]
    rintro ⟨x, hx, z⟩
    have := h1 x hx
    omega
  · have h1 := mark_nn ok hr hm hs c
    obtain ⟨h1, x, hx, h2⟩ := h1
    simp only [e2] at h1 h2
    rw [if_pos ⟨x, hx, by omega⟩, if_neg]
    · funext y
      omega
    · rintro ⟨y, hy, z⟩
      have := h1 y hy
      omega
theorem wall_thr (hn : ls.Nodup) (ok : CrOk f) (hs : s ∈ ls) {w : List Nat} (hw : ∀ y ∈ w, y ∈ ls) : startC f (nameOf f (w ++ [s])) s = startC f (nameOf f w) s := by
  refine (wall_iff hn ok hs (fun y hy => ?_) hw).mpr fun x _ => by rw [pos_thr ok hw hs]
  rcases List.mem_append.mp hy with z | z
  · exact hw y z
  · rw [List.mem_singleton.mp z]
    exact hs
end
end Cw
set_option Elab.async false
set_option linter.all false
set_option maxRecDepth 100000
set_option maxHeartbeats 4000000
/-! rooms beyond a wall, by the marks of the doors of a shortest way -/
namespace Cw
section
variable {f : Nat → List Nat} {ls : List Nat} {s c : Nat}
theorem act_swap (hn : ls.Nodup) (ok : CrOk f) {m p : List Nat} (hm : ∀ y ∈ m, y ∈ ls) (hp : ∀ y ∈ p, y ∈ ls) (hs : s ∈ ls) (hc : c ∈ ls) (he : ∀ x ∈ ls, act f p.reverse (unit x) c = act f m.reverse (unit x) s) (g : Nat → Int) : act f m.reverse g s = act f p.reverse g c := by
  rw [act_lin hn ok g (fun y hy => hm y (List.mem_reverse.mp hy)) hs, act_lin hn ok g (fun y hy => hp y (List.mem_reverse.mp hy)) hc]
  exact sumL_congr fun x hx => by
    show g x * act f m.reverse (unit x) s = g x * act f p.reverse (unit x) c
    rw [he x hx]
/-- a door of the way in the wall: the room at the end is beyond it -/
theorem beyond_of (hn : ls.Nodup) (ok : CrOk f) {m p q : List Nat} (hr : Red f (p ++ c :: q)) (hm : ∀ y ∈ m, y ∈ ls) (hpq : ∀ y ∈ p ++ c :: q, y ∈ ls) (hs : s ∈ ls) (he : ∀ x ∈ ls, act f p.reverse (unit x) c = act f m.reverse (unit x) s) : desc f s (wayC f m (p ++ c :: q)) := by
  have hp : ∀ y ∈ p, y ∈ ls := fun y hy => hpq y (List.mem_append_left _ hy)
  have hc : c ∈ ls := hpq c (List.mem_append_right _ (List.mem_cons_self ..))
  have hq : ∀ y ∈ q, y ∈ ls := fun y hy => hpq y (List.mem_append_right _ (List.mem_cons_of_mem _ hy))
  have hw : ∀ y ∈ wayC f m (p ++ c :: q), y ∈ ls := fun y hy => by
    rcases List.mem_append.mp (name_mem hy) with z | z
    · exact hm y (List.mem_reverse.mp z)
    · exact hpq y z
  have rr := Red_right hr
  obtain ⟨x, hx, hpos⟩ := (mark_nn ok rr.2 hq hc rr.1).2
  refine (mark_neg ok (name_NF ok _).red hw hs).mp ⟨x, hx, ?_⟩
  show act f (nameOf f (m.reverse ++ (p ++ c :: q))) (unit x) s < 0
  rw [name_act ok, act_app, act_swap hn ok hm hp hs hc he, act_app, act_rev ok]
  show thr f c (act f q (unit x)) c < 0
  rw [thr_self]
  have : 0 < act f q (unit x) c := hpos
  omega
theorem int_one {k t : Int} (h : k * t = 1) (hk : 0 < k) : k = 1 := by
  have ht : 0 < t := by
    rcases Int.lt_or_le 0 t with z | z
    · exact z
    · have := Int.mul_nonpos_of_nonneg_of_nonpos (Int.le_of_lt hk) z
      omega
  have h1 : k * 1 ≤ k * t := Int.mul_le_mul_of_nonneg_left (by omega) (by omega)
  omega
theorem unit_thr {x e : Nat} (hx : x ≠ c) : thr f c (unit x) e = unit x e := by
  have h0 : unit x c = 0 := by
    unfold unit
    rw [if_neg hx.symm]
  unfold thr
  by_cases h : e = c
  · rw [if_pos h, h, h0]
    rfl
  · rw [if_neg h]
    split
    · rfl
    · rw [h0]
      omega
/-- what stands on one side of all, in a word -/
theorem sign_def (ok : CrOk f) {w : List Nat} (hw : ∀ y ∈ w, y ∈ ls) (hs : s ∈ ls) : Pos ls (mark f w s) ∨ ((∀ x ∈ ls, mark f w s x ≤ 0) ∧ ∃ x ∈ ls, mark f w s x < 0) := by
  have hm : ∀ y ∈ nameOf f w, y ∈ ls := fun y hy => hw y (name_mem hy)
  have hr := (name_NF ok w).red
  have e : ∀ x, mark f (nameOf f w) s x = mark f w s x := fun x => by
    unfold mark
    rw [name_act ok]
  by_cases d : desc f s (nameOf f w)
  · right
    have h1 := mark_np ok hr hm hs d
    have h2 := (mark_neg (ls := ls) ok hr hm hs).mpr d
    simp only [e] at h1 h2
    exact ⟨h1, h2⟩
  · left
    exact (mark_nn ok hr hm hs d).congr fun x _ => (e x).symm
/-- the room at the end is beyond the wall: a door of the way lies in it -/
theorem beyond_door (hn : ls.Nodup) (ok : CrOk f) {m : List Nat} (hm : ∀ y ∈ m, y ∈ ls) (hs : s ∈ ls) (hm0 : Pos ls (mark f m.reverse s)) : ∀ (n : List Nat), (∀ y ∈ n, y ∈ ls) → desc f s (wayC f m n) → ∃ i, i < n.length ∧ ∀ x ∈ ls, act f (n.take i).reverse (unit x) (n.getD i 0) = act f m.reverse (unit x) s := by
  intro n hn' hd
  -- the first place where the sign turns
  have key : ∀ k, k ≤ n.length → (∃ i, i < k ∧ Pos ls (mark f (m.reverse ++ n.take i) s) ∧ ¬ Pos ls (mark f (m.reverse ++ n.take (i + 1)) s)) ∨ Pos ls (mark f (m.reverse ++ n.take k) s) := by
    intro k
    induction k with
    | zero =>
      intro _
      right
      rw [List.take_zero, List.append_nil]
      exact hm0
    | succ k ih =>
      intro hk
      rcases ih (by omega) with ⟨i, h1, h2, h3⟩ | h
      · exact .inl ⟨i, by omega, h2, h3⟩
      · by_cases c : Pos ls (mark f (m.reverse ++ n.take (k + 1)) s)
        · exact .inr c
        · exact .inl ⟨k, by omega, h, c⟩
  have last : ¬ Pos ls (mark f (m.reverse ++ n.take n.length) s) := by
    rw [List.take_length]
    intro z
    have hw : ∀ y ∈ wayC f m n, y ∈ ls := fun y hy => by
      rcases List.mem_append.mp (name_mem hy) with z | z
      · exact hm y (List.mem_reverse.mp z)
      · exact hn' y z
    obtain ⟨x, hx, h⟩ := (mark_neg (ls := ls) ok (name_NF ok _).red hw hs).mpr hd
    have h : act f (nameOf f (m.reverse ++ n)) (unit x) s < 0 := h
    rw [name_act ok] at h
    have := z.1 x hx
    have this : 0 ≤ act f (m.reverse ++ n) (unit x) s := this
    omega
  rcases key n.length (Nat.le_refl _) with ⟨i, hi, h1, h2⟩ | h
  · refine ⟨i, hi, ?_⟩
    have tk : n.take (i + 1) = n.take i ++ [n.getD i 0] := by
      rw [List.take_succ_eq_append_getElem hi, List.getD_eq_getElem?_getD, List.getElem?_eq_getElem hi]
      rfl
    have hc : n.getD i 0 ∈ ls := hn' _ (by
      rw [List.getD_eq_getElem?_getD, List.getElem?_eq_getElem hi]
      exact List.getElem_mem hi)
    have hp : ∀ y ∈ n.take i, y ∈ ls := fun y hy => hn' y (List.mem_of_mem_take hy)
    rw [tk] at h2
    generalize n.getD i 0 = c at h2 hc
    generalize n.take i = p at h1 h2 hp
    have hz : ∀ y ∈ m.reverse ++ p, y ∈ ls := fun y hy => (List.mem_append.mp hy).elim (fun z => hm y (List.mem_reverse.mp z)) (hp y)
    have hz2 : ∀ y ∈ m.reverse ++ (p ++ [c]), y ∈ ls := fun y hy => by
      rw [← List.append_assoc] at hy
      rcases List.mem_append.mp hy with z | z
      · exact hz y z
      · rw [List.mem_singleton.mp z]
        exact hc
    have np := (sign_def ok hz2 hs).resolve_left h2
    have eq0 : ∀ x ∈ ls, x ≠ c → mark f (m.reverse ++ p) s x = 0 := by
      intro x hx hxc
      have a1 := h1.1 x hx
      have a2 := np.1 x hx
      have e : mark f (m.reverse ++ (p ++ [c])) s x = mark f (m.reverse ++ p) s x := by
        unfold mark
        rw [← List.append_assoc, act_app]
        show act f (m.reverse ++ p) (thr f c (unit x)) s = _
        rw [show thr f c (unit x) = unit x from funext fun e => unit_thr hxc]
      omega
    have kpos : 0 < mark f (m.reverse ++ p) s c := by
      obtain ⟨x, hx, h⟩ := h1.2
      by_cases e : x = c
      · rw [← e]
        exact h
      · have := eq0 x hx e
        omega
    have lin : ∀ g, act f (m.reverse ++ p) g s = mark f (m.reverse ++ p) s c * g c := by
      intro g
      rw [act_lin hn ok g hz hs]
      have e2 : sumL ls (fun x => g x * mark f (m.reverse ++ p) s x) = sumL ls fun x => (mark f (m.reverse ++ p) s c * g x) * unit x c := sumL_congr fun x hx => by
        unfold unit
        by_cases e : c = x
        · rw [if_pos e, ← e, Int.mul_one, Int.mul_comm]
        · rw [if_neg e, eq0 x hx fun z => e z.symm]
          omega
      rw [e2]
      exact sumL_unit (g := fun x => mark f (m.reverse ++ p) s c * g x) hn hc
    have one : mark f (m.reverse ++ p) s c = 1 := by
      have h := lin (act f (m.reverse ++ p).reverse (unit s))
      rw [act_rev' ok] at h
      have hu : unit s s = 1 := if_pos rfl
      rw [hu] at h
      exact int_one h.symm kpos
    intro x hx
    have h := lin (act f p.reverse (unit x))
    rw [act_app, act_rev' ok, one, Int.one_mul] at h
    exact h.symm
  · exact absurd h last
/-- the rooms beyond a wall -/
theorem beyond_iff (hn : ls.Nodup) (ok : CrOk f) {m n : List Nat} (hm : ∀ y ∈ m, y ∈ ls) (hmn : NF f m) (hs : s ∈ ls) (hm0 : ¬ desc f s m.reverse) (hnn : NF f n) (hn' : ∀ y ∈ n, y ∈ ls) : desc f s (wayC f m n) ↔ ∃ i, i < n.length ∧ ∀ x ∈ ls, act f (n.take i).reverse (unit x) (n.getD i 0) = act f m.reverse (unit x) s := by
  constructor
  · exact beyond_door hn ok hm hs (mark_nn ok hmn.red.rev (fun y hy => hm y (List.mem_reverse.mp hy)) hs hm0) n hn'
  · rintro ⟨i, hi, he⟩
    have e : n = n.take i ++ n.getD i 0 :: n.drop (i + 1) := by
      rw [List.getD_eq_getElem?_getD, List.getElem?_eq_getElem hi]
      show n = n.take i ++ n[i] :: n.drop (i + 1)
      rw [← List.drop_eq_getElem_cons hi, List.take_append_drop]
    have := beyond_of (c := n.getD i 0) (p := n.take i) (q := n.drop (i + 1)) hn ok (by rw [← e]; exact hnn.red) hm (by rw [← e]; exact hn') hs he
    rw [← e] at this
    exact this
end
end Cw
set_option Elab.async false
set_option linter.all false
set_option maxRecDepth 100000
set_option maxHeartbeats 4000000
/-! the middle of three rooms, in plain words -/
namespace Cw
section
variable {f : Nat → List Nat} {ls : List Nat} {s t c : Nat}
/-- the mark has a coordinate below nought -/
def Ng (f : Nat → List Nat) (ls : List Nat) (w : List Nat) (s : Nat) : Prop := ∃ x ∈ ls, mark f w s x < 0
theorem ng_desc (ok : CrOk f) {w : List Nat} (hr : Red f w) (hw : ∀ y ∈ w, y ∈ ls) (hs : s ∈ ls) : Ng f ls w s ↔ desc f s w := mark_neg ok hr hw hs
theorem ng_name (ok : CrOk f) (w : List Nat) (s : Nat) : Ng f ls (nameOf f w) s ↔ Ng f ls w s := by
  unfold Ng mark
  simp only [name_act ok]
theorem ng_act {v w : List Nat} (h : ∀ g, act f v g = act f w g) (s : Nat) : Ng f ls v s ↔ Ng f ls w s := by
  unfold Ng mark
  simp only [h]
theorem not_ng (ok : CrOk f) {w : List Nat} (hw : ∀ y ∈ w, y ∈ ls) (hs : s ∈ ls) : ¬ Ng f ls w s ↔ Pos ls (mark f w s) := by
  constructor
  · intro h
    exact (sign_def ok hw hs).resolve_right fun z => h z.2
  · rintro ⟨h1, _⟩ ⟨x, hx, z⟩
    have := h1 x hx
    omega
theorem ng_np (ok : CrOk f) {w : List Nat} (hw : ∀ y ∈ w, y ∈ ls) (hs : s ∈ ls) (h : Ng f ls w s) : ∀ x ∈ ls, mark f w s x ≤ 0 := by
  rcases sign_def ok hw hs with z | z
  · exact absurd h ((not_ng ok hw hs).mpr z)
  · exact z.1
/-- two unlike kinds that do not cross, behind a way -/
theorem pos_two (ok : CrOk f) {w : List Nat} (hw : ∀ y ∈ w, y ∈ ls) (hs : s ∈ ls) (ht : t ∈ ls) (ne : s ≠ t) (nc : ¬ s ∈ f t) (hp : Pos ls (mark f w t)) : Pos ls fun x => mark f w s x + 2 * mark f w t x := by
  have hm : ∀ y ∈ nameOf f w, y ∈ ls := fun y hy => hw y (name_mem hy)
  have hr := (name_NF ok w).red
  have e : ∀ s x, mark f (nameOf f w) s x = mark f w s x := fun s x => by
    unfold mark
    rw [name_act ok]
  have hd : ¬ desc f t (nameOf f w) := fun z => by
    have := (mark_neg (ls := ls) ok hr hm ht).mpr z
    simp only [e] at this
    obtain ⟨x, hx, z⟩ := this
    have := hp.1 x hx
    omega
  by_cases d : desc f s (nameOf f w)
  · have := (mark_pos ok _ _ rfl hr hm).2 s hs t ht ne nc d hd 1 2 (by decide) (by decide) (by decide)
    refine this.congr fun x _ => ?_
    rw [e, e]
    omega
  · have h1 := mark_nn ok hr hm hs d
    have := h1.comb (mark_nn ok hr hm ht hd) (show (0 : Int) ≤ 1 by decide) (show (0 : Int) < 2 by decide)
    refine this.congr fun x _ => ?_
    rw [e, e]
    omega
theorem desc_left {s : Nat} {b : List Nat} : ∀ {a : List Nat}, desc f s a → desc f s (a ++ b)
  | [], h => h.elim
  | y :: a, h => by
    rcases h with h | ⟨h1, h2⟩
    · exact .inl h
    · exact .inr ⟨h1, desc_left h2⟩
theorem Red_left {b : List Nat} : ∀ {a : List Nat}, Red f (a ++ b) → Red f a
  | [], _ => trivial
  | y :: a, h => ⟨fun z => h.1 (desc_left z), Red_left h.2⟩
/-- a wall that two ways go through: a door with which both may begin -/
theorem both_first (ok : CrOk f) {v : List Nat} (hv : ∀ y ∈ v, y ∈ ls) : ∀ (pr q : List Nat) (s : Nat), Red f (pr.reverse ++ s :: q) → (∀ y ∈ pr.reverse ++ s :: q, y ∈ ls) → Ng f ls (pr ++ v) s → ∃ t ∈ ls, desc f t (pr.reverse ++ s :: q) ∧ Ng f ls v t := by
  intro pr
  induction pr with
  | nil =>
    intro q s hr hm hn
    exact ⟨s, hm s (List.mem_cons_self ..), .inl rfl, hn⟩
  | cons t pr ih =>
    intro q s hr hm hn
    have e1 : (t :: pr).reverse ++ s :: q = pr.reverse ++ t :: s :: q := by rw [List.reverse_cons, List.append_assoc]; rfl
    rw [e1] at hr hm ⊢
    obtain ⟨p, rfl⟩ : ∃ p : List Nat, pr = p.reverse := ⟨pr.reverse, (List.reverse_reverse _).symm⟩
    rw [List.reverse_reverse] at hr hm ih ⊢
    have ht : t ∈ ls := hm t (List.mem_append_right _ (List.mem_cons_self ..))
    have hs : s ∈ ls := hm s (List.mem_append_right _ (List.mem_cons_of_mem _ (List.mem_cons_self ..)))
    have hp : ∀ y ∈ p, y ∈ ls := fun y hy => hm y (List.mem_append_left _ hy)
    have rr := Red_right hr
    have ne : s ≠ t := fun z => rr.1 (.inl z)
    have hpv : ∀ y ∈ p.reverse ++ v, y ∈ ls := fun y hy => (List.mem_append.mp hy).elim (fun z => hp y (List.mem_reverse.mp z)) (hv y)
    have hn : Ng f ls (t :: (p.reverse ++ v)) s := hn
    by_cases c : s ∈ f t
    · -- the two letters are exchanged
      have e2 : ∀ g, act f (p ++ s :: t :: q) g = act f (p ++ t :: s :: q) g := fun g => by
        rw [act_app, act_app]
        show act f p (thr f s (thr f t (act f q g))) = act f p (thr f t (thr f s (act f q g)))
        rw [thr_comm ok c]
      have hm2 : ∀ y ∈ p ++ s :: t :: q, y ∈ ls := fun y hy => by
        rcases List.mem_append.mp hy with z | z
        · exact hp y z
        · rcases List.mem_cons.mp z with z | z
          · exact z ▸ hs
          · rcases List.mem_cons.mp z with z | z
            · exact z ▸ ht
            · exact hm y (List.mem_append_right _ (List.mem_cons_of_mem _ (List.mem_cons_of_mem _ z)))
      have hr2 : Red f (p ++ s :: t :: q) := by
        have c' := ok.sym _ _ c
        have key : ∀ y w, desc f y (s :: t :: w) ↔ desc f y (t :: s :: w) := by
          intro y w
          constructor
          · rintro (rfl | ⟨a, rfl | ⟨b, d⟩⟩)
            · exact .inr ⟨c', .inl rfl⟩
            · exact .inl rfl
            · exact .inr ⟨b, .inr ⟨a, d⟩⟩
          · rintro (rfl | ⟨a, rfl | ⟨b, d⟩⟩)
            · exact .inr ⟨c, .inl rfl⟩
            · exact .inl rfl
            · exact .inr ⟨b, .inr ⟨a, d⟩⟩
        have key2 : ∀ (p : List Nat) y, desc f y (p ++ s :: t :: q) ↔ desc f y (p ++ t :: s :: q) := by
          intro p
          induction p with
          | nil => exact fun y => key y q
          | cons z p ih2 =>
            intro y
            show (z = y ∨ (z ∈ f y ∧ desc f y (p ++ _))) ↔ (z = y ∨ (z ∈ f y ∧ desc f y (p ++ _)))
            rw [ih2]
        have key3 : ∀ p : List Nat, Red f (p ++ t :: s :: q) → Red f (p ++ s :: t :: q) := by
          intro p
          induction p with
          | nil =>
            rintro ⟨h1, h2, h3⟩
            refine ⟨?_, fun z => h1 (.inr ⟨c, z⟩), h3⟩
            rintro (z | ⟨_, z⟩)
            · exact ne z.symm
            · exact h2 z
          | cons z p ih2 =>
            rintro ⟨h1, h2⟩
            exact ⟨fun d => h1 ((key2 p z).mp d), ih2 h2⟩
        exact key3 p hr
      have hn2 : Ng f ls (p.reverse ++ v) s := by
        obtain ⟨x, hx, z⟩ := hn
        refine ⟨x, hx, ?_⟩
        have e3 : mark f (t :: (p.reverse ++ v)) s x = mark f (p.reverse ++ v) s x := by
          show thr f t (act f (p.reverse ++ v) (unit x)) s = _
          rw [thr_cr ok c]
          rfl
        omega
      obtain ⟨y, hy, d, n⟩ := ih (t :: q) s hr2 hm2 hn2
      refine ⟨y, hy, ?_, n⟩
      rw [← ng_desc ok hr2 hm2 hy] at d
      rw [← ng_desc ok hr hm hy]
      exact (ng_act e2 y).mp d
    · refine ih (s :: q) t hr hm ?_
      apply Classical.byContradiction
      intro z
      have hp2 := pos_two ok hpv hs ht ne c ((not_ng ok hpv ht).mp z)
      obtain ⟨x, hx, n⟩ := hn
      have e3 : mark f (t :: (p.reverse ++ v)) s x = mark f (p.reverse ++ v) s x + 2 * mark f (p.reverse ++ v) t x := by
        show thr f t (act f (p.reverse ++ v) (unit x)) s = _
        rw [thr_not ne c]
        rfl
      have : 0 ≤ mark f (p.reverse ++ v) s x + 2 * mark f (p.reverse ++ v) t x := hp2.1 x hx
      omega
/-- where the sign turns along a way, one door of the way lies in the wall -/
theorem turn_door (hn : ls.Nodup) (ok : CrOk f) {z : List Nat} (hz : ∀ y ∈ z, y ∈ ls) (hs : s ∈ ls) : ∀ (u : List Nat), (∀ y ∈ u, y ∈ ls) → ¬ (Ng f ls z s ↔ Ng f ls (z ++ u) s) → ∃ p c q, u = p ++ c :: q ∧ ((∀ g, act f (z ++ p) g s = g c) ∨ (∀ g, act f (z ++ p) g s = - g c)) := by
  intro u hu h
  -- the first place where the sign turns
  have key : ∀ (p q : List Nat), u = p ++ q → ¬ (Ng f ls (z ++ p) s ↔ Ng f ls (z ++ u) s) → ∃ p c q, u = p ++ c :: q ∧ ¬ (Ng f ls (z ++ p) s ↔ Ng f ls (z ++ (p ++ [c])) s) := by
    intro p q
    induction q generalizing p with
    | nil =>
      intro e h
      rw [List.append_nil] at e
      rw [e] at h
      exact absurd Iff.rfl h
    | cons c q ih =>
      intro e h
      by_cases d : Ng f ls (z ++ p) s ↔ Ng f ls (z ++ (p ++ [c])) s
      · refine ih (p ++ [c]) (by rw [e, List.append_assoc]; rfl) fun w => h (d.trans w)
      · exact ⟨p, c, q, e, d⟩
  obtain ⟨p, c, q, e, d⟩ := key [] u rfl (by rw [List.append_nil]; exact h)
  refine ⟨p, c, q, e, ?_⟩
  subst e
  have hc : c ∈ ls := hu c (List.mem_append_right _ (List.mem_cons_self ..))
  have hzp : ∀ y ∈ z ++ p, y ∈ ls := fun y hy => (List.mem_append.mp hy).elim (hz y) fun w => hu y (List.mem_append_left _ w)
  have hzc : ∀ y ∈ z ++ (p ++ [c]), y ∈ ls := fun y hy => by
    rw [← List.append_assoc] at hy
    rcases List.mem_append.mp hy with w | w
    · exact hzp y w
    · rw [List.mem_singleton.mp w]
      exact hc
  have same : ∀ x, x ≠ c → mark f (z ++ (p ++ [c])) s x = mark f (z ++ p) s x := fun x hx => by
    unfold mark
    rw [← List.append_assoc, act_app]
    show act f (z ++ p) (thr f c (unit x)) s = _
    rw [show thr f c (unit x) = unit x from funext fun e => unit_thr hx]
  have eq0 : ∀ x ∈ ls, x ≠ c → mark f (z ++ p) s x = 0 := by
    intro x hx hxc
    have e := same x hxc
    by_cases n : Ng f ls (z ++ p) s
    · have n2 : ¬ Ng f ls (z ++ (p ++ [c])) s := fun w => d ⟨fun _ => w, fun _ => n⟩
      have a1 := ng_np ok hzp hs n x hx
      have a2 := ((not_ng ok hzc hs).mp n2).1 x hx
      omega
    · have n2 : Ng f ls (z ++ (p ++ [c])) s := Classical.byContradiction fun w => d ⟨fun a => absurd a n, fun a => absurd a w⟩
      have a1 := ((not_ng ok hzp hs).mp n).1 x hx
      have a2 := ng_np ok hzc hs n2 x hx
      omega
  have lin : ∀ g, act f (z ++ p) g s = mark f (z ++ p) s c * g c := by
    intro g
    rw [act_lin hn ok g hzp hs]
    have e2 : sumL ls (fun x => g x * mark f (z ++ p) s x) = sumL ls fun x => (mark f (z ++ p) s c * g x) * unit x c := sumL_congr fun x hx => by
      unfold unit
      by_cases e : c = x
      · rw [if_pos e, ← e, Int.mul_one, Int.mul_comm]
      · rw [if_neg e, eq0 x hx fun w => e w.symm]
        omega
    rw [e2]
    exact sumL_unit (g := fun x => mark f (z ++ p) s c * g x) hn hc
  have h1 := lin (act f (z ++ p).reverse (unit s))
  rw [act_rev' ok] at h1
  have hu1 : unit s s = 1 := if_pos rfl
  rw [hu1] at h1
  rcases Int.lt_or_le 0 (mark f (z ++ p) s c) with k0 | k0
  · have one := int_one h1.symm k0
    exact .inl fun g => by rw [lin, one, Int.one_mul]
  · have hk : mark f (z ++ p) s c ≠ 0 := fun w => by rw [w] at h1; omega
    have one : - mark f (z ++ p) s c = 1 := int_one (t := - act f (z ++ p).reverse (unit s) c) (by rw [Int.neg_mul_neg]; exact h1.symm) (by omega)
    exact .inr fun g => by
      rw [lin]
      have : mark f (z ++ p) s c = -1 := by omega
      rw [this]
      omega
/-- the sign turns along two ways: they may begin alike -/
theorem turn_two (hn : ls.Nodup) (ok : CrOk f) {z u v : List Nat} (hz : ∀ y ∈ z, y ∈ ls) (hs : s ∈ ls) (hu : ∀ y ∈ u, y ∈ ls) (hv : ∀ y ∈ v, y ∈ ls) (ru : Red f u) (rv : Red f v) (h1 : ¬ (Ng f ls z s ↔ Ng f ls (z ++ u) s)) (h2 : ¬ (Ng f ls z s ↔ Ng f ls (z ++ v) s)) : ∃ t ∈ ls, desc f t u ∧ desc f t v := by
  obtain ⟨p, c, q, rfl, hg⟩ := turn_door hn ok hz hs u hu h1
  have hc : c ∈ ls := hu c (List.mem_append_right _ (List.mem_cons_self ..))
  have hp : ∀ y ∈ p.reverse, y ∈ ls := fun y hy => hu y (List.mem_append_left _ (List.mem_reverse.mp hy))
  have hpv : ∀ y ∈ p.reverse ++ v, y ∈ ls := fun y hy => (List.mem_append.mp hy).elim (hp y) (hv y)
  -- the mark of the door
  have pos : Pos ls (mark f p.reverse c) := by
    have : Red f (p ++ [c]) := by
      have h : Red f ((p ++ [c]) ++ q) := by rw [List.append_assoc]; exact ru
      exact Red_left h
    have h2 := this.rev
    rw [List.reverse_append] at h2
    exact mark_nn ok h2.2 hp hc h2.1
  have ez : ∀ g, act f z g s = act f (z ++ p) (act f p.reverse g) s := fun g => by rw [act_app, act_rev' ok]
  have ev : ∀ x, mark f (z ++ v) s x = act f z (act f v (unit x)) s := fun x => by unfold mark; rw [act_app]
  have nv : Ng f ls (p.reverse ++ v) c := by
    apply Classical.byContradiction
    intro w
    have pw := (not_ng ok hpv hc).mp w
    apply h2
    have e5 : ∀ x, mark f (p.reverse ++ v) c x = act f p.reverse (act f v (unit x)) c := fun x => by unfold mark; rw [act_app]
    rcases hg with hg | hg
    · have a1 : ¬ Ng f ls z s := by
        rintro ⟨x, hx, w⟩
        have w : act f z (unit x) s < 0 := w
        rw [ez, hg] at w
        have := pos.1 x hx
        have this : 0 ≤ act f p.reverse (unit x) c := this
        omega
      have a2 : ¬ Ng f ls (z ++ v) s := by
        rintro ⟨x, hx, w⟩
        rw [ev, ez, hg] at w
        have := pw.1 x hx
        rw [e5] at this
        omega
      exact ⟨fun a => absurd a a1, fun a => absurd a a2⟩
    · have a1 : Ng f ls z s := by
        obtain ⟨x, hx, w⟩ := pos.2
        refine ⟨x, hx, ?_⟩
        show act f z (unit x) s < 0
        rw [ez, hg]
        have w : 0 < act f p.reverse (unit x) c := w
        omega
      have a2 : Ng f ls (z ++ v) s := by
        obtain ⟨x, hx, w⟩ := pw.2
        refine ⟨x, hx, ?_⟩
        rw [ev, ez, hg]
        rw [e5] at w
        omega
      exact ⟨fun _ => a2, fun _ => a1⟩
  obtain ⟨t, ht, d, n⟩ := both_first ok hv p.reverse q c (by rw [List.reverse_reverse]; exact ru) (by rw [List.reverse_reverse]; exact hu) nv
  rw [List.reverse_reverse] at d
  exact ⟨t, ht, d, (ng_desc ok rv hv ht).mp n⟩
end
end Cw
set_option Elab.async false
set_option linter.all false
set_option maxRecDepth 100000
set_option maxHeartbeats 4000000
/-! the room between each two of three -/
namespace Cw
section
variable {f : Nat → List Nat} {ls : List Nat} {s t k : Nat}
theorem red_of_len (ok : CrOk f) {w : List Nat} (h : (nameOf f w).length = w.length) : Red f w := by
  rw [Red_iff]
  intro p t q r e hq
  have e2 : nameOf f w = nameOf f (p ++ (q ++ r)) := name_eq ok fun g => by
    rw [e]
    simp only [act_app]
    show act f p (thr f t (act f (q ++ t :: r) g)) = _
    rw [act_app]
    show act f p (thr f t (act f q (thr f t (act f r g)))) = _
    rw [act_comm ok hq, thr_thr ok]
  have l1 := name_len f (p ++ (q ++ r))
  rw [← e2, h, e] at l1
  simp only [List.length_append, List.length_cons] at l1
  omega
/-- one letter less -/
theorem erase_desc (ok : CrOk f) {w : List Nat} (h : desc f k w) : ∃ p q, w = p ++ k :: q ∧ (∀ y ∈ p, y ∈ f k) ∧ w.erase k = p ++ q := by
  obtain ⟨p, q, rfl, hp⟩ := desc_split h
  refine ⟨p, q, rfl, hp, ?_⟩
  rw [List.erase_append_right _ fun z => ok.irr k (hp k z), List.erase_cons_head]
theorem desc_pop {p q : List Nat} (ne : k ≠ t) : ∀ {p : List Nat}, desc f t (p ++ k :: q) → desc f t (p ++ q)
  | [], h => by
    rcases h with h | ⟨_, h⟩
    · exact absurd h ne
    · exact h
  | y :: p, h => by
    rcases h with h | ⟨h1, h2⟩
    · exact .inl h
    · exact .inr ⟨h1, desc_pop (p := p) ne h2⟩
theorem erase_keep (ok : CrOk f) {w : List Nat} (h : desc f k w) (ne : k ≠ t) (ht : desc f t w) : desc f t (w.erase k) := by
  obtain ⟨p, q, rfl, hp, e⟩ := erase_desc ok h
  rw [e]
  exact desc_pop (p := p) (q := q) ne ht
theorem erase_red (ok : CrOk f) {w : List Nat} (h : desc f k w) (hr : Red f w) : Red f (w.erase k) := by
  obtain ⟨p, q, rfl, hp, e⟩ := erase_desc ok h
  rw [e]
  exact Red_out ok hp hr
theorem erase_act (ok : CrOk f) {w : List Nat} (h : desc f k w) (g : Nat → Int) : act f (k :: w.erase k) g = act f w g := by
  obtain ⟨p, q, rfl, hp, e⟩ := erase_desc ok h
  rw [e]
  show thr f k (act f (p ++ q) g) = _
  rw [act_app, act_app]
  show _ = act f p (thr f k (act f q g))
  rw [act_comm ok hp]
theorem erase_len {w : List Nat} (h : desc f k w) : (w.erase k).length + 1 = w.length := by
  obtain ⟨p, q, rfl, hp⟩ := desc_split h
  have : k ∈ p ++ k :: q := List.mem_append_right _ (List.mem_cons_self ..)
  rw [List.length_erase_of_mem this]
  have : 0 < (p ++ k :: q).length := by rw [List.length_append, List.length_cons]; omega
  omega
/-- what is in common at the beginning of two ways, and the rests -/
structure Share (f : Nat → List Nat) (ls u v fd u' v' : List Nat) : Prop where
  au : ∀ g, act f u g = act f (fd ++ u') g
  av : ∀ g, act f v g = act f (fd ++ v') g
  ru : Red f u'
  rv : Red f v'
  mu : ∀ y ∈ u', y ∈ ls
  mv : ∀ y ∈ v', y ∈ ls
  mf : ∀ y ∈ fd, y ∈ ls
  lu : fd.length + u'.length = u.length
  lv : fd.length + v'.length = v.length
theorem Share.start {u v : List Nat} (ru : Red f u) (rv : Red f v) (mu : ∀ y ∈ u, y ∈ ls) (mv : ∀ y ∈ v, y ∈ ls) : Share f ls u v [] u v := ⟨fun _ => rfl, fun _ => rfl, ru, rv, mu, mv, fun _ z => (nomatch z), by simp, by simp⟩
theorem Share.step (ok : CrOk f) {u v fd u' v' : List Nat} (h : Share f ls u v fd u' v') (hk : k ∈ ls) (hu : desc f k u') (hv : desc f k v') : Share f ls u v (fd ++ [k]) (u'.erase k) (v'.erase k) where
  au := fun g => by rw [h.au, List.append_assoc, act_app, act_app]; show _ = act f fd (act f (k :: u'.erase k) g); rw [erase_act ok hu]
  av := fun g => by rw [h.av, List.append_assoc, act_app, act_app]; show _ = act f fd (act f (k :: v'.erase k) g); rw [erase_act ok hv]
  ru := erase_red ok hu h.ru
  rv := erase_red ok hv h.rv
  mu := fun y hy => h.mu y (List.mem_of_mem_erase hy)
  mv := fun y hy => h.mv y (List.mem_of_mem_erase hy)
  mf := fun y hy => (List.mem_append.mp hy).elim (h.mf y) fun z => by rw [List.mem_singleton.mp z]; exact hk
  lu := by
    have := erase_len hu
    have := h.lu
    rw [List.length_append, List.length_singleton]
    omega
  lv := by
    have := erase_len hv
    have := h.lv
    rw [List.length_append, List.length_singleton]
    omega
/-- the middle of three rooms, by all walls -/
structure Mid (f : Nat → List Nat) (ls a b c M : List Nat) : Prop where
  nf : NF f M
  mem : ∀ y ∈ M, y ∈ ls
  by' : ∀ z : List Nat, (∀ y ∈ z, y ∈ ls) → ∀ s ∈ ls, (Ng f ls (z ++ M) s ↔ (Ng f ls (z ++ a) s ∧ Ng f ls (z ++ b) s) ∨ (Ng f ls (z ++ a) s ∧ Ng f ls (z ++ c) s) ∨ (Ng f ls (z ++ b) s ∧ Ng f ls (z ++ c) s))
theorem ng_nil {s : Nat} : ¬ Ng f ls [] s := by
  rintro ⟨x, _, h⟩
  have h : unit x s < 0 := h
  unfold unit at h
  split at h <;> omega
theorem ng_back (ok : CrOk f) (m : List Nat) (s : Nat) : ¬ Ng f ls (m.reverse ++ m) s := fun z => ng_nil (f := f) (ls := ls) (s := s) ((ng_act (w := []) (fun g => by rw [act_app, act_rev ok]; rfl) s).mp z)
/-- rooms that no wall parts are one -/
theorem room_uniq (ok : CrOk f) {M N : List Nat} (hM : NF f M) (hN : NF f N) (mM : ∀ y ∈ M, y ∈ ls) (mN : ∀ y ∈ N, y ∈ ls) (h : ∀ s ∈ ls, ¬ Ng f ls (M.reverse ++ N) s) : M = N := by
  have hw : ∀ y ∈ wayC f M N, y ∈ ls := fun y hy => by
    rcases List.mem_append.mp (name_mem hy) with z | z
    · exact mM y (List.mem_reverse.mp z)
    · exact mN y z
  have e : wayC f M N = [] := by
    cases hc : wayC f M N with
    | nil => rfl
    | cons t r =>
      exfalso
      have ht : t ∈ ls := hw t (by rw [hc]; exact List.mem_cons_self ..)
      refine h t ht ((ng_name ok _ t).mp ((ng_desc ok (name_NF ok _).red hw ht).mpr ?_))
      show desc f t (wayC f M N)
      rw [hc]
      exact .inl rfl
  have := way_goes ok M N
  rw [e, List.append_nil] at this
  have e1 : nameOf f M = M := (is_NF ok).mpr hM
  have e2 : nameOf f N = N := (is_NF ok).mpr hN
  rw [e1, e2] at this
  exact this
theorem Mid.uniq (ok : CrOk f) {a b c a' b' c' M N : List Nat} (h : Mid f ls a b c M) (h' : Mid f ls a' b' c' N)
    (hp : ∀ z : List Nat, (∀ y ∈ z, y ∈ ls) → ∀ s ∈ ls, (((Ng f ls (z ++ a) s ∧ Ng f ls (z ++ b) s) ∨ (Ng f ls (z ++ a) s ∧ Ng f ls (z ++ c) s) ∨ (Ng f ls (z ++ b) s ∧ Ng f ls (z ++ c) s)) ↔ ((Ng f ls (z ++ a') s ∧ Ng f ls (z ++ b') s) ∨ (Ng f ls (z ++ a') s ∧ Ng f ls (z ++ c') s) ∨ (Ng f ls (z ++ b') s ∧ Ng f ls (z ++ c') s)))) : M = N := by
  refine room_uniq (ls := ls) ok h.nf h'.nf h.mem h'.mem fun s hs z => ng_back (ls := ls) ok M s ?_
  have mz : ∀ y ∈ M.reverse, y ∈ ls := fun y hy => h.mem y (List.mem_reverse.mp hy)
  exact (h.by' _ mz s hs).mpr ((hp _ mz s hs).mpr ((h'.by' _ mz s hs).mp z))
/-- the middle by what is in common at the beginning -/
theorem mid_of (hn : ls.Nodup) (ok : CrOk f) {a b c fd u' v' : List Nat} (ma : ∀ y ∈ a, y ∈ ls) (mb : ∀ y ∈ b, y ∈ ls) (mc : ∀ y ∈ c, y ∈ ls) (h : Share f ls (wayC f a b) (wayC f a c) fd u' v') (hd : ∀ t ∈ ls, ¬ (desc f t u' ∧ desc f t v')) : Mid f ls a b c (nameOf f (a ++ fd)) := by
  have redL : ∀ {w x : List Nat}, (∀ g, act f (nameOf f w) g = act f (fd ++ x) g) → fd.length + x.length = (nameOf f w).length → Red f (fd ++ x) := by
    intro w x e l
    refine red_of_len ok ?_
    rw [← name_eq ok e, name_name ok, List.length_append, l]
  have r1 : Red f (fd ++ u') := redL h.au h.lu
  have r2 : Red f (fd ++ v') := redL h.av h.lv
  have mfr : ∀ y ∈ fd.reverse, y ∈ ls := fun y hy => h.mf y (List.mem_reverse.mp hy)
  have rf : Red f fd.reverse := (Red_left r1).rev
  have noc : ∀ {x : List Nat}, Red f (fd ++ x) → ∀ t, ¬ (desc f t fd.reverse ∧ desc f t x) := by
    rintro x hr t ⟨d1, d2⟩
    obtain ⟨p1, q1, e1, h1⟩ := desc_split d1
    obtain ⟨p2, q2, e2, h2⟩ := desc_split d2
    have e3 := congrArg List.reverse e1
    rw [List.reverse_reverse] at e3
    refine Red_iff.mp hr q1.reverse t (p1.reverse ++ p2) q2 ?_ fun y hy => (List.mem_append.mp hy).elim (fun z => h1 y (List.mem_reverse.mp z)) (h2 y)
    rw [e3, e2]
    simp
  refine ⟨name_NF ok _, fun y hy => (List.mem_append.mp (name_mem hy)).elim (ma y) (h.mf y), fun z hz s hs => ?_⟩
  have mM : ∀ y ∈ a ++ fd, y ∈ ls := fun y hy => (List.mem_append.mp hy).elim (ma y) (h.mf y)
  have mZ : ∀ y ∈ z ++ (a ++ fd), y ∈ ls := fun y hy => (List.mem_append.mp hy).elim (hz y) (mM y)
  have n0 : Ng f ls (z ++ nameOf f (a ++ fd)) s ↔ Ng f ls (z ++ (a ++ fd)) s := ng_act (fun g => by rw [act_app, act_app, name_act ok]) s
  have na : Ng f ls (z ++ a) s ↔ Ng f ls (z ++ (a ++ fd) ++ fd.reverse) s := ng_act (fun g => by simp only [act_app]; rw [act_rev' ok]) s
  have nb : Ng f ls (z ++ b) s ↔ Ng f ls (z ++ (a ++ fd) ++ u') s := ng_act (fun g => by
    simp only [act_app]
    have e := h.au g
    unfold wayC at e
    rw [name_act ok, act_app, act_app] at e
    rw [← e, act_rev' ok]) s
  have nc : Ng f ls (z ++ c) s ↔ Ng f ls (z ++ (a ++ fd) ++ v') s := ng_act (fun g => by
    simp only [act_app]
    have e := h.av g
    unfold wayC at e
    rw [name_act ok, act_app, act_app] at e
    rw [← e, act_rev' ok]) s
  rw [n0, na, nb, nc]
  have t1 : ¬ (¬ (Ng f ls (z ++ (a ++ fd)) s ↔ Ng f ls (z ++ (a ++ fd) ++ u') s) ∧ ¬ (Ng f ls (z ++ (a ++ fd)) s ↔ Ng f ls (z ++ (a ++ fd) ++ v') s)) := fun ⟨x, y⟩ => by
    obtain ⟨t, ht, d⟩ := turn_two hn ok mZ hs h.mu h.mv h.ru h.rv x y
    exact hd t ht d
  have t2 : ¬ (¬ (Ng f ls (z ++ (a ++ fd)) s ↔ Ng f ls (z ++ (a ++ fd) ++ fd.reverse) s) ∧ ¬ (Ng f ls (z ++ (a ++ fd)) s ↔ Ng f ls (z ++ (a ++ fd) ++ u') s)) := fun ⟨x, y⟩ => by
    obtain ⟨t, ht, d⟩ := turn_two hn ok mZ hs mfr h.mu rf h.ru x y
    exact noc r1 t d
  have t3 : ¬ (¬ (Ng f ls (z ++ (a ++ fd)) s ↔ Ng f ls (z ++ (a ++ fd) ++ fd.reverse) s) ∧ ¬ (Ng f ls (z ++ (a ++ fd)) s ↔ Ng f ls (z ++ (a ++ fd) ++ v') s)) := fun ⟨x, y⟩ => by
    obtain ⟨t, ht, d⟩ := turn_two hn ok mZ hs mfr h.mv rf h.rv x y
    exact noc r2 t d
  by_cases x0 : Ng f ls (z ++ (a ++ fd)) s <;> by_cases x1 : Ng f ls (z ++ (a ++ fd) ++ fd.reverse) s <;> by_cases x2 : Ng f ls (z ++ (a ++ fd) ++ u') s <;> by_cases x3 : Ng f ls (z ++ (a ++ fd) ++ v') s <;> simp only [x0, x1, x2, x3, iff_true, iff_false, true_iff, false_iff, not_true, not_false_iff, and_true, true_and, and_false, false_and, or_true, true_or, or_false, false_or, and_self, not_false_eq_true, iff_self] at t1 t2 t3 ⊢
end
end Cw
set_option Elab.async false
set_option linter.all false
set_option maxRecDepth 100000
set_option maxHeartbeats 4000000
namespace Cw
open PySem PySem.Spec L2
section
variable {ls : List Nat} {fn : Nat → List Nat} {m n : List Nat} {k j : Nat}
theorem firsts_iff (fl : Fl ls fn) {w : List Nat} (hw : ∀ c ∈ w, c ∈ ls) (hk : k ∈ ls) : k ∈ firstsOf (ascOf ls) (tabPairs ls fn) w ↔ desc fn k w := by
  unfold firstsOf
  rw [asc_self fl, List.mem_filter, decide_eq_true_iff, founds_congr (g := fn) fun j hj c hc => ?_, founds_mem fl.ok]
  · exact ⟨fun z => z.2.2, fun z => ⟨hk, hk, z⟩⟩
  · have := cross_tab fl.tab (hw j hj) hc
    rw [asc_self fl] at this
    exact this
theorem firsts_sub (fl : Fl ls fn) {w : List Nat} (h : k ∈ firstsOf (ascOf ls) (tabPairs ls fn) w) : k ∈ ls := by
  unfold firstsOf at h
  rw [asc_self fl] at h
  exact (List.mem_filter.mp h).1
theorem firsts_nodup (fl : Fl ls fn) (w : List Nat) : (firstsOf (ascOf ls) (tabPairs ls fn) w).Nodup := by
  unfold firstsOf
  rw [asc_self fl]
  exact fl.tab.nd.sublist (List.filter_sublist)
theorem firsts_len (fl : Fl ls fn) (w : List Nat) : (firstsOf (ascOf ls) (tabPairs ls fn) w).length ≤ 1000 := by
  have h : (firstsOf (ascOf ls) (tabPairs ls fn) w).length ≤ (ascOf ls).length := List.length_filter_le _ _
  have h2 : (ascOf ls).length = ls.length := by rw [asc_self fl]
  have := fl.tab.len
  omega
/-- the kinds that are in front of both -/
def bothOf (ls : List Nat) (fn : Nat → List Nat) (u v : List Nat) : List Nat := (firstsOf (ascOf ls) (tabPairs ls fn) u).filter fun c => decide (c ∈ firstsOf (ascOf ls) (tabPairs ls fn) v)
theorem both_iff (fl : Fl ls fn) {u v : List Nat} (hu : ∀ c ∈ u, c ∈ ls) (hv : ∀ c ∈ v, c ∈ ls) : k ∈ bothOf ls fn u v ↔ k ∈ ls ∧ desc fn k u ∧ desc fn k v := by
  unfold bothOf
  rw [List.mem_filter, decide_eq_true_iff]
  constructor
  · rintro ⟨h1, h2⟩
    have hk := firsts_sub fl h1
    exact ⟨hk, (firsts_iff fl hu hk).mp h1, (firsts_iff fl hv hk).mp h2⟩
  · rintro ⟨hk, h1, h2⟩
    exact ⟨(firsts_iff fl hu hk).mpr h1, (firsts_iff fl hv hk).mpr h2⟩
theorem both_nodup (fl : Fl ls fn) (u v : List Nat) : (bothOf ls fn u v).Nodup := (firsts_nodup fl u).sublist (List.filter_sublist)
end
end Cw
set_option Elab.async false
set_option linter.all false
set_option maxRecDepth 100000
set_option maxHeartbeats 4000000
/-! text.replace(letter, "", 1): the first such letter is left out -/
namespace Cw
open PySem PySem.Spec L2 PyProof.Rows Builtin Builtin.Str
theorem occ_one {p q : List Nat} {c : Nat} (hp : ¬ c ∈ p) : occurrences (tx (p ++ c :: q)) (tx [c]) 0 (tx (p ++ c :: q)).length 1 = [p.length] := by
  have hat : ∀ i, StrLaws.At (tx (p ++ c :: q)) (tx [c]) (tx (p ++ c :: q)).length i ↔ (p ++ c :: q)[i]? = some c := fun i => StrLaws.subAt_one (tx (p ++ c :: q)) c i
  have h0 : (p ++ c :: q)[p.length]? = some c := by rw [List.getElem?_append_right (Nat.le_refl _), Nat.sub_self]; rfl
  have hl := StrLaws.occ_length_le (tx (p ++ c :: q)) (tx [c]) 0 (tx (p ++ c :: q)).length 1
  rcases StrLaws.occ_head (tx (p ++ c :: q)) (tx [c]) 1 (Nat.le_refl _) with ⟨_, h⟩ | ⟨i, r, e, h1, h2⟩
  · exact absurd ((hat _).mpr h0) (h _)
  · rw [e] at hl ⊢
    have hr : r = [] := by
      cases r with
      | nil => rfl
      | cons a r => simp at hl
    have hi := (hat i).mp h1
    have e1 : ¬ i < p.length := by
      intro z
      rw [List.getElem?_append_left z] at hi
      exact hp (List.mem_of_getElem? hi)
    have e2 : ¬ p.length < i := fun z => h2 _ z ((hat _).mpr h0)
    rw [hr, show i = p.length by omega]
theorem cut_one {p q : List Nat} {c : Nat} (hp : ¬ c ∈ p) : glued (tx []) (partsBetween (tx (p ++ c :: q)) [p.length] 1) = tx (p ++ q) := by
  apply Str.ext'
  apply Array.toList_inj.mp
  rw [StrLaws.partsBetween_eq]
  show (([strSub (tx (p ++ c :: q)) (p.length + 1) (tx (p ++ c :: q)).length].foldl (fun acc z => acc ++ (tx []).cps ++ z.cps) (strSub (tx (p ++ c :: q)) 0 p.length).cps)).toList = p ++ q
  rw [List.foldl_cons, List.foldl_nil, Array.toList_append, Array.toList_append, StrLaws.strSub_toList, StrLaws.strSub_toList]
  show ((p ++ c :: q).drop 0).take (p.length - 0) ++ [] ++ ((p ++ c :: q).drop (p.length + 1)).take _ = _
  rw [List.drop_zero, Nat.sub_zero, List.take_left, List.append_nil]
  congr 1
  have e : (p ++ c :: q).drop (p.length + 1) = q := by
    rw [← List.drop_drop, List.drop_left]
    rfl
  rw [e]
  apply List.take_of_length_le
  show q.length ≤ (p ++ c :: q).toArray.size - _
  simp
  omega
theorem gives_cut (x y z : Str) (t u v k : Tok) (hu : (u == 0 || v == 0) = false) (huv : (u == v) = false) (hyz : (y == z) = false)
    (hl : tooLong (x.length + (occurrences x y 0 x.length 1).length * z.length) = false) (hc : ((occurrences x y 0 x.length 1).isEmpty || (y.length == 0 && z.length == 0)) = false) :
    Gives («str.replace» ⟨[.str x t, .str y u, .str z v, .int 1 k], []⟩) (.str (glued z (partsBetween x (occurrences x y 0 x.length 1) y.length))) := by
  show Gives (if ((occurrences x y 0 x.length 1).isEmpty || (y.length == 0 && z.length == 0)) = true then (do rule "str.replace.nothing"; ret (.str x t)) else (do
    let same ← isSame (.str y u) (.str z v); if same = true then (do rule "str.replace.old-is-new"; ret (.str x t)) else if tooLong (x.length + (occurrences x y 0 x.length 1).length * z.length) = true then unsupported "str.replace:memory" else
      retStr (glued z (partsBetween x (occurrences x y 0 x.length 1) y.length)))) _
  rw [hc, isSame_str_other y z u v hu huv hyz, hl]
  exact .of_eq rfl
theorem call_cut {prog : Program} {w : World} {A : Around} {E : Value → Shared → Prop} {s : Shared} {Q : Value → Shared → Prop} {p q : List Nat} {c : Nat} {t u v k : Tok} (hp : ¬ c ∈ p) (hl : (p ++ c :: q).length ≤ 1000000) (hu : u ≠ 0) (hv : v ≠ 0) (huv : u ≠ v)
    (hq : ∀ t' k, Q (.str (tx (p ++ q)) t') { s with toks := k }) : wpAny (model prog w) A (call (.builtin "str.replace") [.str (tx (p ++ c :: q)) t, .str (tx [c]) u, .str (tx []) v, .int 1 k]) Q E s := by
  have ho := occ_one (q := q) hp
  have hg := cut_one (q := q) hp
  have g := gives_cut (tx (p ++ c :: q)) (tx [c]) (tx []) t u v k (by simp [hu, hv]) (by simp [huv]) (by
    apply beq_eq_false_iff_ne.mpr
    intro z
    have := tx_inj.mp z
    cases this) (by
    rw [ho]
    unfold tooLong sizeLine
    refine decide_eq_false ?_
    show ¬ (p ++ c :: q).toArray.size + [p.length].length * 0 > 2 ^ 24
    rw [List.size_toArray]
    omega) (by rw [ho]; rfl)
  rw [ho, show (tx [c]).length = 1 from rfl, hg] at g
  refine call_gives F.slot_str_replace (typeIs_str _ _ _) F.entry_str_replace (F.args_str_replace_4 _ _ _ _) g ?_
  refine ⟨?_, hq _ _⟩
  show (p ++ q).toArray.size ≤ sizeLine
  rw [List.size_toArray]
  simp only [List.length_append, List.length_cons] at hl ⊢
  have : (1000000 : Nat) ≤ sizeLine := by decide
  omega
theorem meth3 {prog : Program} {w : World} {A : Around} {E : Value → Shared → Prop} {s : Shared} {env : Env} {Q : Value → Shared → Prop} {o a b c : Expr} {name : Str} {apos pos : PySem.Pos} (hbase : attributeBase o name env (eval o env) = eval o env)
    (hs : starEach [a, b, c] env = [(false, eval a env), (false, eval b env), (false, eval c env)]) (hline : (apos.endLine == pos.line) = true) (h : wpAny (model prog w) A (eval o env) (fun ov s1 => MethodOnS prog w A E name ov pos [(false, eval a env), (false, eval b env), (false, eval c env)] Q s1) E s) :
    wpAny (model prog w) A (eval (.Call (.Attribute o name apos) [a, b, c] [] pos) env) Q E s := by
  refine wpAny_Call_method_lateS hbase (by rw [hs]; rfl) hline ?_
  rw [hs]
  exact h
/-! ### def without_first(way, kind): return way.replace(kind, "", 1) -/
/-- its promise, of raw arguments -/
def CutRun (P : Program) (w : World) (K : PySem.W.Frag) (mg : Str → Option Value) (base : Heap) (CX : CXT) (k : Nat) (f : Addr) : Prop :=
  ∀ (A : Around) (outer : List Env) (s : Shared) (H : Hp) (p q : List Nat) (c : Nat) (t u : Tok) (Q : VK) (E : XK), Room k A → Env0 P w K mg base A outer s H → u ≠ 0 → u < s.toks → ¬ c ∈ p → (p ++ c :: q).length ≤ 1000000 → Q (.str (tx (p ++ q))) H →
    codeAny (model P w) A (.call (.ref f) ⟨[.str (tx (p ++ c :: q)) t, .str (tx [c]) u], []⟩) (CR CX outer P w H s Q E) s
theorem cut_run {CX : CXT} {P : Program} {w : World} {K : PySem.W.Frag} {mg : Str → Option Value} {base : Heap} {k : Nat} {f : Addr} {fd : FuncData} {x a0 a1 z : Str} {st : Stmt} {N : List Str} {p1 p2 c2 c3 apos cpos rpos : PySem.Pos} {j2 j3 : Nat} (Fn : Fun K x x st f fd) (S : FnScope N [a0, a1] (defScope st)) (hz : z = tx [])
    (hbd : defBody st = [.Return (some (.Call (.Attribute (.Name a0 p1) "replace" apos) [.Name a1 p2, .Constant (.str z) j2 c2, .Constant (.int 1) j3 c3] [] cpos)) rpos])
    (hb : ∀ (kV doc pm : Value) (an : Option Addr) (cdv ct : Value) (us : List Value), us.length = 2 → bindArgs (PySem.W.fnOf x x (defArgs st) (defBody st) (defScope st) .none kV doc pm an cdv ct) ⟨us, []⟩ = pure ([a0, a1].zip us))
    (l0 : (defScope st).names.lookup a0 = some .local) (l1 : (defScope st).names.lookup a1 = some .local) (d0 : (a0 == ("__debug__" : Str)) = false) (d1 : (a1 == ("__debug__" : Str)) = false) (hline : (apos.endLine == cpos.line) = true) : CutRun P w K mg base CX (k + 1) f := by
  obtain ⟨oc, od, kV, doc, pm, an, cdv, ct, osl, rfl, lk, hcd⟩ := Fn.ex
  subst hz
  intro A outer s H p q c t u Q E hr ev hu hut hp hl fin
  rw [hbd] at lk hb
  have inK : K.In s.heap := ev.mod.kin.keeps fun b o z => (ev.bs b o z).1
  have nl : s.heap.NoLimit := ev.mod.nolimit.keeps fun b o z => (ev.bs b o z).1
  have kinds : ∀ y ∈ [a0, a1].zip [Value.str (tx (p ++ c :: q)) t, .str (tx [c]) u], (defScope st).names.lookup y.1 = some .local ∨ ((defScope st).names.lookup y.1 = some .cell ∧ ((cellsFrom (s.heap.objs.size + 1) (defScope st).names []).lookup y.1).isSome = true) := fun ⟨n, v⟩ hy => by
    rcases S.par n (List.of_mem_zip hy).1 with r | r
    · exact .inl r
    · exact .inr ⟨r, PySem.W.cellsFrom_some _ _ _ (.inl r)⟩
  refine codeAny_call_function hr.depth (inK _ _ lk) rfl S.co S.gen rfl (PySem.W.codeRec_of inK hcd) (BindsTo.of_eq (hb kV doc pm an cdv ct [.str (tx (p ++ c :: q)) t, .str (tx [c]) u] rfl) _ _ _ _ ?_)
  refine wpAny_mono (PySem.wpAny_toks (wpAny_newFunctionEnv_cells (Q := fun env s1 => env = _ ∧ InCallC s _ _ _ _ s1) S.kind kinds fun env he s1 xx => ⟨he, xx⟩)) (fun env s1 hh => ?_) fun _ _ y => y.2
  obtain ⟨tk, he, xx⟩ := hh
  subst he
  refine ⟨nl.keeps xx.toInCall.keep, codeAny_func ?_⟩
  have vals : Vals [V.str (tx (p ++ c :: q)), .str (tx [c])] [Value.str (tx (p ++ c :: q)) t, .str (tx [c]) u] := .cons ⟨t, rfl⟩ (.cons ⟨u, rfl⟩ .nil)
  have tk : s.toks ≤ s1.toks := tk
  have hut : u < s.toks := hut
  have J0 : Inv (cxOf CX P w K mg base N x (defScope st) f cdv A outer s H E) [] (start N [.str (tx (p ++ c :: q)), .str (tx [c])]) H s1 := inv_start S hr.hd ev rfl vals xx
  have ns := xx.toInCall.ns
  have two : [a0, a1].Nodup := by
    rw [show [a0, a1] = N.take 2 from S.pre.symm]
    exact S.nd.sublist (List.take_sublist _ _)
  have g0 := bindL_get (kindOf := (envOfC x (defScope st) s.heap.objs.size f cdv).kindOf) (x := a0) (v := Value.str (tx (p ++ c :: q)) t) (P := [a0, a1]) (vs := [.str (tx (p ++ c :: q)) t, .str (tx [c]) u]) (i := 0) (m := fun _ => none) two rfl rfl l0
  have g1 := bindL_get (kindOf := (envOfC x (defScope st) s.heap.objs.size f cdv).kindOf) (x := a1) (v := Value.str (tx [c]) u) (P := [a0, a1]) (vs := [.str (tx (p ++ c :: q)) t, .str (tx [c]) u]) (i := 1) (m := fun _ => none) two rfl rfl l1
  refine wpAny_execs_cons (wpAny_Return_some (meth3 rfl rfl hline (wpAny_Name (wpAny_loadName_local S.kind l0 ns g0 ?_) d0)))
  refine ⟨"str", _, F.plainAttrs_str, F.slot_str_replace, F.type_str_replace, typeIs_str _ _ _, (fun _ z => nomatch z), Calls.callWith_builtin rfl (Calls.evalArgs_plain (Calls.spliced_cons ?_))⟩
  refine wpAny_Name (wpAny_loadName_local S.kind l1 ns g1 ?_) d1
  refine Calls.spliced_cons (Calls.Constant_str ?_)
  refine Calls.spliced_cons (wpAny_Constant_int ?_)
  refine Calls.spliced_nil ?_
  refine call_cut hp hl hu (Nat.ne_of_gt (Nat.lt_of_lt_of_le (Nat.lt_of_le_of_lt (Nat.zero_le u) hut) tk)) (Nat.ne_of_lt (Nat.lt_of_lt_of_le hut tk)) fun t' k' => ?_
  have J := J0.tok k'
  exact ⟨.str (tx (p ++ q)), H, J.os, J.bare, J.base, J.hok, ⟨t', rfl⟩, fin⟩
end Cw
set_option Elab.async false
set_option linter.all false
set_option maxRecDepth 100000
set_option maxHeartbeats 4000000
/-! a loop over a text whose letters go on to text.replace: the letter's token is carried in its name -/
namespace Cw
open PySem PySem.Spec L2
theorem ns_one {h : Heap} {a : Addr} {m m' : Str → Option Value} (x : h.Ns a m) (y : h.Ns a m') : m = m' := by
  obtain ⟨o, es, ep, e1, e2, _, e4⟩ := x
  obtain ⟨o', es', ep', f1, f2, _, f4⟩ := y
  rw [e1] at f1
  cases f1
  rw [e2] at f2
  cases f2
  funext z
  rw [← e4, f4]
section
variable {X : Cx} {pins : List (Addr × Obj)} {σ : St} {H : Hp} {s : Shared}
/-- the letter c stands under the name x, with the token u -/
def RawAt (X : Cx) (x : Str) (c : Nat) (u : Tok) (s : Shared) : Prop := ∃ m, s.heap.Ns X.env.locals m ∧ m x = some (.str (tx [c]) u) ∧ u ≠ 0 ∧ u < s.toks
/-- a local name is stored, all seen -/
theorem stored {i : Nat} {y : Str} {v : V} {u : Value} {m : Str → Option Value} {h1 : Heap} {tk : Nat} (I : Inv X pins σ H s) (hN : X.N.Nodup) (hi : X.N[i]? = some y) (hk : X.env.kindOf y = some .local) (r : RelV v u) (hm : s.heap.Ns X.env.locals m)
    (hn : h1.Ns X.env.locals (fun z => if z = y then some u else m z)) (sb : Heap.SameBut X.env.locals s.heap h1) : Inv X pins (σ.set i (some v)) H { s with heap := h1, toks := tk } := by
  have mv : ∀ b, b ≠ X.env.locals → h1.get? b = s.heap.get? b := sb.2
  have old : ∀ {b : Addr} {o : Obj}, X.s_0.heap.get? b = some o → b ≠ X.env.locals := fun e => Nat.ne_of_lt (Nat.lt_of_lt_of_le (Heap.lt_size e) I.ok.above)
  have ne := I.cne
  obtain ⟨m0, n0, l0⟩ := I.loc
  obtain rfl := ns_one n0 hm
  obtain ⟨oL, _, _, hoL, _⟩ := id hm
  have cell' : ∀ {c : Addr} {w : Option Value}, c ≠ X.env.locals → s.heap.IsCell c w → h1.IsCell c w := fun hc z => z.sameBut sb hc
  exact {
    ok := I.ok
    os := I.os
    bare := I.bare
    base := {
      keep := fun b o e n f x => (mv b (old e)).trans (I.base.keep b o e n f x)
      slot := fun b o e n f x => by
        obtain ⟨sl, z⟩ := I.base.slot b o e n f x
        exact ⟨sl, (mv b (old e)).trans z⟩
      free := I.base.free
      there := fun b o e x => by
        obtain ⟨o', z⟩ := I.base.there b o e x
        exact ⟨o', (mv b (old e)).trans z⟩
      tups := I.base.tups
      frzs := I.base.frzs
      tbls := I.base.tbls }
    loc := by
      refine ⟨_, hn, fun j z w e1 e2 e3 => ?_⟩
      by_cases hj : i = j
      · subst hj
        rw [hi] at e1
        cases e1
        rw [List.getElem?_set_self (by rw [I.len]; exact (List.getElem?_eq_some_iff.mp hi).1)] at e2
        cases e2
        exact ⟨u, r, .inl ⟨hk, if_pos rfl⟩⟩
      · rw [List.getElem?_set_ne hj] at e2
        obtain ⟨u', r', q⟩ := l0 j z w e1 e2 e3
        refine ⟨u', r', ?_⟩
        rcases q with ⟨k, e⟩ | ⟨k, c, e, q⟩
        · have hz : z ≠ y := fun e => hj (nodup_ix hN hi (e ▸ e1))
          exact .inl ⟨k, by show (if z = y then _ else _) = _; rw [if_neg hz]; exact e⟩
        · exact .inr ⟨k, c, e, cell' (ne z c e) q⟩
    cell := fun z c e => by
      obtain ⟨w, q⟩ := I.cell z c e
      exact ⟨w, cell' (ne z c e) q⟩
    free := I.free
    freeC := I.freeC
    pin := fun p hp => by
      obtain ⟨e, n, nl, nf, d⟩ := I.pin p hp
      exact ⟨(mv p.1 nl).trans e, n, nl, nf, d⟩
    hok := fun b o e => (I.hok b o e).stay (fun c w hc q => (mv c (by
      rintro rfl
      rcases hc with z | z
      · rw [← z, I.free] at e
        cases e
      · rw [I.free] at z
        cases z)).trans q) (fun _ q => q) fun _ _ q => q
    len := by rw [List.length_set]; exact I.len }
/-- a value is stored under another name: the letter stays -/
theorem store_raw {M : Model} {A : Around} {E : Value → Shared → Prop} {i : Nat} {x y : Str} {c : Nat} {t : Tok} {v : V} {u : Value} {Q : Unit → Shared → Prop} (I : Inv X pins σ H s) (hN : X.N.Nodup) (hi : X.N[i]? = some y) (hk : X.env.kindOf y = some .local) (hxy : x ≠ y) (r : RelV v u) (hR : RawAt X x c t s)
    (q : ∀ s', Inv X pins (σ.set i (some v)) H s' → RawAt X x c t s' → Q () s') : wpAny M A (storeName X.env y u) Q E s := by
  obtain ⟨m, hm, hx, h0, ht⟩ := hR
  have hcls : (X.env.scope.kind == .class || (X.env.scope.kind == .module && X.env.locals != X.env.globals)) = false := by rw [I.ok.kind]; rfl
  refine wpAny_storeName_local hk hm (fun h1 hn sb => ?_) hcls
  refine q _ (stored I hN hi hk r hm hn sb) ⟨_, hn, ?_, h0, Nat.lt_succ_of_lt ht⟩
  show (if x = y then _ else _) = _
  rw [if_neg hxy]
  exact hx
/-- the letter itself is stored -/
theorem store_new {M : Model} {A : Around} {E : Value → Shared → Prop} {i : Nat} {x : Str} {c : Nat} {t : Tok} {Q : Unit → Shared → Prop} (I : Inv X pins σ H s) (hN : X.N.Nodup) (hi : X.N[i]? = some x) (hk : X.env.kindOf x = some .local) (h0 : t ≠ 0) (ht : t < s.toks)
    (q : ∀ s', Inv X pins (σ.set i (some (.str (tx [c])))) H s' → RawAt X x c t s' → Q () s') : wpAny M A (storeName X.env x (.str (tx [c]) t)) Q E s := by
  obtain ⟨m, hm, _⟩ := id I.loc
  have hcls : (X.env.scope.kind == .class || (X.env.scope.kind == .module && X.env.locals != X.env.globals)) = false := by rw [I.ok.kind]; rfl
  refine wpAny_storeName_local hk hm (fun h1 hn sb => ?_) hcls
  exact q _ (stored I hN hi hk ⟨t, rfl⟩ hm hn sb) ⟨_, hn, if_pos rfl, h0, Nat.lt_succ_of_lt ht⟩
end
/-! ### judgements that carry the letter -/
def PSsR (X : Cx) (ix : Nat) (x : Str) (st : List Stmt) (t : TS) : Prop :=
  ∀ (pins : List (Addr × Obj)) (s : Shared) (σ : St) (H : Hp) (D : Ends) (c : Nat) (u : Tok), Inv X pins σ H s → σ[ix]? = some (some (.str (tx [c]))) → RawAt X x c u s → t D σ H → wpAny (model X.prog X.w) X.A (execs st X.env) (SP X pins D) X.xe s
section
variable {X : Cx} {ix : Nat} {x : Str} {rest : List Stmt} {u : TS}
theorem PSsR.of (h : PSs X rest u) : PSsR X ix x rest u := fun pins s σ H D _ _ I _ _ q => h.run pins s σ H D I q
/-- y = z + x -/
theorem psr_cat {i j : Nat} {y z : Str} {p0 p1 p2 pb pos : PySem.Pos} (hN : X.N.Nodup) (hi : X.N[i]? = some y) (hj : X.N[j]? = some z) (hx : X.N[ix]? = some x) (ky : X.env.kindOf y = some .local) (kx : X.env.kindOf x = some .local) (vz : Vis X.env.scope z) (hxy : x ≠ y) (h2 : PSsR X ix x rest u)
    (hs : swapsWith (.BinOp (.Name z p1) .Add (.Name x p2) pb) (some (.Name y p0)) pos.line X.env = pure false := by rfl) (dz : (z == ("__debug__" : Str)) = false := by decide) (cz : (z == ("__classdict__" : Str)) = false := by decide) (dx : (x == ("__debug__" : Str)) = false := by decide) :
    PSsR X ix x (.Assign [.Name y p0] (.BinOp (.Name z p1) .Add (.Name x p2) pb) pos :: rest) (tSeq (tAsg (tOp rTAdd (tVar j) (tVar ix)) (gName i)) u) := by
  intro pins s σ H D c t I hσ hR h
  obtain ⟨v1, h1, v2, hv2, a, b, e1, e2, hl, q⟩ := h
  subst e1 e2
  rw [hσ] at hv2
  obtain rfl : [c] = b := by
    injection hv2 with hv2
    injection hv2 with hv2
    injection hv2 with hv2
    exact tx_inj.mp hv2
  obtain ⟨m, hm, hxm, h0, ht⟩ := id hR
  have hne : i ≠ ix := by
    rintro rfl
    rw [hx] at hi
    cases hi
    exact hxy rfl
  have hσ2 : ∀ w : V, (σ.set i (some w))[ix]? = some (some (.str (tx [c]))) := fun w => by
    rw [List.getElem?_set_ne hne]
    exact hσ
  refine wpAny_execs_cons (wpAny_Assign_Name (wpAny_BinOp (raw_name hj vz I h1 (fun w r => ?_) dz cz)) hs)
  obtain ⟨t1, rfl⟩ := r
  refine wpAny_Name (wpAny_loadName_local I.ok.kind kx hm hxm ?_) dx
  refine PySem.P.add_str ?_
  have go : ∀ (w : Value) (s' : Shared), Inv X pins σ H s' → RawAt X x c t s' → RelV (.str (tx (a ++ [c]))) w → wpAny (model X.prog X.w) X.A (storeName X.env y w) (fun _ s2 => wpAny (model X.prog X.w) X.A (execs rest X.env) (SP X pins D) X.xe s2) X.xe s' := fun w s' I' R' r' =>
    store_raw I' hN hi ky hxy r' R' fun s2 I2 R2 => h2 pins s2 _ H D c t I2 (hσ2 _) R2 q
  cases a with
  | nil => exact go _ s I hR ⟨t, rfl⟩
  | cons d r =>
    refine ⟨by rw [tx_app, tx_len, List.length_append]; exact szl hl, go _ _ (I.tok _) ⟨m, hm, hxm, h0, Nat.lt_succ_of_lt ht⟩ ⟨s.toks, by rw [tx_app]⟩⟩
/-- what the callee of text.replace reads -/
def tCut (j ix : Nat) : TE := fun σ H Q => ∃ p q c, σ[j]? = some (some (.str (tx (p ++ c :: q)))) ∧ σ[ix]? = some (some (.str (tx [c]))) ∧ ¬ c ∈ p ∧ (p ++ c :: q).length ≤ 1000000 ∧ Q (.str (tx (p ++ q))) H
theorem raw_after {c : Nat} {t : Tok} {pins : List (Addr × Obj)} {σ : St} {H H' : Hp} {s s' : Shared} (I : Inv X pins σ H s) (un : Un (frs X.stack) [] H H' s.heap s'.heap) (hR : RawAt X x c t s) (hk : s.toks ≤ s'.toks) : RawAt X x c t s' := by
  obtain ⟨m, ⟨o, es, ep, ho, r⟩, hx, h0, ht⟩ := hR
  obtain ⟨sl, hL⟩ := un.any ho I.free (fun z => nomatch z)
  exact ⟨m, ⟨_, es, ep, hL, r⟩, hx, h0, Nat.lt_of_lt_of_le ht hk⟩
/-- y = without_first(z, x) -/
theorem psr_cut {CX : CXT} {k : Nat} {f : Addr} {E : XK} {i j : Nat} {fx y z : Str} {p0 p1 p2 pf cpos pos : PySem.Pos} (R : CutRun X.prog X.w X.K X.mg X.base CX k f) (hr : Room k X.A) (hp : Passes CX X E) (hg : Gl X fx) (hm : X.mg fx = some (.ref f)) (hk : PySem.W.keepIn X.K (.ref f) = true)
    (hN : X.N.Nodup) (hi : X.N[i]? = some y) (hj : X.N[j]? = some z) (hx : X.N[ix]? = some x) (ky : X.env.kindOf y = some .local) (kx : X.env.kindOf x = some .local) (vz : Vis X.env.scope z) (hxy : x ≠ y) (h2 : PSsR X ix x rest u)
    (hs : swapsWith (.Call (.Name fx pf) [.Name z p1, .Name x p2] [] cpos) (some (.Name y p0)) pos.line X.env = pure false := by rfl) (df : (fx == ("__debug__" : Str)) = false := by decide) (dz : (z == ("__debug__" : Str)) = false := by decide) (cz : (z == ("__classdict__" : Str)) = false := by decide) (dx : (x == ("__debug__" : Str)) = false := by decide) :
    PSsR X ix x (.Assign [.Name y p0] (.Call (.Name fx pf) [.Name z p1, .Name x p2] [] cpos) pos :: rest) (tSeq (tAsg (tCut j ix) (gName i)) u) := by
  intro pins s σ H D c t I hσ hR h
  obtain ⟨a, b, c', h1, hc', ha, hl, q⟩ := h
  rw [hσ] at hc'
  obtain rfl : c = c' := by
    injection hc' with hc'
    injection hc' with hc'
    injection hc' with hc'
    have := tx_inj.mp hc'
    injection this
  obtain ⟨m, hm', hxm, h0, ht⟩ := id hR
  have hne : i ≠ ix := by
    rintro rfl
    rw [hx] at hi
    cases hi
    exact hxy rfl
  refine wpAny_execs_cons (wpAny_Assign_Name (wpAny_Call_Name_kw (ld_glob I hg hm ?_ df)) hs)
  refine PySem.W.callWith_K (h₀ := X.base) I.ok.mod.kin hk ?_ rfl rfl
  show wpAny _ _ (spliced ((false, eval (.Name z p1) X.env) :: backTo cpos (starEach [.Name x p2] X.env))) _ _ s
  refine Calls.spliced_cons (raw_name hj vz I h1 (fun w r => ?_) dz cz)
  obtain ⟨t1, rfl⟩ := r
  show wpAny _ _ (spliced ((false, eval (.Name x p2) X.env) :: backTo cpos (starEach [] X.env))) _ _ s
  refine Calls.spliced_cons (wpAny_Name (wpAny_loadName_local I.ok.kind kx hm' hxm ?_) dx)
  refine Calls.spliced_nil ⟨I.kIn, ?_⟩
  refine wpAny_mono (PySem.wpAny_toks (wpAny_call (Q := fun w s' => CE X.stack X.prog X.w H s (fun v H' => u D (σ.set i (some v)) H') w s') (E := X.xe) (codeAny_mono (R X.A X.stack s H a b c t1 t (fun v H' => u D (σ.set i (some v)) H') E hr I.env0 h0 ht ha hl q) fun r s' hq => ?_))) (fun w s' hh => ?_) fun _ _ z => z.2
  · cases r with
    | error e => exact hp pins σ H _ e s' I hq
    | ok fl =>
      cases fl with
      | ret w => exact hq
      | next => exact False.elim hq
      | brk => exact False.elim hq
      | cont => exact False.elim hq
  · obtain ⟨hkt, ce⟩ := hh
    have R2 : RawAt X x c t s' := by
      obtain ⟨v, H', _, _, un, _⟩ := id ce
      exact raw_after I un hR hkt
    obtain ⟨v, H', I2, rv, q2⟩ := I.after ce
    exact store_raw I2 hN hi ky hxy rv R2 fun s2 I3 R3 => h2 pins s2 _ H' D c t I3 (by rw [List.getElem?_set_ne hne]; exact hσ) R3 q2
/-- while, one token out -/
theorem pst_while {c : Expr} {body : List Stmt} {tc : TT} {tb : TS} {pos : PySem.Pos} (hp : PassesOwn (model X.prog X.w) X.A X.env X.xe) (hc : PT X c tc) (hb : PSsT X body tb) : PST X (.While c body [] pos) (tWhile tc tb) := by
  intro pins s σ H D h0 I h
  obtain ⟨W, ⟨m0, w0⟩, turn⟩ := h
  refine wpAny_While (codeAny_whileLoop (fun n s' => 1 ≤ s'.toks ∧ ∃ σ' H', Inv X pins σ' H' s' ∧ W n σ' H') ?_ m0 ⟨h0, σ, H, I, w0⟩)
  rintro n s1 ⟨t1, σ1, H1, I1, w1⟩
  refine wpAny_passesOwn hp (wpAny_mono (PySem.wpAny_toks_of t1 (hc.run pins s1 σ1 H1 _ I1 (turn n σ1 H1 w1))) (fun b s2 hh => ?_) fun _ _ z => z.2)
  obtain ⟨t2, H2, I2, q2⟩ := hh
  cases b with
  | false =>
    rw [if_neg Bool.false_ne_true]
    exact wpAny_execs_nil ⟨σ1, H2, I2, q2⟩
  | true =>
    obtain ⟨N, again, q2⟩ := q2
    rw [if_pos rfl]
    refine wpAny_passesOwn hp (wpAny_mono (PySem.wpAny_toks_of t2 (hb pins s2 σ1 H2 _ t2 I2 q2)) (fun f s3 hh => ?_) fun _ _ z => z.2)
    obtain ⟨t3, q3⟩ := hh
    have on : (∃ σ' H', Inv X pins σ' H' s3 ∧ N σ' H') → ∃ m, m < n ∧ 1 ≤ s3.toks ∧ ∃ σ' H', Inv X pins σ' H' s3 ∧ W m σ' H' := fun ⟨σ3, H3, I3, n3⟩ => by
      obtain ⟨m, hm, w3⟩ := again σ3 H3 n3
      exact ⟨m, hm, t3, σ3, H3, I3, w3⟩
    cases f with
    | next => exact on q3
    | cont => exact on q3
    | brk => exact q3
    | ret v => exact q3
/-- the next letter of a text: its token is new -/
theorem next_letter {prog : Program} {w : World} {A : Around} {E : Value → Shared → Prop} {s : Shared} {it : Addr} {xs : Str} {t : Tok} {i c : Nat} {ty : String} {Q : Option Value → Shared → Prop} (hty : ty = "str_ascii_iterator" ∨ ty = "str_iterator") (hit : s.heap.IsStrIter it ty xs t i) (hx : xs.cps[i]? = some c)
    (hQ : ∀ h', h'.IsStrIter it ty xs t (i + 1) → Heap.SameBut it s.heap h' → Q (some (.str ⟨#[c]⟩ s.toks)) { s with heap := h', toks := s.toks + 1 }) : wpAny (model prog w) A (pyNext (.ref it)) Q E s := by
  rcases hty with e | e
  · subst e
    exact PySem.wpAny_pyNext_ascii_item hit hx hQ
  · subst e
    exact PySem.wpAny_pyNext_wide_item hit hx hQ
/-- the walk over a text, its iterator laid -/
theorem letters_go {p0 : PySem.Pos} {body : List Stmt} {tb : TS} {pins : List (Addr × Obj)} {s : Shared} {σ : St} {H : Hp} {D : Ends} {xs : Str} {t : Tok} {ty : String} {it : Addr} (hp : PassesOwn (model X.prog X.w) X.A X.env X.xe) (hc : X.calm = true) (hN : X.N.Nodup) (hx : X.N[ix]? = some x) (kx : X.env.kindOf x = some .local)
    (hb : PSsR X ix x body tb) (hty : ty = "str_ascii_iterator" ∨ ty = "str_iterator") (I : Inv X pins σ H s) (h0 : 1 ≤ s.toks) (fr : FpOk X pins H it) (st : s.heap.IsStrIter it ty xs t 0)
    (h : ∃ W : Nat → Nat → St → Hp → Prop, (∃ m, W 0 m σ H) ∧ ∀ i m σ H, W i m σ H → ((Its xs).stop i H ∧ D.nx σ H) ∨ ((Its xs).go i H ∧ ∃ N : St → Hp → Prop, (∀ σ' H', N σ' H' → ∃ m', m' < m ∧ W (i + 1) m' σ' H') ∧ ∀ v H', (Its xs).yld i H v H' → gName ix v σ H' fun σ2 H2 => tb { D with nx := N, ct := N, bk := D.nx } σ2 H2)) :
    codeAny (model X.prog X.w) X.A (.forLoop (.Name x p0) (.ref it) body [] X.env) (fun r s' => match r with | .ok f => SP X pins D f s' | .error e => cameBackBy (model X.prog X.w) X.A X.env X.xe e s') s := by
  obtain ⟨W, ⟨m0, w0⟩, turn⟩ := h
  have T := turn_str (P := X.prog) (w := X.w) (K := X.K) (tg := .Name x p0) it xs t ty hty
  have only : ∀ {H' : Hp}, H' it = none → ∀ b ∈ [it], FpOk X pins H' b := fun {H'} hn b hb => by
    obtain rfl : b = it := by simpa using hb
    exact ⟨hn, fr.2⟩
  have hno : ["enumerate", "zip", "dict_itemiterator", "dict_reverseitemiterator", "odict_iterator", "itertools.zip_longest", "itertools.pairwise"].contains ty = false := by rcases hty with e | e <;> (subst e; decide)
  refine codeAny_forLoop_any (fun n s' => 1 ≤ s'.toks ∧ ∃ i σ' H', Inv X pins σ' H' s' ∧ s'.heap.IsStrIter it ty xs t i ∧ H' it = none ∧ W i n σ' H') ?_ m0 ⟨h0, 0, σ, H, I, st, fr.1, w0⟩
  rintro n s3 ⟨t3, i, σ3, H3, I3, st3, fr3, w3⟩
  rcases turn i n σ3 H3 w3 with ⟨stop, qn⟩ | ⟨go, N, again, step⟩
  · refine wpAny_passesOwn hp (thn (T.done X rfl rfl rfl hc i pins s3 σ3 H3 X.xe I3 (only fr3) st3 stop) fun r s4 hr => ?_)
    obtain ⟨rfl, I4⟩ := hr
    exact wpAny_execs_nil ⟨σ3, H3, I4, qn⟩
  · have hcx : xs.cps[i]? = some xs.cps[i] := Array.getElem?_eq_getElem go
    refine wpAny_passesOwn hp (next_letter hty st3 hcx fun h' st4 sb => ?_)
    obtain ⟨f0, f1, f2, f3, f4, f5⟩ := only fr3 it (by simp)
    have I4 : Inv X pins σ3 H3 { s3 with heap := h', toks := s3.toks + 1 } := I3.turned (fun b o hb e => (sb.2 b hb).trans e) f0 f1 f3 f4 f5
    obtain ⟨o4, e4, c4, d4⟩ := id st4
    refine wpAny_passesOwn hp (go_of (s := { s3 with heap := h', toks := s3.toks + 1 }) e4 c4 d4 hno ?_)
    have I5 := I4.pinned (only fr3) (T.obj _ _ st4)
    have q := step (.str ⟨#[xs.cps[i]]⟩) H3 ⟨rfl, _, hcx, rfl⟩
    refine wpAny_passesOwn hp (wpAny_assign_Name (store_new (c := xs.cps[i]) I5 hN hx kx (Nat.ne_of_gt t3) (Nat.lt_succ_self _) fun s6 I6 R6 => ?_))
    have hσ6 : (σ3.set ix (some (.str (tx [xs.cps[i]]))))[ix]? = some (some (.str (tx [xs.cps[i]]))) := List.getElem?_set_self (by rw [I3.len]; exact (List.getElem?_eq_some_iff.mp hx).1)
    have t6 : 1 ≤ s6.toks := by
      obtain ⟨_, _, _, _, z⟩ := R6
      exact Nat.lt_of_le_of_lt (Nat.zero_le _) z
    refine wpAny_passesOwn hp (wpAny_mono (PySem.wpAny_toks_of t6 (hb _ s6 _ H3 _ _ _ I6 hσ6 R6 q)) (fun f s7 hh => ?_) fun _ _ z => z.2)
    obtain ⟨t7, q7⟩ := hh
    have on : (∃ σ' H', Inv X (pins ++ pinsAt [it] h') σ' H' s7 ∧ N σ' H') → ∃ m, m < n ∧ 1 ≤ s7.toks ∧ ∃ i σ' H', Inv X pins σ' H' s7 ∧ s7.heap.IsStrIter it ty xs t i ∧ H' it = none ∧ W i m σ' H' := fun ⟨σ7, H7, I7, n7⟩ => by
      obtain ⟨m, hm, w7⟩ := again σ7 H7 n7
      have hpin := fun b hb o (e : Heap.get? h' b = some o) => I7.pin (b, o) (List.mem_append_right _ (List.mem_append_right _ (mem_pinsAt (fp := [it]) hb e)))
      exact ⟨m, hm, t7, i + 1, σ7, H7, I7.unpinned, T.keep _ _ _ st4 fun b hb o e => (hpin b hb o e).1, (hpin it (by simp) o4 e4).2.1, w7⟩
    cases f with
    | next => exact on q7
    | cont => exact on q7
    | brk =>
      obtain ⟨σ7, H7, I7, q7⟩ := q7
      exact ⟨σ7, H7, I7.unpinned, q7⟩
    | ret v =>
      obtain ⟨x7, σ7, H7, I7, r7, q7⟩ := q7
      exact ⟨x7, σ7, H7, I7.unpinned, r7, q7⟩
/-- for x in text: .., the letter's token carried -/
theorem pst_letters {p0 pos : PySem.Pos} {iter : Expr} {te : TE} {body : List Stmt} {tb : TS} (hp : PassesOwn (model X.prog X.w) X.A X.env X.xe) (hc : X.calm = true) (hN : X.N.Nodup) (hx : X.N[ix]? = some x) (kx : X.env.kindOf x = some .local) (he : PE X iter te) (hb : PSsR X ix x body tb)
    (hs : ∀ v, foldedSetIterable iter X.env v = pure v := by intro _; rfl) : PST X (.For (.Name x p0) iter body [] pos) (tFor (iStr te) (gName ix) tb) := by
  intro pins s σ H D h0 I h
  refine wpAny_For (wpAny_mono (PySem.wpAny_toks_of h0 (he.run pins s σ H _ I h)) (fun v s1 hh => ?_) fun _ _ z => z.2) hs
  obtain ⟨t1, y, H1, I1, r1, xs, rfl, q⟩ := hh
  obtain ⟨t, rfl⟩ := r1
  have hf : H1 s1.heap.objs.size = none := I1.hok.fresh (Nat.le_refl _)
  cases ha : xs.cps.all (· < 128)
  · refine wpAny_pyIter_wide ha ?_
    exact letters_go (ty := "str_iterator") hp hc hN hx kx hb (.inr rfl) (I1.kept fun b o e => Heap.get?_push_of_some _ e) t1 (I1.fpOk (Nat.le_refl _) hf) ⟨_, Heap.get?_push_size _ rfl, rfl, rfl⟩ q
  · refine wpAny_pyIter_ascii ha ?_
    exact letters_go (ty := "str_ascii_iterator") hp hc hN hx kx hb (.inl rfl) (I1.kept fun b o e => Heap.get?_push_of_some _ e) t1 (I1.fpOk (Nat.le_refl _) hf) ⟨_, Heap.get?_push_size _ rfl, rfl, rfl⟩ q
end
end Cw
set_option Elab.async false
set_option linter.all false
set_option maxRecDepth 100000
set_option maxHeartbeats 4000000
namespace Cw
open PySem PySem.Spec L2
local macro_rules | `(tactic| walk_at "side") => `(tactic| first | omega | assumption | (dsimp only; omega) | (unfold CMul; omega) | exact ⟨by decide, by decide, by decide⟩ | exact wdiv (by first | assumption | decide | omega) (by first | assumption | decide | omega) | (simp only [List.length_cons, List.length_nil]; omega) | rfl)
local macro_rules | `(tactic| walk_at "hl") => `(tactic| first | assumption | exact upd_same | ((refine Cw.Same.at (by assumption) ?_); walk_at "hl") | ((refine Cw.Keep.at (by assumption) ?_ (by assumption)); walk_at "hl"))
local macro_rules | `(tactic| walk_at "st") => `(tactic| first
  | (with_reducible refine s_seq ?_) | (with_reducible refine g_nm ?_) | (with_reducible refine s_next ?_) | (with_reducible refine s_set ?_) | (with_reducible refine s_drop ?_) | (with_reducible refine s_ret ?_) | (with_reducible refine s_if ?_)
  | ((with_reducible refine e_varG ?_); refine ⟨_, (by with_unfolding_all rfl), ?_⟩) | (with_reducible refine e_c ?_) | (with_reducible refine e_op ?_) | (with_reducible refine e_un ?_)
  | (with_reducible refine e_cons ?_) | (with_reducible refine e_nil ?_) | (with_reducible refine e_cb ?_) | (with_reducible refine e_call ?_) | (with_reducible refine e_md ?_)
  | (with_reducible refine t_test ?_) | (with_reducible refine t_B ?_) | (with_reducible refine t_and ?_) | (with_reducible refine t_or ?_) | (with_reducible refine t_not ?_)
  | (with_reducible refine e_andV ?_) | (with_reducible refine e_orV ?_) | (with_reducible refine e_notV ?_) | (with_reducible refine e_if ?_)
  | (with_reducible refine v_I0 ?_) | ((with_reducible refine v_I ?c ?_); try (case c => walk_at "side")) | (with_reducible refine v_bl ?_)
  | ((with_reducible refine v_eq ?c ?_); (case c => with_unfolding_all rfl)) | ((with_reducible refine v_ne ?c ?_); (case c => with_unfolding_all rfl))
  | (with_reducible refine v_inti ?_) | (with_reducible refine v_intb ?_) | ((with_reducible refine v_lenG ?_); refine ⟨_, (by walk_at "hl"), ?_⟩)
  | ((with_reducible refine v_lenS ?c ?_); try (case c => walk_at "side"))
  | (with_reducible refine e_dnew ?_) | (with_reducible refine e_dget ?_) | (with_reducible refine s_dput ?_) | (with_reducible refine e_lst ?_) | (with_reducible refine e_tup ?_)
  | ((with_reducible refine v_lst ?c ?_); (case c => walk_at "side")) | ((with_reducible refine v_tup ?c ?_); (case c => walk_at "side"))
  | ((with_reducible refine v_dgetG ?_); refine ⟨_, (by assumption), ?_⟩)
  | (with_reducible refine e_sl ?_) | (with_reducible refine e_nopart ?_) | (with_reducible refine e_part ?_) | (with_reducible refine e_m1 ?_) | (with_reducible refine v_isS ?_) | (with_reducible refine v_int ?_)
  | (with_reducible refine e_lc ?_) | (with_reducible refine e_iStr ?_) | (with_reducible refine e_iEnumS ?_) | (with_reducible refine v_iEnumS ?_) | (with_reducible refine v_str ?_) | (with_reducible refine e_yes ?_) | (with_reducible refine e_fld ?_) | (with_reducible refine e_sfld ?_)
  | ((with_reducible refine v_addS ?c ?_); try (case c => walk_at "side")) | (with_reducible refine v_inS ?_) | (with_reducible refine v_notInS ?_) | (with_reducible refine v_ltS ?_)
  | ((with_reducible refine v_inLG ?_); refine ⟨_, (by walk_at "hl"), ?_⟩) | (with_reducible refine v_isiS ?_) | (with_reducible refine e_revS ?_) | ((with_reducible refine v_revS ?c ?_); try (case c => walk_at "side"))
  | ((with_reducible refine v_lenSetG ?_); refine ⟨_, (by walk_at "hl"), ?_⟩)
  | (with_reducible refine e_bm ?_) | (with_reducible refine e_bm0 ?_) | ((with_reducible refine v_tyLG ?_); refine ⟨_, (by walk_at "hl"), ?_⟩)
  | (with_reducible refine iteNT ?_) | (with_reducible refine iteNF ?_) | (with_reducible refine e_for ?_)
  | (with_reducible refine e_iL ?_) | (with_reducible refine e_iT ?_) | ((with_reducible refine v_iLG ?_); refine ⟨_, (by walk_at "hl"), ?_⟩) | (with_reducible refine e_iR1 ?_) | ((with_reducible refine v_iR1 ?c1 ?c2 ?_); try (case c1 => walk_at "side"); try (case c2 => walk_at "side"))
  | (with_reducible refine e_iR2 ?_) | ((with_reducible refine v_iR2 ?c1 ?_); try (case c1 => walk_at "side"))
  | (with_reducible refine e_pr0 ?_) | (with_reducible refine e_pr ?_) | (with_reducible refine e_disp ?_) | (with_reducible refine s_asgT ?_) | (with_reducible refine e_tryA ?_) | (with_reducible refine e_callS ?_) | (with_reducible refine e_mdS ?_) | (with_reducible refine e_par ?_) | (with_reducible refine v_par ?_) | (with_reducible refine e_par3 ?_) | (with_reducible refine v_par3 ?_) | (with_reducible refine e_iK ?_) | (with_reducible refine e_dnotin ?_)
  | (with_reducible refine iteT ?_) | (with_reducible refine iteF ?_))
local macro_rules | `(tactic| walk_at "go") => `(tactic| repeat walk_at "st")
/-- a def that cuts the first such letter out of a text -/
structure CutDef (P : Program) (w : World) (K : PySem.W.Frag) (mg : Str → Option Value) (base : Heap) (k : Nat) : Prop where
  ex : ∃ f, mg "without_first" = some (.ref f) ∧ PySem.W.keepIn K (.ref f) = true ∧ CutRun P w K mg base CX0 k f
theorem CutRun.mono {P : Program} {w : World} {K : PySem.W.Frag} {mg : Str → Option Value} {base : Heap} {CX : CXT} {j k : Nat} {f : Addr} (R : CutRun P w K mg base CX j f) (h : j ≤ k) : CutRun P w K mg base CX k f := fun A outer s H p q c t u Q E hr => R A outer s H p q c t u Q E (hr.mono h)
theorem CutDef.mono {P : Program} {w : World} {K : PySem.W.Frag} {mg : Str → Option Value} {base : Heap} {j k : Nat} (R : CutDef P w K mg base j) (h : j ≤ k) : CutDef P w K mg base k := by
  obtain ⟨f, a, b, c⟩ := R.ex
  exact ⟨f, a, b, c.mono h⟩
def spInBoth : Sp := fun vs H Q _ => ∃ a b : List Nat, vs = [.str (tx a), .str (tx b)] ∧ a.length ≤ 1000 ∧ b.length ≤ 1000 ∧ ∀ H', Same H H' → Q (.str (tx (a.filter fun c => decide (c ∈ b)))) H'
def spShared (C : Addr) : Sp := fun vs H Q _ => ∃ (x : Addr) (ls : List Nat) (f : Nat → List Nat) (u v : List Nat), vs = [.ref x, .str (tx u), .str (tx v)] ∧ PlanAt C H x (ascOf ls) (tabPairs ls f) ∧ Fl ls f ∧ Red f u ∧ Red f v ∧ (∀ y ∈ u, y ∈ ls) ∧ (∀ y ∈ v, y ∈ ls) ∧ u.length ≤ 10000 ∧ v.length ≤ 10000 ∧
  ∀ fd u' v' H', Same H H' → Share f ls u v fd u' v' → (∀ t ∈ ls, ¬ (desc f t u' ∧ desc f t v')) → Q (.str (tx fd)) H'
section
variable {P : Program} {w : World} {K : PySem.W.Frag} {mg : Str → Option Value} {base : Heap} {C R O : Addr}
abbrev stwithout_first : Stmt := (top 18)
abbrev Nwithout_first : List Str := ["way", "kind"]
theorem scwithout_first : FnScope Nwithout_first ["way", "kind"] (defScope stwithout_first) := ⟨rfl, rfl, rfl, by decide +kernel, rfl, by decide +kernel, by decide +kernel⟩

theorem ok_without_first (F : FnAt K mg "without_first" stwithout_first) : CutDef P w K mg base 1 := by
  obtain ⟨f, fd, hm, F⟩ := F.ex
  exact ⟨f, hm, F.kp, cut_run F scwithout_first rfl rfl (fun _ _ _ _ _ _ us hl => match us, hl with | [_, _], _ => rfl) rfl rfl rfl rfl rfl⟩
abbrev stin_both : Stmt := (top 20)
abbrev Nin_both : List Str := ["kinds", "others", "kind"]
theorem scin_both : FnScope Nin_both ["kinds", "others"] (defScope stin_both) := ⟨rfl, rfl, rfl, by decide +kernel, rfl, by decide +kernel, by decide +kernel⟩

theorem ok_in_both (F : FnAt K mg "in_both" stin_both) : Def P w K mg base CX0 1 "in_both" ["kinds", "others"] spInBoth := by
  refine F.ok scin_both (fun _ _ _ _ _ _ us hl => match us, hl with | [_, _], _ => rfl) (fun vs H Q E h => ?_) (fun f cdv A outer s H vs Q E hr h => ?_)
  · obtain ⟨a, b, rfl, _⟩ := h
    rfl
  obtain ⟨a, b, rfl, la, lb, q⟩ := h
  have hu := hu_of hr
  have nd := scin_both.nd
  refine ⟨_, (pss_one (ps_ret (pe_joinK (K := K) rfl (pe_tx [] (by decide +kernel)) (pe_lc (own := [("kind", 2)]) (g := gName 2) (by rfl) nd (pi_str (pv 0)) (blkOk_by (own := [("kind", 2)]) (N := Nin_both) (sc := defScope stin_both) (by decide +kernel)) (fun _ _ _ _ _ => (pg_name (i := 2) nd rfl (Or.inl rfl))) (fun _ _ _ _ _ => (pts_one (pt_cmpR op_inS (pv 2) (pv 1) (by rfl)))) (fun _ _ _ _ _ => (pv 2)))))), ?_⟩
  refine s_start [some _, some _, none] rfl ?_
  walk_at "go"
  refine v_lcS (l := a) (b := fun c => decide (c ∈ b)) (f := fun c => V.str (tx [c])) (by omega) (fun c _ H1 s1 R r => ?_) (fun c _ _ H1 s1 R r => ?_) (fun D H1 hD s1 e1 => ?_)
  · walk_at "go"
    exact r H1 (Same.refl _)
  · walk_at "go"
    exact r H1 (Same.refl _)
  walk_at "go"
  rw [strs_ones] at e1
  have hl2 := filt_len (p := fun c => decide (c ∈ b)) (l := a)
  refine v_join e1 (by rw [flat_ones]; omega) ?_
  rw [flat_ones]
  exact q H1 s1
abbrev stshared_begin : Stmt := (top 19)
abbrev Nshared_begin : List Str := ["plan", "way", "other", "found", "both", "kind"]
theorem scshared_begin : FnScope Nshared_begin ["plan", "way", "other"] (defScope stshared_begin) := ⟨rfl, rfl, rfl, by decide +kernel, rfl, by decide +kernel, by decide +kernel⟩

theorem ok_shared_begin (F : FnAt K mg "shared_begin" stshared_begin) (D_without_first : CutDef P w K mg base 2) (D_in_both : Def P w K mg base CX0 1 "in_both" ["kinds", "others"] spInBoth) (D_first_kinds : Def P w K mg base CX0 2 "first_kinds" ["plan", "way"] (spFirst C)) : Def P w K mg base CX0 3 "shared_begin" ["plan", "way", "other"] (spShared C) := by
  refine F.ok scshared_begin (fun _ _ _ _ _ _ us hl => match us, hl with | [_, _, _], _ => rfl) (fun vs H Q E h => ?_) (fun f cdv A outer s H vs Q E hr h => ?_)
  · obtain ⟨x, ls, f, u, v, rfl, _⟩ := h
    rfl
  obtain ⟨x, ls, fn, u, v, rfl, hp, fl, ru, rv, mu, mv, lu, lv, q⟩ := h
  have hu := hu_of hr
  have nd := scshared_begin.nd
  have ok := fl.ok
  replace D_in_both := D_in_both.mono (show 1 ≤ 2 by decide)
  obtain ⟨fc, hm, hk, R⟩ := D_without_first.ex
  refine ⟨_, pss_str (i := 3) nd rfl (Or.inl rfl) (psst_cons (PST.of (ps_set (i := 4) nd rfl (Or.inl rfl) (pe_cd D_in_both hr pass0 (pa_cons (pe_cd D_first_kinds hr pass0 (pa_cons (pv 0) (pa_cons (pv 1) pa_nil))) (pa_cons (pe_cd D_first_kinds hr pass0 (pa_cons (pv 0) (pa_cons (pv 2) pa_nil))) pa_nil)))))
    (psst_cons (pst_while PassesOwn.never (pt_cmpR op_ne (pv 4) (pe_tx [] (by decide +kernel)) (nomark _))
      (psst_cons (pst_letters (ix := 5) PassesOwn.never rfl nd rfl rfl (pv 4)
          (psr_cat (ix := 5) (i := 3) (j := 3) nd rfl rfl rfl rfl rfl (Or.inl rfl) (by decide)
            (psr_cut (ix := 5) (i := 1) (j := 1) (E := E0) R hr pass0 rfl hm hk nd rfl rfl rfl rfl rfl (Or.inl rfl) (by decide)
              (psr_cut (ix := 5) (i := 2) (j := 2) (E := E0) R hr pass0 rfl hm hk nd rfl rfl rfl rfl rfl (Or.inl rfl) (by decide)
                (PSsR.of pss_nil)))))
        (PSsT.of (pss_one (ps_set (i := 4) nd rfl (Or.inl rfl) (pe_cd D_in_both hr pass0 (pa_cons (pe_cd D_first_kinds hr pass0 (pa_cons (pv 0) (pa_cons (pv 1) pa_nil))) (pa_cons (pe_cd D_first_kinds hr pass0 (pa_cons (pv 0) (pa_cons (pv 2) pa_nil))) pa_nil))))))))
    (PSsT.of (pss_one (ps_ret (pv 3)))))), ?_⟩
  refine s_start [some _, some _, some _, none, none, none] rfl ?_
  walk_at "go"
  rw [show Str.ofString "" = tx [] from rfl]
  have tl := fl.tab.len
  have la : (ascOf ls).length ≤ 1000 := by
    have h2 : (ascOf ls).length = ls.length := by rw [asc_self fl]
    omega
  refine ⟨x, _, _, u, rfl, hp, inAsc fl.tab mu, la, by omega, fun H1 s1 => ?_⟩
  walk_at "go"
  refine ⟨x, _, _, v, rfl, hp.same s1, inAsc fl.tab mv, la, by omega, fun H2 s2 => ?_⟩
  refine ⟨_, _, rfl, firsts_len fl u, firsts_len fl v, fun H3 s3 => ?_⟩
  walk_at "go"
  have s03 := (s1.trans s2).trans s3
  clear s1 s2 s3
  refine s_while (fun n σ H' => ∃ fd u' v' z, n = u'.length ∧ σ = [some (.ref x), some (.str (tx u')), some (.str (tx v')), some (.str (tx fd)), some (.str (tx (bothOf ls fn u' v'))), z] ∧ Same H H' ∧ Share fn ls u v fd u' v') u.length ⟨[], u, v, _, rfl, rfl, s03, Share.start ru rv mu mv⟩ ?_
  rintro n σ H4 ⟨fd, u', v', z, rfl, rfl, s4, sh⟩
  have lu' := sh.lu
  have lv' := sh.lv
  walk_at "go"
  rw [dec_tx]
  refine if_ndec (fun c => ?_) (fun c => ?_)
  · refine v_turn ?_
    walk_at "go"
    have bn := both_nodup fl u' v'
    have bi := fun k => both_iff (k := k) fl sh.mu sh.mv
    have bp : 0 < (bothOf ls fn u' v').length := by
      cases e : bothOf ls fn u' v' with
      | nil => exact absurd e c
      | cons => simp
    generalize bothOf ls fn u' v' = B at bn bi bp
    refine for_it (walk_tx B) (fun i σ H' => ∃ fd2 u2 v2 z, σ = [some (.ref x), some (.str (tx u2)), some (.str (tx v2)), some (.str (tx fd2)), some (.str (tx B)), z] ∧ H' = H4 ∧ Share fn ls u v fd2 u2 v2 ∧ u2.length + i = u'.length ∧ ∀ t ∈ B.drop i, desc fn t u2 ∧ desc fn t v2) ⟨fd, u', v', _, rfl, rfl, sh, rfl, fun t ht => ((bi t).mp ht).2⟩ (fun _ _ _ _ _ => trivial) ?_ ?_
    · rintro i vv σ H5 H6 hi ⟨fd2, u2, v2, z2, rfl, rfl, sh2, l2, h2⟩ ⟨rfl, rfl⟩
      have dr : B.drop i = B.getD i 0 :: B.drop (i + 1) := by
        rw [List.drop_eq_getElem_cons hi, List.getD_eq_getElem?_getD, List.getElem?_eq_getElem hi]
        rfl
      have hc : B.getD i 0 ∈ ls := ((bi _).mp (getD_mem hi)).1
      rw [dr] at h2
      have bn2 : (B.getD i 0 :: B.drop (i + 1)).Nodup := by
        rw [← dr]
        exact bn.sublist (List.drop_sublist _ _)
      generalize B.getD i 0 = c at hc h2 bn2
      obtain ⟨d1, d2⟩ := h2 c (List.mem_cons_self ..)
      obtain ⟨p1, q1, e1, hp1, r1⟩ := erase_desc ok d1
      obtain ⟨p2, q2, e2, hp2, r2⟩ := erase_desc ok d2
      have sh3 := sh2.step ok hc d1 d2
      have l3 := erase_len d1
      have lu2 := sh2.lu
      have lv2 := sh2.lv
      have la1 : fd2.length + [c].length ≤ 1000000 := by rw [List.length_singleton]; omega
      have np1 : ¬ c ∈ p1 := fun z => ok.irr c (hp1 c z)
      have np2 : ¬ c ∈ p2 := fun z => ok.irr c (hp2 c z)
      walk_at "go"
      refine ⟨p1, q1, c, by rw [e1]; rfl, rfl, np1, by rw [← e1]; omega, ?_⟩
      walk_at "go"
      refine ⟨p2, q2, c, by rw [e2]; rfl, rfl, np2, by rw [← e2]; omega, ?_⟩
      walk_at "go"
      refine ⟨fd2 ++ [c], u2.erase c, v2.erase c, some (V.str (tx [c])), ?_, rfl, sh3, by omega, fun t ht => ?_⟩
      · rw [r1, r2]
        rfl
      · have ne : c ≠ t := fun z => (List.nodup_cons.mp bn2).1 (z ▸ ht)
        obtain ⟨k1, k2⟩ := h2 t (List.mem_cons_of_mem _ ht)
        exact ⟨erase_keep ok d1 ne k1, erase_keep ok d2 ne k2⟩
    rintro σ H5 ⟨fd2, u2, v2, z2, rfl, rfl, sh2, l2, _⟩
    have lu2 := sh2.lu
    have lv2 := sh2.lv
    walk_at "go"
    refine ⟨x, _, _, u2, rfl, hp.same s4, inAsc fl.tab sh2.mu, la, by omega, fun H6 s6 => ?_⟩
    walk_at "go"
    refine ⟨x, _, _, v2, rfl, (hp.same s4).same s6, inAsc fl.tab sh2.mv, la, by omega, fun H7 s7 => ?_⟩
    refine ⟨_, _, rfl, firsts_len fl u2, firsts_len fl v2, fun H8 s8 => ?_⟩
    exact ⟨u2.length, by omega, fd2, u2, v2, z2, rfl, rfl, ((s4.trans s6).trans s7).trans s8, sh2⟩
  · walk_at "go"
    refine q fd u' v' H4 s4 sh fun t ht d => ?_
    have := (both_iff (k := t) fl sh.mu sh.mv).mpr ⟨ht, d⟩
    rw [c] at this
    cases this
end
end Cw
set_option Elab.async false
set_option linter.all false
set_option maxRecDepth 100000
set_option maxHeartbeats 4000000
/-! the middle lies between -/
namespace Cw
section
variable {f : Nat → List Nat} {ls : List Nat} {s : Nat}
def Btw (f : Nat → List Nat) (a b M : List Nat) : Prop := (wayC f a M).length + (wayC f M b).length = (wayC f a b).length
theorem share_btw (ok : CrOk f) {a b fd u' : List Nat} (h : ∀ g, act f (wayC f a b) g = act f (fd ++ u') g) (l : fd.length + u'.length = (wayC f a b).length) : Btw f a b (nameOf f (a ++ fd)) := by
  have e1 : wayC f a (nameOf f (a ++ fd)) = nameOf f fd := name_eq ok fun g => by rw [act_app, name_act ok, act_app, act_rev ok]
  have e2 : wayC f (nameOf f (a ++ fd)) b = nameOf f u' := name_eq ok fun g => by
    have e := h g
    unfold wayC at e
    rw [name_act ok, act_app, act_app] at e
    rw [act_app, act_of_name ok, List.reverse_append, act_app, e, act_rev ok]
  have t := way_tri ok a b (nameOf f (a ++ fd))
  have l1 : (nameOf f fd).length ≤ fd.length := name_len f fd
  have l2 : (nameOf f u').length ≤ u'.length := name_len f u'
  unfold Btw
  rw [e1, e2] at t ⊢
  omega
/-- the middle, between the first room and the others -/
structure MidX (f : Nat → List Nat) (ls a b c M : List Nat) : Prop extends Mid f ls a b c M where
  ab : Btw f a b M
  ac : Btw f a c M
theorem midx_of (hn : ls.Nodup) (ok : CrOk f) {a b c fd u' v' : List Nat} (ma : ∀ y ∈ a, y ∈ ls) (mb : ∀ y ∈ b, y ∈ ls) (mc : ∀ y ∈ c, y ∈ ls) (h : Share f ls (wayC f a b) (wayC f a c) fd u' v') (hd : ∀ t ∈ ls, ¬ (desc f t u' ∧ desc f t v')) : MidX f ls a b c (nameOf f (a ++ fd)) :=
  ⟨mid_of hn ok ma mb mc h hd, share_btw ok h.au h.lu, share_btw ok h.av h.lv⟩
/-- two rooms that are one -/
theorem mid_two (ok : CrOk f) {a b c x M : List Nat} (md : Mid f ls a b c M) (nx : NF f x) (mx : ∀ y ∈ x, y ∈ ls) (h : (a = x ∧ b = x) ∨ (a = x ∧ c = x) ∨ (b = x ∧ c = x)) : M = x := by
  refine room_uniq (ls := ls) ok md.nf nx md.mem mx fun s hs z => ng_back (ls := ls) ok M s ?_
  refine (md.by' _ (fun y hy => md.mem y (List.mem_reverse.mp hy)) s hs).mpr ?_
  rcases h with ⟨rfl, rfl⟩ | ⟨rfl, rfl⟩ | ⟨rfl, rfl⟩
  · exact .inl ⟨z, z⟩
  · exact .inr (.inl ⟨z, z⟩)
  · exact .inr (.inr ⟨z, z⟩)
end
end Cw
set_option Elab.async false
set_option linter.all false
set_option maxRecDepth 100000
set_option maxHeartbeats 4000000
namespace Cw
open PySem PySem.Spec L2
local macro_rules | `(tactic| walk_at "side") => `(tactic| first | omega | assumption | (dsimp only; omega) | (unfold CMul; omega) | exact ⟨by decide, by decide, by decide⟩ | exact wdiv (by first | assumption | decide | omega) (by first | assumption | decide | omega) | (simp only [List.length_cons, List.length_nil]; omega) | rfl)
local macro_rules | `(tactic| walk_at "hl") => `(tactic| first | assumption | exact upd_same | ((refine Cw.Same.at (by assumption) ?_); walk_at "hl") | ((refine Cw.Keep.at (by assumption) ?_ (by assumption)); walk_at "hl"))
local macro_rules | `(tactic| walk_at "st") => `(tactic| first
  | (with_reducible refine s_seq ?_) | (with_reducible refine g_nm ?_) | (with_reducible refine s_next ?_) | (with_reducible refine s_set ?_) | (with_reducible refine s_drop ?_) | (with_reducible refine s_ret ?_) | (with_reducible refine s_if ?_)
  | ((with_reducible refine e_varG ?_); refine ⟨_, (by with_unfolding_all rfl), ?_⟩) | (with_reducible refine e_c ?_) | (with_reducible refine e_op ?_) | (with_reducible refine e_un ?_)
  | (with_reducible refine e_cons ?_) | (with_reducible refine e_nil ?_) | (with_reducible refine e_cb ?_) | (with_reducible refine e_call ?_) | (with_reducible refine e_md ?_)
  | (with_reducible refine t_test ?_) | (with_reducible refine t_B ?_) | (with_reducible refine t_and ?_) | (with_reducible refine t_or ?_) | (with_reducible refine t_not ?_)
  | (with_reducible refine e_andV ?_) | (with_reducible refine e_orV ?_) | (with_reducible refine e_notV ?_) | (with_reducible refine e_if ?_)
  | (with_reducible refine v_I0 ?_) | ((with_reducible refine v_I ?c ?_); try (case c => walk_at "side")) | (with_reducible refine v_bl ?_)
  | ((with_reducible refine v_eq ?c ?_); (case c => with_unfolding_all rfl)) | ((with_reducible refine v_ne ?c ?_); (case c => with_unfolding_all rfl))
  | (with_reducible refine v_inti ?_) | (with_reducible refine v_intb ?_) | ((with_reducible refine v_lenG ?_); refine ⟨_, (by walk_at "hl"), ?_⟩)
  | ((with_reducible refine v_lenS ?c ?_); try (case c => walk_at "side"))
  | (with_reducible refine e_dnew ?_) | (with_reducible refine e_dget ?_) | (with_reducible refine s_dput ?_) | (with_reducible refine e_lst ?_) | (with_reducible refine e_tup ?_)
  | ((with_reducible refine v_lst ?c ?_); (case c => walk_at "side")) | ((with_reducible refine v_tup ?c ?_); (case c => walk_at "side"))
  | ((with_reducible refine v_dgetG ?_); refine ⟨_, (by assumption), ?_⟩)
  | (with_reducible refine e_sl ?_) | (with_reducible refine e_nopart ?_) | (with_reducible refine e_part ?_) | (with_reducible refine e_m1 ?_) | (with_reducible refine v_isS ?_) | (with_reducible refine v_int ?_)
  | (with_reducible refine e_lc ?_) | (with_reducible refine e_iStr ?_) | (with_reducible refine e_iEnumS ?_) | (with_reducible refine v_iEnumS ?_) | (with_reducible refine v_str ?_) | (with_reducible refine e_yes ?_) | (with_reducible refine e_fld ?_) | (with_reducible refine e_sfld ?_)
  | ((with_reducible refine v_addS ?c ?_); try (case c => walk_at "side")) | (with_reducible refine v_inS ?_) | (with_reducible refine v_notInS ?_) | (with_reducible refine v_ltS ?_)
  | ((with_reducible refine v_inLG ?_); refine ⟨_, (by walk_at "hl"), ?_⟩) | (with_reducible refine v_isiS ?_) | (with_reducible refine e_revS ?_) | ((with_reducible refine v_revS ?c ?_); try (case c => walk_at "side"))
  | ((with_reducible refine v_lenSetG ?_); refine ⟨_, (by walk_at "hl"), ?_⟩)
  | (with_reducible refine e_bm ?_) | (with_reducible refine e_bm0 ?_) | ((with_reducible refine v_tyLG ?_); refine ⟨_, (by walk_at "hl"), ?_⟩)
  | (with_reducible refine iteNT ?_) | (with_reducible refine iteNF ?_) | (with_reducible refine e_for ?_)
  | (with_reducible refine e_iL ?_) | (with_reducible refine e_iT ?_) | ((with_reducible refine v_iLG ?_); refine ⟨_, (by walk_at "hl"), ?_⟩) | (with_reducible refine e_iR1 ?_) | ((with_reducible refine v_iR1 ?c1 ?c2 ?_); try (case c1 => walk_at "side"); try (case c2 => walk_at "side"))
  | (with_reducible refine e_iR2 ?_) | ((with_reducible refine v_iR2 ?c1 ?_); try (case c1 => walk_at "side"))
  | (with_reducible refine e_pr0 ?_) | (with_reducible refine e_pr ?_) | (with_reducible refine e_disp ?_) | (with_reducible refine s_asgT ?_) | (with_reducible refine e_tryA ?_) | (with_reducible refine e_callS ?_) | (with_reducible refine e_mdS ?_) | (with_reducible refine e_par ?_) | (with_reducible refine v_par ?_) | (with_reducible refine e_par3 ?_) | (with_reducible refine v_par3 ?_) | (with_reducible refine e_iK ?_) | (with_reducible refine e_dnotin ?_)
  | (with_reducible refine iteT ?_) | (with_reducible refine iteF ?_))
local macro_rules | `(tactic| walk_at "go") => `(tactic| repeat walk_at "st")
def spMidName (C : Addr) : Sp := fun vs H Q _ => ∃ (x : Addr) (ls : List Nat) (f : Nat → List Nat) (a b c : List Nat), vs = [.ref x, .str (tx a), .str (tx b), .str (tx c)] ∧ PlanAt C H x (ascOf ls) (tabPairs ls f) ∧ Fl ls f ∧ NF f a ∧ NF f b ∧ NF f c ∧ (∀ y ∈ a, y ∈ ls) ∧ (∀ y ∈ b, y ∈ ls) ∧ (∀ y ∈ c, y ∈ ls) ∧ a.length ≤ 2000 ∧ b.length ≤ 2000 ∧ c.length ≤ 2000 ∧
  ∀ M H', Same H H' → MidX f ls a b c M → M.length ≤ 2 * a.length + b.length → Q (.str (tx M)) H'
/-- three rooms, each with whether its plan is the first one's -/
structure Rooms3 (C R : Addr) (H : Hp) (ra xa : Addr) (a : List Nat) (rb xb : Addr) (b : List Nat) (rc xc : Addr) (c : List Nat) (e2 e3 : Bool) : Prop where
  r1 : RoomAt R H ra xa a
  r2 : RoomAt R H rb xb b
  r3 : RoomAt R H rc xc c
  p2 : Plans2 C H xa xb e2
  p3 : Plans2 C H xa xc e3
def spMiddle (C R O : Addr) : Sp := fun vs H Q E => ∃ (ra xa : Addr) (a : List Nat) (rb xb : Addr) (b : List Nat) (rc xc : Addr) (c : List Nat) (e2 e3 : Bool), vs = [.ref ra, .ref rb, .ref rc] ∧ Rooms3 C R H ra xa a rb xb b rc xc c e2 e3 ∧
  (e2 = true → e3 = true → ∃ (ls : List Nat) (f : Nat → List Nat), PlanAt C H xa (ascOf ls) (tabPairs ls f) ∧ Fl ls f ∧ NF f a ∧ NF f b ∧ NF f c ∧ (∀ y ∈ a, y ∈ ls) ∧ (∀ y ∈ b, y ∈ ls) ∧ (∀ y ∈ c, y ∈ ls) ∧ a.length ≤ 600 ∧ b.length ≤ 600 ∧ c.length ≤ 600 ∧
    ∀ M r H', H r = none → Same H H' → MidX f ls a b c M → M.length ≤ 2 * a.length + b.length → RoomAt R H' r xa M → Q (.ref r) H') ∧ ((e2 && e3) = false → E (.ref O) none H)
section
variable {P : Program} {w : World} {K : PySem.W.Frag} {mg : Str → Option Value} {base : Heap} {C R O : Addr} {ls : List Nat} {fn : Nat → List Nat}
theorem way_NF' (fl : Fl ls fn) {m n : List Nat} (hm : NF fn m) (hn : NF fn n) (mm : ∀ y ∈ m, y ∈ ls) (mn : ∀ y ∈ n, y ∈ ls) : wayOf (ascOf ls) (tabPairs ls fn) m n = wayC fn m n := by
  have e1 : joinC fn [] m = m := (is_NF fl.ok).mpr hm
  have e2 : joinC fn [] n = n := (is_NF fl.ok).mpr hn
  have e := way_tab fl mm mn
  rw [e1, e2] at e
  exact e
theorem way_mem {m n : List Nat} (mm : ∀ y ∈ m, y ∈ ls) (mn : ∀ y ∈ n, y ∈ ls) : ∀ y ∈ wayC fn m n, y ∈ ls := fun y hy => by
  rcases List.mem_append.mp (name_mem hy) with z | z
  · exact mm y (List.mem_reverse.mp z)
  · exact mn y z
theorem way_le (f : Nat → List Nat) (m n : List Nat) : (wayC f m n).length ≤ m.length + n.length := by
  have h : (wayC f m n).length ≤ (m.reverse ++ n).length := name_len f _
  rw [List.length_append, List.length_reverse] at h
  exact h
abbrev stmiddle_name : Stmt := (top 33)
abbrev Nmiddle_name : List Str := ["plan", "one", "two", "three"]
theorem scmiddle_name : FnScope Nmiddle_name ["plan", "one", "two", "three"] (defScope stmiddle_name) := ⟨rfl, rfl, rfl, by decide +kernel, rfl, by decide +kernel, by decide +kernel⟩

theorem ok_middle_name (F : FnAt K mg "middle_name" stmiddle_name) (D_joined : Def P w K mg base CX0 2 "joined" ["plan", "name", "way"] (spJoined C)) (D_way_from : Def P w K mg base CX0 4 "way_from" ["plan", "name", "goal"] (spWayFrom C)) (D_shared_begin : Def P w K mg base CX0 3 "shared_begin" ["plan", "way", "other"] (spShared C)) : Def P w K mg base CX0 5 "middle_name" ["plan", "one", "two", "three"] (spMidName C) := by
  refine F.ok scmiddle_name (fun _ _ _ _ _ _ us hl => match us, hl with | [_, _, _, _], _ => rfl) (fun vs H Q E h => ?_) (fun f cdv A outer s H vs Q E hr h => ?_)
  · obtain ⟨x, ls, f, a, b, c, rfl, _⟩ := h
    rfl
  obtain ⟨x, ls, fn, a, b, c, rfl, hp, fl, na, nb, nc, ma, mb, mc, la, lb, lc, q⟩ := h
  have hu := hu_of hr
  have nd := scmiddle_name.nd
  have ok := fl.ok
  replace D_joined := D_joined.mono (show 2 ≤ 4 by decide)
  replace D_shared_begin := D_shared_begin.mono (show 3 ≤ 4 by decide)
  refine ⟨_, (pss_one (ps_ret (pe_cd D_joined hr pass0 (pa_cons (pv 0) (pa_cons (pv 1) (pa_cons (pe_cd D_shared_begin hr pass0 (pa_cons (pv 0) (pa_cons (pe_cd D_way_from hr pass0 (pa_cons (pv 0) (pa_cons (pv 1) (pa_cons (pv 2) pa_nil)))) (pa_cons (pe_cd D_way_from hr pass0 (pa_cons (pv 0) (pa_cons (pv 1) (pa_cons (pv 3) pa_nil)))) pa_nil)))) pa_nil)))))), ?_⟩
  refine s_start [some _, some _, some _, some _] rfl ?_
  have w1 := way_le fn a b
  have w2 := way_le fn a c
  walk_at "go"
  refine ⟨x, _, _, a, b, rfl, hp, inAsc fl.tab ma, inAsc fl.tab mb, by omega, by omega, ?_⟩
  rw [way_NF' fl na nb ma mb]
  walk_at "go"
  refine ⟨x, _, _, a, c, rfl, hp, inAsc fl.tab ma, inAsc fl.tab mc, by omega, by omega, ?_⟩
  rw [way_NF' fl na nc ma mc]
  walk_at "go"
  refine ⟨x, ls, fn, _, _, rfl, hp, fl, (name_NF ok _).red, (name_NF ok _).red, way_mem ma mb, way_mem ma mc, by omega, by omega, fun fd u' v' H1 s1 sh hd => ?_⟩
  have lu := sh.lu
  walk_at "go"
  refine ⟨x, _, _, a, fd, rfl, hp.same s1, inAsc fl.tab sh.mf, by omega, ?_⟩
  have e1 : joinC fn [] a = a := (is_NF ok).mpr na
  have e2 : joinOf (ascOf ls) (tabPairs ls fn) a fd = joinC fn [] (a ++ fd) := by rw [joinOf_tab fl.tab ma sh.mf, joinC_app, e1]
  rw [e2]
  have nl : (joinC fn [] (a ++ fd)).length ≤ (a ++ fd).length := name_len fn _
  have lM : (joinC fn [] (a ++ fd)).length ≤ 2 * a.length + b.length := by
    rw [List.length_append] at nl
    omega
  exact q _ H1 s1 (midx_of fl.tab.nd ok ma mb mc sh hd) lM
end
end Cw
set_option Elab.async false
set_option linter.all false
set_option maxRecDepth 100000
set_option maxHeartbeats 4000000
/-! more words: >, upper, list + list, parts of texts, values that are no texts -/
namespace Cw
open PySem PySem.Spec L2
section
variable {X : Cx}
def rTGt : R2 := fun x y H Q => ∃ a b : List Nat, x = .str (tx a) ∧ y = .str (tx b) ∧ Q (.bl (decide (b < a))) H
theorem op_gtS : OpR X (compareOp .Gt) rTGt := by
  intro pins s σ H x y v u Q I rx ry h
  obtain ⟨a, b, rfl, rfl, q⟩ := h
  obtain ⟨t, rfl⟩ := rx
  obtain ⟨t', rfl⟩ := ry
  exact PySem.P.gt_str (fin_bl I q (by simp))
theorem op_cat1 : OpR X (binaryOp .Add) rCat := op_cat
/-- text.upper() of plain letters -/
def rUp : V → List V → Hp → VK → Prop := fun x xs H Q => ∃ l : List Nat, x = .str (tx l) ∧ xs = [] ∧ l.length ≤ 1000000 ∧ (∀ c ∈ l, c < 128) ∧ Q (.str (tx (l.map PyProof.Rows.up1))) H
theorem mt_up : MtR X "str.upper" rUp := by
  intro pins s σ H x vs v us Q I rx rv h
  obtain ⟨l, rfl, rfl, hl, h2, q⟩ := h
  refine mt_upper pins s σ H _ _ v us Q I rx rv ⟨tx l, rfl, rfl, by rw [tx_len]; omega, ?_⟩
  rw [show Txt.upper (tx l) = tx (l.map PyProof.Rows.up1) from SX.upper_S (by rw [List.all_eq_true]; intro c hc; exact decide_eq_true (h2 c hc))]
  exact q
theorem pe_up {o : Expr} {te : TE} {apos pos : PySem.Pos} (ho : PE X o te) (hbase : attributeBase o "upper" X.env (eval o X.env) = eval o X.env := by rfl) (hline : (apos.endLine == pos.line) = true := by rfl) : PE X (.Call (.Attribute o "upper" apos) [] [] pos) (tM0 rUp te) := pe_m0 F.slot_str_upper F.type_str_upper mt_up ho hbase hline
end
section
variable {σ : St} {H : Hp} {Q : VK} {K : PySem.W.Frag}
theorem v_gtS {a b : List Nat} (q : Q (.bl (decide (b < a))) H) : rTGt (.str (tx a)) (.str (tx b)) H Q := ⟨a, b, rfl, rfl, q⟩
theorem v_cat {l b : Addr} {xs zs : List V} (h1 : H l = some (.lst xs)) (h2 : H b = some (.lst zs)) (hl : xs.length + zs.length ≤ 1000000) (q : ∀ p H', H p = none → Same H H' → H' p = some (.lst (xs ++ zs)) → Q (.ref p) H') : rCat (.ref l) (.ref b) H Q :=
  ⟨l, b, xs, zs, rfl, rfl, h1, h2, szl hl, fun p hp => q p _ hp (Same.new hp) upd_same⟩
theorem cut_mid (l : List Nat) {i j : Int} (hi : 0 ≤ i) (hj : 0 ≤ j) : cutS (tx l) (some i) (some j) = tx ((l.take j.toNat).drop i.toNat) := by
  unfold cutS
  rw [tx_len]
  show (⟨((l.toArray.toList.drop (if i < 0 then _ else min i.toNat l.length)).take ((if j < 0 then _ else min j.toNat l.length) - (if i < 0 then _ else min i.toNat l.length))).toArray⟩ : Str) = _
  rw [if_neg (by omega), if_neg (by omega)]
  congr 2
  simp only
  rw [List.drop_take]
  have e : l.drop (min i.toNat l.length) = l.drop i.toNat := by
    by_cases hl : i.toNat ≤ l.length
    · rw [Nat.min_eq_left hl]
    · rw [Nat.min_eq_right (by omega), List.drop_of_length_le (by omega), List.drop_of_length_le (by omega)]
  rw [e]
  by_cases c1 : i.toNat ≤ l.length
  · rw [Nat.min_eq_left c1]
    by_cases c2 : j.toNat ≤ l.length
    · rw [Nat.min_eq_left c2]
    · rw [Nat.min_eq_right (by omega), List.take_of_length_le (by rw [List.length_drop]; omega), List.take_of_length_le (by rw [List.length_drop]; omega)]
  · rw [List.drop_of_length_le (by omega)]
    simp
theorem v_slMid {l : List Nat} {i j : Int} (hl : l.length ≤ 1000000) (hi : 0 ≤ i) (hj : 0 ≤ j) (q : Q (.str (tx ((l.take j.toNat).drop i.toNat))) H) : rSlS (.str (tx l)) (some i) (some j) H Q := ⟨tx l, rfl, by rw [tx_len]; exact szl hl, by rw [cut_mid l hi hj]; exact q⟩
theorem e_m0 {te : TE} {r : V → List V → Hp → VK → Prop} (q : te σ H fun x H1 => (∃ a, x = .str a) ∧ r x [] H1 Q) : tM0 r te σ H Q := q
theorem v_up {l : List Nat} (h : l.length ≤ 1000000) (h2 : ∀ c ∈ l, c < 128) (q : Q (.str (tx (l.map PyProof.Rows.up1))) H) : (∃ a, V.str (tx l) = .str a) ∧ rUp (.str (tx l)) [] H Q := ⟨⟨_, rfl⟩, l, rfl, rfl, h, h2, q⟩
theorem up1_lt {c : Nat} (h : c < 128) : PyProof.Rows.up1 c < 1000 := by
  unfold PyProof.Rows.up1
  split <;> omega
/-- isinstance(value, str) is False -/
def NoTx (K : PySem.W.Frag) (H : Hp) (v : V) : Prop := ∃ t, TyX K H v t ∧ PySem.W.kitOne K t (.type "str") = some false
theorem v_isiN {v : V} (h : NoTx K H v) (q : Q (.bl false) H) : rIsi K [v, .ty "str"] H Q := by
  obtain ⟨t, h1, h2⟩ := h
  exact ⟨v, .ty "str", t, .type "str", false, rfl, .ty "str", h1, h2, q⟩
theorem noTx_non : NoTx K H .non := ⟨_, .base .non, kit_ty (by decide +kernel)⟩
theorem noTx_int {i : Int} : NoTx K H (.int i) := ⟨_, .base (.int i), kit_ty (by decide +kernel)⟩
theorem noTx_bl {b : Bool} : NoTx K H (.bl b) := ⟨_, .base (.bl b), kit_ty (by decide +kernel)⟩
theorem noTx_lst {a : Addr} {xs : List V} (h : H a = some (.lst xs)) : NoTx K H (.ref a) := ⟨_, .base (.lst h), kit_ty (by decide +kernel)⟩
theorem noTx_tup {a : Addr} {xs : List V} (h : H a = some (.tup xs)) : NoTx K H (.ref a) := ⟨_, .base (.tup h), kit_ty (by decide +kernel)⟩
theorem noTx_dK {a : Addr} {kvs : List (Key × V)} (h : H a = some (.dK kvs)) : NoTx K H (.ref a) := ⟨_, .base (.dK h), kit_ty (by decide +kernel)⟩
theorem noTx_ins {mg : Str → Option Value} {x : Str} {a C dx : Addr} {fs : List (Str × V)} (F : ClsF K mg x C) (k : PySem.W.kitOne K (.ref C) (.type "str") = some false) (h : H a = some (.ins C dx fs)) : NoTx K H (.ref a) := ⟨_, .base (.ins h F.cl F.ha F.hn F.ht F.hm), k⟩
end
end Cw
set_option Elab.async false
set_option linter.all false
set_option maxRecDepth 100000
set_option maxHeartbeats 4000000
/-! classes without defaults; == with an object of another class -/
namespace Cw
open PySem PySem.Spec L2
section
variable {P : Program} {w : World} {K : PySem.W.Frag} {mg : Str → Option Value} {base : Heap} {CX : CXT} {k : Nat} {C : Addr} {x qual : Str} {ps N : List Str} {sp sp0 : Sp} {st : Stmt}
/-- C(..) by its __init__, which has no defaults -/
structure CMk0 (P : Program) (w : World) (K : PySem.W.Frag) (mg : Str → Option Value) (base : Heap) (CX : CXT) (k : Nat) (x : Str) (C : Addr) (sp : Sp) (ps : List Str) (qual : Str) (st : Stmt) : Prop where
  ex : ∃ f fd sp0, mg x = some (.ref C) ∧ Mk K C f ∧ Binds K fd ps [] ∧ FnOk P w K mg base CX k f fd ps sp0 ∧ Conv C sp0 sp ∧ Fun K "__init__" qual st f fd
theorem CMk0.cdef (D : CMk0 P w K mg base CX k x C sp ps qual st) : CDef P w K mg base CX k x C sp := by
  obtain ⟨f, fd, sp0, a, b, c, d, e, _⟩ := D.ex
  exact ⟨f, fd, ps, sp0, a, b, c, d, e⟩
theorem MAt.make0 (F : MAt K C "__init__" qual st) (cf : ClsF K mg x C) (S : FnScope N ps (defScope st))
    (hb : ∀ (kV doc pm : Value) (an : Option Addr) (cdv ct : Value) (us : List Value), us.length = ps.length → bindArgs (PySem.W.fnOf "__init__" qual (defArgs st) (defBody st) (defScope st) .none kV doc pm an cdv ct) ⟨us, []⟩ = pure (ps.zip us))
    (len : ∀ vs H Q E, sp0 vs H Q E → vs.length = ps.length) (cv : Conv C sp0 sp)
    (hbody : ∀ (f : Addr) (cdv : Value) (A : Around) (outer : List Env) (s : Shared) (H : Hp) (vs : List V) (Q : VK) (E : XK), Room k (A.deeper (PyProof.Rows.envOfC qual (defScope st) s.heap.objs.size f cdv)) → sp0 vs H Q E →
      ∃ t, PSs (cxOf CX0 P w K mg base N qual (defScope st) f cdv A outer s H E).nox (defBody st) t ∧ t { nx := fun _ H' => Q .non H', rt := Q } (start N vs) H) : CMk0 P w K mg base CX0 (k + 1) x C sp ps qual st := by
  obtain ⟨f, fd, h1, h2, F⟩ := F.ex
  exact ⟨f, fd, sp0, cf.at, ⟨cf.mks, h1, h2, cf.kp⟩, F.binds hb, F.ok S len fun cdv A outer s H vs Q E hr h => hbody f cdv A outer s H vs Q E hr h, cv, F⟩
theorem CMk0.kw (D : CMk0 P w K mg base CX k x C sp ps qual st) (n : Nat) (ks : List Str) (ss : List Src)
    (h : ∀ (kV doc pm : Value) (an : Option Addr) (cdv ct : Value) (us ws : List Value), us.length = n + 1 → ws.length = ks.length → bindArgs (PySem.W.fnOf "__init__" qual (defArgs st) (defBody st) (defScope st) .none kV doc pm an cdv ct) ⟨us, ks.zip ws⟩ = pure (ps.zip (gS (.pos 0 :: ss.map Src.up) us [] ws))) : CDefN P w K mg base CX k x C sp n ks ss [] := by
  obtain ⟨f, fd, sp0, a, b, c, d, e, G⟩ := D.ex
  refine ⟨f, fd, ps, sp0, a, b, ?_, d, e⟩
  obtain ⟨oc, od, kV, doc, pm, an, cdv, ct, osl, rfl, _⟩ := G.ex
  exact kb_of (h kV doc pm an cdv ct)
end
section
variable {X : Cx} {CX : CXT} {k : Nat} {C C' : Addr} {m : Str} {ps : List Str} {sp : Sp} {E : XK}
def rMX (C C' : Addr) (sp : Sp) (E : XK) : R2 := fun x y H Q => ∃ a b dx dy fs gs, x = .ref a ∧ y = .ref b ∧ H a = some (.ins C dx fs) ∧ H b = some (.ins C' dy gs) ∧ sp [.ref a, .ref b] H Q E
theorem op_eqMX (D : MDef X.prog X.w X.K X.mg X.base CX k C "__eq__" ps sp) (hn : PySem.W.notFirst X.K C (.ref C') = true) (hr : Room k X.A) (hx : Passes CX X E) : OpR X (compareOp .Eq) (rMX C C' sp E) := by
  obtain ⟨f, fd, h1, h2, kp, ⟨hb, _⟩, F⟩ := D.ex
  intro pins s σ H x y v u Q I rx ry h
  obtain ⟨a, b, dx, dy, fs, gs, rfl, rfl, ha, hb', hq⟩ := h
  cases rx
  cases ry
  obtain ⟨mA, J, _⟩ := ins_get I.hok ha
  obtain ⟨mB, J', _⟩ := ins_get I.hok hb'
  obtain ⟨od, J, _⟩ := J.look
  obtain ⟨od', J', _⟩ := J'.look
  obtain ⟨mm, hF⟩ := I.fr
  show wpAny (model X.prog X.w) X.A (richCompare .Eq _ _) _ _ _
  refine PySem.W.cmp_K (op := .Eq) (tb := .ref C') hr.units0 hF I.ok.mod.kin J J'.type hn h1 h2 ?_
  have z := run_fn (us := [.ref a, .ref b]) (vs := [.ref a, .ref b]) (dvs := []) F hr hb .nil hx I (.cons rfl (.cons rfl .nil)) hq
  refine wpAny_mono z (fun v s' q => ?_) fun _ _ q => q
  obtain ⟨y, H', I', r, q⟩ := q
  have k : EP X pins σ Q v s' := ⟨y, H', I', r, q⟩
  cases v <;> first | exact k | (exfalso; cases y <;> first | (obtain ⟨_, r⟩ := r; cases r) | cases r)
end
end Cw
set_option Elab.async false
set_option linter.all false
set_option maxRecDepth 100000
set_option maxHeartbeats 4000000
namespace Cw
open PySem PySem.Spec L2
local macro_rules | `(tactic| walk_at "side") => `(tactic| first | omega | assumption | (dsimp only; omega) | (unfold CMul; omega) | exact ⟨by decide, by decide, by decide⟩ | exact wdiv (by first | assumption | decide | omega) (by first | assumption | decide | omega) | (simp only [List.length_cons, List.length_nil]; omega) | rfl)
local macro_rules | `(tactic| walk_at "hl") => `(tactic| first | assumption | exact upd_same | ((refine Cw.Same.at (by assumption) ?_); walk_at "hl") | ((refine Cw.Keep.at (by assumption) ?_ (by assumption)); walk_at "hl"))
local macro_rules | `(tactic| walk_at "st") => `(tactic| first
  | (with_reducible refine s_seq ?_) | (with_reducible refine g_nm ?_) | (with_reducible refine s_next ?_) | (with_reducible refine s_set ?_) | (with_reducible refine s_drop ?_) | (with_reducible refine s_ret ?_) | (with_reducible refine s_if ?_)
  | ((with_reducible refine e_varG ?_); refine ⟨_, (by with_unfolding_all rfl), ?_⟩) | (with_reducible refine e_c ?_) | (with_reducible refine e_op ?_) | (with_reducible refine e_un ?_)
  | (with_reducible refine e_cons ?_) | (with_reducible refine e_nil ?_) | (with_reducible refine e_cb ?_) | (with_reducible refine e_call ?_) | (with_reducible refine e_md ?_)
  | (with_reducible refine t_test ?_) | (with_reducible refine t_B ?_) | (with_reducible refine t_and ?_) | (with_reducible refine t_or ?_) | (with_reducible refine t_not ?_)
  | (with_reducible refine e_andV ?_) | (with_reducible refine e_orV ?_) | (with_reducible refine e_notV ?_) | (with_reducible refine e_if ?_)
  | (with_reducible refine v_I0 ?_) | ((with_reducible refine v_I ?c ?_); try (case c => walk_at "side")) | (with_reducible refine v_bl ?_)
  | ((with_reducible refine v_eq ?c ?_); (case c => with_unfolding_all rfl)) | ((with_reducible refine v_ne ?c ?_); (case c => with_unfolding_all rfl))
  | (with_reducible refine v_inti ?_) | (with_reducible refine v_intb ?_) | ((with_reducible refine v_lenG ?_); refine ⟨_, (by walk_at "hl"), ?_⟩)
  | ((with_reducible refine v_lenS ?c ?_); try (case c => walk_at "side"))
  | (with_reducible refine e_dnew ?_) | (with_reducible refine e_dget ?_) | (with_reducible refine s_dput ?_) | (with_reducible refine e_lst ?_) | (with_reducible refine e_tup ?_)
  | ((with_reducible refine v_lst ?c ?_); (case c => walk_at "side")) | ((with_reducible refine v_tup ?c ?_); (case c => walk_at "side"))
  | ((with_reducible refine v_dgetG ?_); refine ⟨_, (by assumption), ?_⟩)
  | (with_reducible refine e_sl ?_) | (with_reducible refine e_nopart ?_) | (with_reducible refine e_part ?_) | (with_reducible refine e_m1 ?_) | (with_reducible refine v_isS ?_) | (with_reducible refine v_int ?_)
  | (with_reducible refine e_lc ?_) | (with_reducible refine e_iStr ?_) | (with_reducible refine e_iEnumS ?_) | (with_reducible refine v_iEnumS ?_) | (with_reducible refine v_str ?_) | (with_reducible refine e_yes ?_) | (with_reducible refine e_fld ?_) | (with_reducible refine e_sfld ?_)
  | ((with_reducible refine v_addS ?c ?_); try (case c => walk_at "side")) | (with_reducible refine v_inS ?_) | (with_reducible refine v_notInS ?_) | (with_reducible refine v_ltS ?_)
  | ((with_reducible refine v_inLG ?_); refine ⟨_, (by walk_at "hl"), ?_⟩) | (with_reducible refine v_isiS ?_) | (with_reducible refine e_revS ?_) | ((with_reducible refine v_revS ?c ?_); try (case c => walk_at "side"))
  | ((with_reducible refine v_lenSetG ?_); refine ⟨_, (by walk_at "hl"), ?_⟩)
  | (with_reducible refine e_bm ?_) | (with_reducible refine e_bm0 ?_) | ((with_reducible refine v_tyLG ?_); refine ⟨_, (by walk_at "hl"), ?_⟩)
  | (with_reducible refine iteNT ?_) | (with_reducible refine iteNF ?_) | (with_reducible refine e_for ?_)
  | (with_reducible refine e_iL ?_) | (with_reducible refine e_iT ?_) | ((with_reducible refine v_iLG ?_); refine ⟨_, (by walk_at "hl"), ?_⟩) | (with_reducible refine e_iR1 ?_) | ((with_reducible refine v_iR1 ?c1 ?c2 ?_); try (case c1 => walk_at "side"); try (case c2 => walk_at "side"))
  | (with_reducible refine e_iR2 ?_) | ((with_reducible refine v_iR2 ?c1 ?_); try (case c1 => walk_at "side"))
  | (with_reducible refine e_pr0 ?_) | (with_reducible refine e_pr ?_) | (with_reducible refine e_disp ?_) | (with_reducible refine s_asgT ?_) | (with_reducible refine e_tryA ?_) | (with_reducible refine e_callS ?_) | (with_reducible refine e_mdS ?_) | (with_reducible refine e_par ?_) | (with_reducible refine v_par ?_) | (with_reducible refine e_par3 ?_) | (with_reducible refine v_par3 ?_) | (with_reducible refine e_iK ?_) | (with_reducible refine e_dnotin ?_)
  | (with_reducible refine iteT ?_) | (with_reducible refine iteF ?_))
local macro_rules | `(tactic| walk_at "go") => `(tactic| repeat walk_at "st")
def spSplit (C : Addr) : Sp := fun vs H Q _ => ∃ (x : Addr) (ks : List Nat) (ps : List (List Nat)) (way kinds : List Nat), vs = [.ref x, .str (tx way), .str (tx kinds)] ∧ PlanAt C H x ks ps ∧ (∀ c ∈ way, c ∈ ks) ∧ kinds.length ≤ 1000 ∧ way.length ≤ 100000 ∧
  ∀ p H', H p = none → Same H H' → H' p = some (.tup [.str (tx (splitA (crossOf ks ps) kinds way).1), .str (tx (splitA (crossOf ks ps) kinds way).2)]) → Q (.ref p) H'
def spNoEnd (C : Addr) : Sp := fun vs H Q _ => ∃ (x : Addr) (ks : List Nat) (ps : List (List Nat)) (way kinds : List Nat), vs = [.ref x, .str (tx way), .str (tx kinds)] ∧ PlanAt C H x ks ps ∧ (∀ c ∈ way, c ∈ ks) ∧ kinds.length ≤ 1000 ∧ way.length ≤ 100000 ∧
  ∀ H', Same H H' → Q (.str (tx (splitA (crossOf ks ps) kinds way.reverse).2.reverse)) H'
def nearOf (ks : List Nat) (ps : List (List Nat)) (name : List Nat) (k : Nat) : List Nat := if k ∈ firstsOf ks ps name.reverse then stepOf (crossOf ks ps k) name k else name
def startOf (ks : List Nat) (ps : List (List Nat)) (name : List Nat) (k : Nat) : List Nat := (splitA (crossOf ks ps) (crossOf ks ps k) (nearOf ks ps name k).reverse).2.reverse
def spStart (C : Addr) : Sp := fun vs H Q _ => ∃ (x : Addr) (ks : List Nat) (ps : List (List Nat)) (name : List Nat) (k : Nat), vs = [.ref x, .str (tx name), .str (tx [k])] ∧ PlanAt C H x ks ps ∧ (∀ c ∈ name, c ∈ ks) ∧ k ∈ ks ∧ ks.length ≤ 1000 ∧ name.length ≤ 50000 ∧
  ∀ H', Same H H' → Q (.str (tx (startOf ks ps name k))) H'
theorem nearOf_len (ks : List Nat) (ps : List (List Nat)) (name : List Nat) (k : Nat) : (nearOf ks ps name k).length ≤ name.length + 1 := by
  unfold nearOf
  split
  · exact stepOf_len _ _ _
  · omega
theorem nearOf_mem {ks : List Nat} {ps : List (List Nat)} {name : List Nat} {k c : Nat} (h : c ∈ nearOf ks ps name k) : c = k ∨ c ∈ name := by
  unfold nearOf at h
  split at h
  · exact stepOf_mem h
  · exact .inr h
theorem startOf_mem {ks : List Nat} {ps : List (List Nat)} {name : List Nat} {k c : Nat} (h : c ∈ startOf ks ps name k) : c = k ∨ c ∈ name := nearOf_mem (List.mem_reverse.mp (splitA_mem2 _ _ _ c (List.mem_reverse.mp h)))
theorem startOf_len (ks : List Nat) (ps : List (List Nat)) (name : List Nat) (k : Nat) : (startOf ks ps name k).length ≤ name.length + 1 := by
  unfold startOf
  have h1 := splitA_len (crossOf ks ps) (nearOf ks ps name k).reverse (crossOf ks ps k)
  have h2 := nearOf_len ks ps name k
  rw [List.length_reverse] at *
  omega
theorem splitA_yes {f : Nat → List Nat} {k : Nat} {free r : List Nat} (h : k ∈ free) : splitA f free (k :: r) = (k :: (splitA f free r).1, (splitA f free r).2) := by
  conv => lhs; unfold splitA
  exact if_pos h
theorem splitA_no {f : Nat → List Nat} {k : Nat} {free r : List Nat} (h : ¬ k ∈ free) : splitA f free (k :: r) = ((splitA f (free.filter fun o => decide (o ∈ f k)) r).1, k :: (splitA f (free.filter fun o => decide (o ∈ f k)) r).2) := by
  conv => lhs; unfold splitA
  exact if_neg h
/-! ### walls -/
def wallF (x : Addr) (k : Nat) (r : Addr) : List (Str × V) := putF "room" (.ref r) (putF "kind" (.str (tx [k])) (putF "plan" (.ref x) []))
theorem nwpk : ¬ (("plan" : Str) = "kind") := by decide +kernel
theorem nwpr : ¬ (("plan" : Str) = "room") := by decide +kernel
theorem nwkr : ¬ (("kind" : Str) = "room") := by decide +kernel
theorem wallF_p {x r : Addr} {k : Nat} : (wallF x k r).lookup ("plan" : Str) = some (.ref x) := by
  unfold wallF
  rw [lookup_putF, if_neg nwpr, lookup_putF, if_neg nwpk, lookup_putF, if_pos rfl]
theorem wallF_k {x r : Addr} {k : Nat} : (wallF x k r).lookup ("kind" : Str) = some (.str (tx [k])) := by
  unfold wallF
  rw [lookup_putF, if_neg nwkr, lookup_putF, if_pos rfl]
theorem wallF_r {x r : Addr} {k : Nat} : (wallF x k r).lookup ("room" : Str) = some (.ref r) := by
  unfold wallF
  rw [lookup_putF, if_pos rfl]
theorem wallF_no {x r : Addr} {k : Nat} {m : Str} (h1 : ¬ m = "plan") (h2 : ¬ m = "kind") (h3 : ¬ m = "room") : (wallF x k r).lookup m = none := by
  unfold wallF
  rw [lookup_putF, if_neg h3, lookup_putF, if_neg h2, lookup_putF, if_neg h1]
  rfl
/-- a wall stands at a; its room, which has the name m, at r -/
structure WallAt (W R : Addr) (H : Hp) (a r x : Addr) (k : Nat) (m : List Nat) : Prop where
  ex : ∃ dx, H a = some (.ins W dx (wallF x k r))
  ro : RoomAt R H r x m
theorem WallAt.same {W R : Addr} {H H' : Hp} {a r x : Addr} {k : Nat} {m : List Nat} (h : WallAt W R H a r x k m) (s : Same H H') : WallAt W R H' a r x k m := by
  obtain ⟨⟨dx, e⟩, ro⟩ := h
  exact ⟨⟨dx, s _ _ e⟩, ro.same s⟩
structure TxtW (K : PySem.W.Frag) (mg : Str → Option Value) (C R O W : Addr) : Prop extends TxtR K mg C R O where
  Wall : ClsF K mg "Wall" W
  nWp : NoAttr K W "plan"
  nWk : NoAttr K W "kind"
  nWr : NoAttr K W "room"
def spWall0 (C R W : Addr) : Sp := fun vs H Q _ => ∃ (a dx r x : Addr) (ks : List Nat) (ps : List (List Nat)) (name : List Nat) (k : Nat), vs = [.ref a, .ref r, .str (tx [k])] ∧ H a = some (.ins W dx []) ∧ RoomAt R H r x name ∧ PlanAt C H x ks ps ∧ (∀ c ∈ name, c ∈ ks) ∧ k ∈ ks ∧ ks.length ≤ 1000 ∧ name.length < 2000 ∧
  ∀ r' H', Keep a H H' → WallAt W R H' a r' x k (joinOf ks ps [] (startOf ks ps name k)) → Q .non H'
def spWall (C R W : Addr) : Sp := fun vs H Q _ => ∃ (r x : Addr) (ks : List Nat) (ps : List (List Nat)) (name : List Nat) (k : Nat), vs = [.ref r, .str (tx [k])] ∧ RoomAt R H r x name ∧ PlanAt C H x ks ps ∧ (∀ c ∈ name, c ∈ ks) ∧ k ∈ ks ∧ ks.length ≤ 1000 ∧ name.length < 2000 ∧
  ∀ a r' H', H a = none → Same H H' → WallAt W R H' a r' x k (joinOf ks ps [] (startOf ks ps name k)) → Q (.ref a) H'
theorem conv_wall (C R W : Addr) : Conv W (spWall0 C R W) (spWall C R W) := by
  rintro vs H Q E ⟨r, x, ks, ps, name, k, rfl, hr, hp, h1, h2, h3, h4, q⟩ a dx hx hdx hne
  have s0 : Same H (upd (upd H dx (.own a)) a (.ins W dx [])) := fun b o hb => by
    rw [upd_ne (ne_of_none hb hx), upd_ne (ne_of_none hb hdx)]
    exact hb
  refine ⟨a, dx, r, x, ks, ps, name, k, rfl, upd_same, hr.same s0, hp.same s0, h1, h2, h3, h4, fun r' H' s' z => ⟨rfl, q a r' H' hx (fun b o hb => ?_) z⟩⟩
  exact s' b o (s0 _ _ hb) (ne_of_none hb hx)
def spWallEq (C R W : Addr) : Sp := fun vs H Q _ => ∃ (a r x : Addr) (k : Nat) (m : List Nat) (b r' y : Addr) (j : Nat) (n : List Nat) (e : Bool), vs = [.ref a, .ref b] ∧ WallAt W R H a r x k m ∧ WallAt W R H b r' y j n ∧ Rooms2 C R H r x m r' y n e ∧ Q (.bl (decide (k = j) && (e && decide (m = n)))) H
/-- a wall and a room -/
def spWallEqR (R W : Addr) : Sp := fun vs H Q _ => ∃ (a b x dx : Addr) (fs : List (Str × V)) (n : List Nat), vs = [.ref a, .ref b] ∧ H a = some (.ins W dx fs) ∧ RoomAt R H b x n ∧ Q (.bl false) H
section
variable {P : Program} {w : World} {K : PySem.W.Frag} {mg : Str → Option Value} {base : Heap} {C R O W : Addr}
end
/-! ### of a drawn floor -/
section
variable {K : PySem.W.Frag} {H : Hp} {Q : VK} {C R W r x : Addr} {ls : List Nat} {fn : Nat → List Nat} {a : List Nat} {k : Nat} {E : XK}
theorem start_tab (fl : Fl ls fn) (ha : ∀ c ∈ a, c ∈ ls) (hk : k ∈ ls) : startOf (ascOf ls) (tabPairs ls fn) (joinC fn [] a) k = startC fn (joinC fn [] a) k := by
  have e1 : nearOf (ascOf ls) (tabPairs ls fn) (joinC fn [] a) k = nearC fn (joinC fn [] a) k := by
    unfold nearOf nearC
    rw [firsts_tab fl ha, stepOf_tab fl.tab hk (memN ha)]
    have e2 : k ∈ (ls.filter fun c => decide (desc fn c (joinC fn [] a).reverse)) ↔ desc fn k (joinC fn [] a).reverse := by
      rw [List.mem_filter, decide_eq_true_iff]
      exact ⟨fun z => z.2, fun z => ⟨hk, z⟩⟩
    by_cases c : desc fn k (joinC fn [] a).reverse
    · rw [if_pos c, if_pos (e2.mpr c)]
    · rw [if_neg c, if_neg fun z => c (e2.mp z)]
  unfold startOf startC
  rw [e1]
  have mm : ∀ c ∈ (nearC fn (joinC fn [] a) k).reverse, c ∈ ls := fun c hc => (near_mem (List.mem_reverse.mp hc)).elim (fun z => z ▸ hk) (memN ha c)
  rw [splitA_congr (g := fn) (free' := fn k) (fun c hc => cross_tab fl.tab hk (mm c hc)) fun j hj c hc => cross_tab fl.tab (mm j hj) (mm c hc)]
theorem sp_wall (fl : Fl ls fn) (h : RoomAt R H r x (joinC fn [] a)) (pl : PlanAt C H x (ascOf ls) (tabPairs ls fn)) (ha : ∀ c ∈ a, c ∈ ls) (hk : k ∈ ls) (la : a.length < 2000) (q : ∀ b r' H', H b = none → Same H H' → WallAt W R H' b r' x k (startC fn (joinC fn [] a) k) → Q (.ref b) H') : spWall C R W [.ref r, .str (tx [k])] H Q E := by
  have n1 : (joinC fn [] a).length ≤ a.length := name_len fn a
  have tl := fl.tab.len
  refine ⟨r, x, _, _, _, k, rfl, h, pl, inAsc fl.tab (memN ha), inAsc (a := [k]) fl.tab (by simpa using hk) k (by simp), by rw [asc_self fl]; omega, by omega, fun b r' H' hb s' wa => q b r' H' hb s' ?_⟩
  rw [start_tab fl ha hk, joinOf_tab fl.tab (name := []) (by simp) fun c hc => (start_mem hc).elim (fun z => z ▸ hk) (memN ha c), show joinC fn [] (startC fn (joinC fn [] a) k) = startC fn (joinC fn [] a) k from (is_NF fl.ok).mpr (start_NF fl.ok (name_NF fl.ok a) k)] at wa
  exact wa
end
end Cw
set_option Elab.async false
set_option linter.all false
set_option maxRecDepth 100000
set_option maxHeartbeats 4000000
namespace Cw
open PySem PySem.Spec L2
local macro_rules | `(tactic| walk_at "side") => `(tactic| first | omega | assumption | (dsimp only; omega) | (unfold CMul; omega) | exact ⟨by decide, by decide, by decide⟩ | exact wdiv (by first | assumption | decide | omega) (by first | assumption | decide | omega) | (simp only [List.length_cons, List.length_nil]; omega) | rfl)
local macro_rules | `(tactic| walk_at "hl") => `(tactic| first | assumption | exact upd_same | ((refine Cw.Same.at (by assumption) ?_); walk_at "hl") | ((refine Cw.Keep.at (by assumption) ?_ (by assumption)); walk_at "hl"))
local macro_rules | `(tactic| walk_at "st") => `(tactic| first
  | (with_reducible refine s_seq ?_) | (with_reducible refine g_nm ?_) | (with_reducible refine s_next ?_) | (with_reducible refine s_set ?_) | (with_reducible refine s_drop ?_) | (with_reducible refine s_ret ?_) | (with_reducible refine s_if ?_)
  | ((with_reducible refine e_varG ?_); refine ⟨_, (by with_unfolding_all rfl), ?_⟩) | (with_reducible refine e_c ?_) | (with_reducible refine e_op ?_) | (with_reducible refine e_un ?_)
  | (with_reducible refine e_cons ?_) | (with_reducible refine e_nil ?_) | (with_reducible refine e_cb ?_) | (with_reducible refine e_call ?_) | (with_reducible refine e_md ?_)
  | (with_reducible refine t_test ?_) | (with_reducible refine t_B ?_) | (with_reducible refine t_and ?_) | (with_reducible refine t_or ?_) | (with_reducible refine t_not ?_)
  | (with_reducible refine e_andV ?_) | (with_reducible refine e_orV ?_) | (with_reducible refine e_notV ?_) | (with_reducible refine e_if ?_)
  | (with_reducible refine v_I0 ?_) | ((with_reducible refine v_I ?c ?_); try (case c => walk_at "side")) | (with_reducible refine v_bl ?_)
  | ((with_reducible refine v_eq ?c ?_); (case c => with_unfolding_all rfl)) | ((with_reducible refine v_ne ?c ?_); (case c => with_unfolding_all rfl))
  | (with_reducible refine v_inti ?_) | (with_reducible refine v_intb ?_) | ((with_reducible refine v_lenG ?_); refine ⟨_, (by walk_at "hl"), ?_⟩)
  | ((with_reducible refine v_lenS ?c ?_); try (case c => walk_at "side"))
  | (with_reducible refine e_dnew ?_) | (with_reducible refine e_dget ?_) | (with_reducible refine s_dput ?_) | (with_reducible refine e_lst ?_) | (with_reducible refine e_tup ?_)
  | ((with_reducible refine v_lst ?c ?_); (case c => walk_at "side")) | ((with_reducible refine v_tup ?c ?_); (case c => walk_at "side"))
  | ((with_reducible refine v_dgetG ?_); refine ⟨_, (by assumption), ?_⟩)
  | (with_reducible refine e_sl ?_) | (with_reducible refine e_nopart ?_) | (with_reducible refine e_part ?_) | (with_reducible refine e_m1 ?_) | (with_reducible refine v_isS ?_) | (with_reducible refine v_int ?_)
  | (with_reducible refine e_lc ?_) | (with_reducible refine e_iStr ?_) | (with_reducible refine e_iEnumS ?_) | (with_reducible refine v_iEnumS ?_) | (with_reducible refine v_str ?_) | (with_reducible refine e_yes ?_) | (with_reducible refine e_fld ?_) | (with_reducible refine e_sfld ?_)
  | ((with_reducible refine v_addS ?c ?_); try (case c => walk_at "side")) | (with_reducible refine v_inS ?_) | (with_reducible refine v_notInS ?_) | (with_reducible refine v_ltS ?_)
  | ((with_reducible refine v_inLG ?_); refine ⟨_, (by walk_at "hl"), ?_⟩) | (with_reducible refine v_isiS ?_) | (with_reducible refine e_revS ?_) | ((with_reducible refine v_revS ?c ?_); try (case c => walk_at "side"))
  | ((with_reducible refine v_lenSetG ?_); refine ⟨_, (by walk_at "hl"), ?_⟩)
  | (with_reducible refine e_bm ?_) | (with_reducible refine e_bm0 ?_) | ((with_reducible refine v_tyLG ?_); refine ⟨_, (by walk_at "hl"), ?_⟩)
  | (with_reducible refine iteNT ?_) | (with_reducible refine iteNF ?_) | (with_reducible refine e_for ?_)
  | (with_reducible refine e_iL ?_) | (with_reducible refine e_iT ?_) | ((with_reducible refine v_iLG ?_); refine ⟨_, (by walk_at "hl"), ?_⟩) | (with_reducible refine e_iR1 ?_) | ((with_reducible refine v_iR1 ?c1 ?c2 ?_); try (case c1 => walk_at "side"); try (case c2 => walk_at "side"))
  | (with_reducible refine e_iR2 ?_) | ((with_reducible refine v_iR2 ?c1 ?_); try (case c1 => walk_at "side"))
  | (with_reducible refine e_pr0 ?_) | (with_reducible refine e_pr ?_) | (with_reducible refine e_disp ?_) | (with_reducible refine s_asgT ?_) | (with_reducible refine e_tryA ?_) | (with_reducible refine e_callS ?_) | (with_reducible refine e_mdS ?_) | (with_reducible refine e_par ?_) | (with_reducible refine v_par ?_) | (with_reducible refine e_par3 ?_) | (with_reducible refine v_par3 ?_) | (with_reducible refine e_iK ?_) | (with_reducible refine e_dnotin ?_)
  | (with_reducible refine iteT ?_) | (with_reducible refine iteF ?_))
local macro_rules | `(tactic| walk_at "go") => `(tactic| repeat walk_at "st")
def spMade (C : Addr) : Sp := fun vs H Q _ => ∃ (g : Pen) (n : Nat) (d : Addr) (ls : List Nat) (f : Nat → List Nat), vs = [.ref g.p, .ref d] ∧ PenAt g H n ∧ n < 900000 ∧ d ≠ g.p ∧ H d = some (.dK (tabKV ls f)) ∧ Tab ls f ∧
  ∀ x H', H x = none → Keep g.p H H' → PenAt g H' (n + 100) → PlanAt C H' x (ascOf ls) (tabPairs ls f) → PlanOff C H' x d → Q (.ref x) H'
theorem Keep.free {p x : Addr} {H H' : Hp} (k : Keep p H H') (h : H' x = none) (n : x ≠ p) : H x = none := by
  cases z : H x with
  | none => rfl
  | some o =>
    have := k _ _ z n
    rw [h] at this
    cases this
section
variable {P : Program} {w : World} {K : PySem.W.Frag} {mg : Str → Option Value} {base : Heap} {C R O : Addr}
abbrev stmade : Stmt := (top 51)
abbrev Nmade : List Str := ["_law_pen_here", "_law_table", "_law_pairs", "_law_item", "_law_peer"]
theorem scmade : FnScope Nmade ["_law_pen_here", "_law_table"] (defScope stmade) := ⟨rfl, rfl, rfl, by decide +kernel, rfl, by decide +kernel, by decide +kernel⟩

theorem ok_made (F : FnAt K mg "_law_made" stmade) (T : TxtR K mg C R O) (D_draw : Def P w K mg base CX0 1 "_law_draw" ["_law_pen_here", "_law_number"] spDraw) (D_shuffled : Def P w K mg base CX0 2 "_law_shuffled" ["_law_pen_here", "_law_items"] spShuffled) (C_Plan : CDef P w K mg base CX0 3 "Plan" C (spPlan K C)) : Def P w K mg base CX0 5 "_law_made" ["_law_pen_here", "_law_table"] (spMade C) := by
  refine F.ok scmade (fun _ _ _ _ _ _ us hl => match us, hl with | [_, _], _ => rfl) (fun vs H Q E h => ?_) (fun f cdv A outer s H vs Q E hr h => ?_)
  · obtain ⟨g, n, d, ls, f, rfl, _⟩ := h
    rfl
  obtain ⟨g, n, d, ls, fn, rfl, hp, hn, hdp, hd, tab, k⟩ := h
  have hu := hu_of hr
  have nd := scmade.nd
  replace D_draw := D_draw.mono (show 1 ≤ 4 by decide)
  replace D_shuffled := D_shuffled.mono (show 2 ≤ 4 by decide)
  have tl := tab.len
  refine ⟨_, (pss_cons (ps_set (i := 2) nd rfl (Or.inl rfl) (pe_lst pa_nil))
      (pss_cons (ps_lock (ps_for PassesOwn.never rfl (pi_keys (pv 1)) (pg_name (i := 3) nd rfl (Or.inl rfl))
      (pss_one (ps_for PassesOwn.never rfl (pi_str (pe_dget hu (pv 1) (pv 3) (fun _ _ => rfl))) (pg_name (i := 4) nd rfl (Or.inl rfl))
        (pss_one (ps_if (PW.pt (pw_or (pt_cmpR op_ltS (pv 3) (pv 4) (nomark _)) (pw_or1 (pt_cmpR op_gt (pe_cd D_draw hr pass0 (pa_cons (pv 0) (pa_cons pe_int pa_nil))) pe_int (nomark _)))))
          (pss_one (ps_expr (pe_appK (K := K) rfl (pv 2) (pe_op op_addS (pv 3) (pv 4)))))
          pss_nil))))))
      (pss_one (ps_ret (pe_mk C_Plan hr pass0 (pa_cons (pe_joinK (K := K) rfl (pe_tx [] (by decide +kernel)) (pe_cd D_shuffled hr pass0 (pa_cons (pv 0) (pa_cons (pe_callTy (call_list_dK rfl) (by rfl) T.list (by decide +kernel) (pa_cons (pv 1) pa_nil)) pa_nil)))) (pa_cons (pv 2) pa_nil))))))), ?_⟩
  refine s_start [some _, some _, none, none, none] rfl ?_
  walk_at "go"
  intro q H1 hq s1 e1
  walk_at "go"
  have hd1 := s1 _ _ hd
  have ndc : g.cl ≠ d := by
    obtain ⟨a, r, h1, h2, _⟩ := hp.ex
    exact ne_of h2 hd (by intro z; cases z)
  have nqd : q ≠ d := (ne_of_none hd hq).symm
  have nqp := hp.p_ne hq
  have nqc := hp.cl_ne hq
  refine e_lock hd1 trivial fun od => ?_
  have fz : ∀ b o, b ≠ d → H1 b = some o → upd H1 d (.frz od (.dK (tabKV ls fn))) b = some o := fun b o nb hb => by
    rw [upd_ne nb]
    exact hb
  walk_at "go"
  refine ⟨d, od, rfl, .inl ⟨_, upd_same, ?_⟩⟩
  have p1 : PenAt g (upd H1 d (.frz od (.dK (tabKV ls fn)))) n := by
    obtain ⟨a, r, h1, h2, h3⟩ := (hp.same s1).ex
    exact ⟨a, r, fz _ _ hdp.symm h1, fz _ _ ndc h2, h3⟩
  refine for_it walk_keys (fun i σ H' => ∃ x1 x2 ps, σ = [some (.ref g.p), some (.ref d), some (.ref q), x1, x2] ∧ PenAt g H' (n + 8 * i) ∧ (∀ b o, H b = some o → b ≠ g.p → b ≠ d → H' b = some o) ∧ H' d = some (.frz od (.dK (tabKV ls fn))) ∧ H' q = some (.lst (strsV ps)) ∧ ps.length ≤ 8 * i ∧
    (∀ p ∈ ps, ∃ a b, p = [a, b] ∧ a ∈ ls ∧ b ∈ fn a) ∧ ∀ a ∈ ls.take i, ∀ b ∈ fn a, a < b → [a, b] ∈ ps) ⟨_, _, [], rfl, p1, fun b o hb n1 n2 => fz _ _ n2 (s1 _ _ hb), upd_same, fz _ _ nqd e1, by simp, by simp, by simp⟩ (fun i σ H' _ z => ?_) ?_ ?_
  · obtain ⟨x1, x2, ps, _, _, _, h, _⟩ := z
    exact h
  · rintro i v σ H2 H3 hi ⟨x1, x2, ps, rfl, p2, k2, d2, q2, l2, h2, g2⟩ ⟨rfl, kk, vv, hkv, rfl⟩
    have hi' : i < ls.length := by
      unfold tabKV at hi
      rw [List.length_map] at hi
      exact hi
    obtain ⟨rfl, rfl⟩ : kk = Sum.inr (tx [ls.getD i 0]) ∧ vv = V.str (tx (fn (ls.getD i 0))) := by
      unfold tabKV at hkv
      rw [List.getElem?_map, List.getElem?_eq_getElem hi'] at hkv
      have e : ls.getD i 0 = ls[i] := by rw [List.getD_eq_getElem?_getD, List.getElem?_eq_getElem hi']; rfl
      rw [e]
      injection hkv with hkv
      injection hkv with a b
      exact ⟨a.symm, b.symm⟩
    have hx : ls.getD i 0 ∈ ls := getD_mem hi'
    have hgl := tab.gl _ hx
    show tFor _ _ _ _ _ _
    walk_at "go"
    refine v_dget (tab_getF d2 hx) ?_
    walk_at "go"
    refine for_it (walk_tx (fn (ls.getD i 0))) (fun j σ H' => ∃ x2 ps, σ = [some (.ref g.p), some (.ref d), some (.ref q), some (.str (tx [ls.getD i 0])), x2] ∧ PenAt g H' (n + 8 * i + j) ∧ (∀ b o, H b = some o → b ≠ g.p → b ≠ d → H' b = some o) ∧ H' d = some (.frz od (.dK (tabKV ls fn))) ∧ H' q = some (.lst (strsV ps)) ∧ ps.length ≤ 8 * i + j ∧
      (∀ p ∈ ps, ∃ a b, p = [a, b] ∧ a ∈ ls ∧ b ∈ fn a) ∧ (∀ a ∈ ls.take i, ∀ b ∈ fn a, a < b → [a, b] ∈ ps) ∧ ∀ b ∈ (fn (ls.getD i 0)).take j, ls.getD i 0 < b → [ls.getD i 0, b] ∈ ps) ⟨_, ps, rfl, p2, k2, d2, q2, l2, h2, g2, by simp⟩ (fun _ _ _ _ _ => trivial) ?_ ?_
    · rintro j v σ H4 H5 hj ⟨x2, ps, rfl, p4, k4, d4, q4, l4, h4, g4, t4⟩ ⟨rfl, rfl⟩
      have hy : (fn (ls.getD i 0)).getD j 0 ∈ fn (ls.getD i 0) := getD_mem hj
      generalize hyy : (fn (ls.getD i 0)).getD j 0 = y at hy ⊢
      generalize hxx : ls.getD i 0 = x at *
      have l3 : [x].length + [y].length ≤ 1000000 := by simp
      have app : ∀ (H6 H7 : Hp), PenAt g H6 (n + 8 * i + j + 1) → Keep g.p H5 H6 → Keep q H6 H7 → H7 q = some (.lst (strsV ps ++ [V.str (tx ([x] ++ [y]))])) → ∃ x2 ps, [some (V.ref g.p), some (V.ref d), some (V.ref q), some (V.str (tx [x])), some (V.str (tx [y]))] = [some (.ref g.p), some (.ref d), some (.ref q), some (.str (tx [x])), x2] ∧ PenAt g H7 (n + 8 * i + (j + 1)) ∧ (∀ b o, H b = some o → b ≠ g.p → b ≠ d → H7 b = some o) ∧ H7 d = some (.frz od (.dK (tabKV ls fn))) ∧ H7 q = some (.lst (strsV ps)) ∧ ps.length ≤ 8 * i + (j + 1) ∧
          (∀ p ∈ ps, ∃ a b, p = [a, b] ∧ a ∈ ls ∧ b ∈ fn a) ∧ (∀ a ∈ ls.take i, ∀ b ∈ fn a, a < b → [a, b] ∈ ps) ∧ ∀ b ∈ (fn x).take (j + 1), x < b → [x, b] ∈ ps := by
        intro H6 H7 p6 k6 k7 e7
        refine ⟨_, ps ++ [[x, y]], rfl, p6.keep k7 nqp nqc, fun b o hb n1 n2 => k7 _ _ (k6 _ _ (k4 _ _ hb n1 n2) n1) (ne_of_none hb hq), k7 _ _ (k6 _ _ d4 hdp) nqd.symm, ?_, ?_, ?_, ?_, ?_⟩
        · rw [e7]
          unfold strsV
          rw [List.map_append]
          rfl
        · rw [List.length_append, List.length_singleton]
          omega
        · intro p hp
          rcases List.mem_append.mp hp with z | z
          · exact h4 p z
          · exact ⟨x, y, List.mem_singleton.mp z, hx, hy⟩
        · intro a ha b hb hab
          exact List.mem_append_left _ (g4 a ha b hb hab)
        · intro b hb hab
          rw [take_getD hj, List.mem_append, List.mem_singleton] at hb
          rcases hb with z | z
          · exact List.mem_append_left _ (t4 b z hab)
          · rw [z, hyy]
            exact List.mem_append_right _ (List.mem_singleton.mpr rfl)
      walk_at "go"
      rw [lt_one]
      refine if_dec (fun c => ?_) (fun c => ?_)
      · walk_at "go"
        refine v_app q4 (by rw [List.length_map]; omega) fun H6 k6 e6 => ?_
        exact app H5 H6 (p4.mono (by omega)) (Keep.refl _ _) k6 e6
      · walk_at "go"
        refine ⟨g, 3, _, rfl, by omega, by omega, p4, by omega, fun z H6 _ _ p6 k6 => ?_⟩
        walk_at "go"
        refine if_dec (fun c2 => ?_) (fun c2 => ?_)
        · have q6 := k6 _ _ q4 nqp.symm
          walk_at "go"
          refine v_app q6 (by rw [List.length_map]; omega) fun H7 k7 e7 => ?_
          exact app H6 H7 p6 k6 k7 e7
        · walk_at "go"
          refine ⟨_, ps, rfl, p6, fun b o hb n1 n2 => k6 _ _ (k4 _ _ hb n1 n2) n1, k6 _ _ d4 hdp, k6 _ _ q4 nqp.symm, by omega, h4, g4, ?_⟩
          intro b hb hab
          rw [take_getD hj, List.mem_append, List.mem_singleton] at hb
          rcases hb with z | z
          · exact t4 b z hab
          · rw [z, hyy] at hab
            exact absurd hab c
    · rintro σ H4 ⟨x2, ps, rfl, p4, k4, d4, q4, l4, h4, g4, t4⟩
      rw [List.take_of_length_le (Nat.le_refl _)] at t4
      refine ⟨_, _, ps, rfl, p4.mono (by omega), k4, d4, q4, by omega, h4, ?_⟩
      intro a ha b hb hab
      rw [take_getD hi', List.mem_append, List.mem_singleton] at ha
      rcases ha with z | z
      · exact g4 a z b hb hab
      · subst z
        exact t4 b hb hab
  rintro σ H2 ⟨x1, x2, ps, rfl, p2, k2, d2, q2, l2, h2, g2⟩
  have tk : (tabKV ls fn).length = ls.length := by unfold tabKV; rw [List.length_map]
  rw [tk] at p2 l2 g2
  rw [List.take_of_length_le (Nat.le_refl _)] at g2
  refine ⟨d2, ?_⟩
  have p3 : PenAt g (upd H2 d (.dK (tabKV ls fn))) (n + 64) := by
    obtain ⟨a, r, h1, h3, h4, h5, h6, h7⟩ := p2.ex
    exact ⟨a, r, by rw [upd_ne hdp.symm]; exact h1, by rw [upd_ne ndc]; exact h3, h4, h5, by omega, h7⟩
  have k3 : Keep g.p H (upd H2 d (.dK (tabKV ls fn))) := fun b o hb nb => by
    by_cases e : b = d
    · subst e
      rw [upd_same, ← hb, hd]
    · rw [upd_ne e]
      exact k2 _ _ hb nb e
  have d3 : upd H2 d (.dK (tabKV ls fn)) d = some (.dK (tabKV ls fn)) := upd_same
  have q3 : upd H2 d (.dK (tabKV ls fn)) q = some (.lst (strsV ps)) := by rw [upd_ne nqd]; exact q2
  generalize upd H2 d (.dK (tabKV ls fn)) = H3 at p3 k3 d3 q3 ⊢
  walk_at "go"
  refine v_listD d3 fun l H4 hl s4 e4 => ?_
  rw [tab_keys] at e4
  walk_at "go"
  refine ⟨g, n + 64, l, ls, rfl, e4, by omega, fun c hc => by have := LET_lt (tab.lt c hc); omega, p3.same s4, by omega, fun y ys H5 hy pm e5 p5 k5 => ?_⟩
  walk_at "go"
  rw [strs_ones] at e5
  have ylen := pm.length_eq
  refine v_join e5 (by rw [flat_ones]; omega) ?_
  rw [flat_ones]
  walk_at "go"
  have nqp' := nqp.symm
  refine ⟨ys, q, ps, rfl, ⟨.inl (k5 _ _ (s4 _ _ q3) nqp'), by omega, ?_, fun c hc => tab.lt c (pm.subset hc), pm.nodup_iff.mpr tab.nd, by omega⟩, fun x H6 hx s6 pl off => ?_⟩
  · intro p hp
    obtain ⟨a, b, rfl, ha, hb⟩ := h2 p hp
    obtain ⟨b1, b2, b3⟩ := tab.sub a ha b hb
    exact ⟨a, b, rfl, b2.symm, pm.mem_iff.mpr ha, pm.mem_iff.mpr b1⟩
  have kA : Keep g.p H H6 := fun b o hb nb => s6 _ _ (k5 _ _ (s4 _ _ (k3 _ _ hb nb)) nb)
  rw [show kindsOf ys = ascOf ls from ascOf_congr fun c => pm.mem_iff, show prsOf ps = tabPairs ls fn from tabPairs_eq tab h2 g2] at pl
  have kB : Keep g.p H H5 := fun b o hb nb => k5 _ _ (s4 _ _ (k3 _ _ hb nb)) nb
  refine k x H6 (kB.free hx (p5.p_ne hx).symm) kA ((p5.same s6).mono (by omega)) pl (off d _ (k5 _ _ (s4 _ _ d3) hdp))
end
end Cw
set_option Elab.async false
set_option linter.all false
set_option maxRecDepth 100000
set_option maxHeartbeats 4000000
namespace Cw
open PySem PySem.Spec L2
local macro_rules | `(tactic| walk_at "side") => `(tactic| first | omega | assumption | (dsimp only; omega) | (unfold CMul; omega) | exact ⟨by decide, by decide, by decide⟩ | exact wdiv (by first | assumption | decide | omega) (by first | assumption | decide | omega) | (simp only [List.length_cons, List.length_nil]; omega) | rfl)
local macro_rules | `(tactic| walk_at "hl") => `(tactic| first | assumption | exact upd_same | ((refine Cw.Same.at (by assumption) ?_); walk_at "hl") | ((refine Cw.Keep.at (by assumption) ?_ (by assumption)); walk_at "hl"))
local macro_rules | `(tactic| walk_at "st") => `(tactic| first
  | (with_reducible refine s_seq ?_) | (with_reducible refine g_nm ?_) | (with_reducible refine s_next ?_) | (with_reducible refine s_set ?_) | (with_reducible refine s_drop ?_) | (with_reducible refine s_ret ?_) | (with_reducible refine s_if ?_)
  | ((with_reducible refine e_varG ?_); refine ⟨_, (by with_unfolding_all rfl), ?_⟩) | (with_reducible refine e_c ?_) | (with_reducible refine e_op ?_) | (with_reducible refine e_un ?_)
  | (with_reducible refine e_cons ?_) | (with_reducible refine e_nil ?_) | (with_reducible refine e_cb ?_) | (with_reducible refine e_call ?_) | (with_reducible refine e_md ?_)
  | (with_reducible refine t_test ?_) | (with_reducible refine t_B ?_) | (with_reducible refine t_and ?_) | (with_reducible refine t_or ?_) | (with_reducible refine t_not ?_)
  | (with_reducible refine e_andV ?_) | (with_reducible refine e_orV ?_) | (with_reducible refine e_notV ?_) | (with_reducible refine e_if ?_)
  | (with_reducible refine v_I0 ?_) | ((with_reducible refine v_I ?c ?_); try (case c => walk_at "side")) | (with_reducible refine v_bl ?_)
  | ((with_reducible refine v_eq ?c ?_); (case c => with_unfolding_all rfl)) | ((with_reducible refine v_ne ?c ?_); (case c => with_unfolding_all rfl))
  | (with_reducible refine v_inti ?_) | (with_reducible refine v_intb ?_) | ((with_reducible refine v_lenG ?_); refine ⟨_, (by walk_at "hl"), ?_⟩)
  | ((with_reducible refine v_lenS ?c ?_); try (case c => walk_at "side"))
  | (with_reducible refine e_dnew ?_) | (with_reducible refine e_dget ?_) | (with_reducible refine s_dput ?_) | (with_reducible refine e_lst ?_) | (with_reducible refine e_tup ?_)
  | ((with_reducible refine v_lst ?c ?_); (case c => walk_at "side")) | ((with_reducible refine v_tup ?c ?_); (case c => walk_at "side"))
  | ((with_reducible refine v_dgetG ?_); refine ⟨_, (by assumption), ?_⟩)
  | (with_reducible refine e_sl ?_) | (with_reducible refine e_nopart ?_) | (with_reducible refine e_part ?_) | (with_reducible refine e_m1 ?_) | (with_reducible refine v_isS ?_) | (with_reducible refine v_int ?_)
  | (with_reducible refine e_lc ?_) | (with_reducible refine e_iStr ?_) | (with_reducible refine e_iEnumS ?_) | (with_reducible refine v_iEnumS ?_) | (with_reducible refine v_str ?_) | (with_reducible refine e_yes ?_) | (with_reducible refine e_fld ?_) | (with_reducible refine e_sfld ?_)
  | ((with_reducible refine v_addS ?c ?_); try (case c => walk_at "side")) | (with_reducible refine v_inS ?_) | (with_reducible refine v_notInS ?_) | (with_reducible refine v_ltS ?_)
  | ((with_reducible refine v_inLG ?_); refine ⟨_, (by walk_at "hl"), ?_⟩) | (with_reducible refine v_isiS ?_) | (with_reducible refine e_revS ?_) | ((with_reducible refine v_revS ?c ?_); try (case c => walk_at "side"))
  | ((with_reducible refine v_lenSetG ?_); refine ⟨_, (by walk_at "hl"), ?_⟩)
  | (with_reducible refine e_bm ?_) | (with_reducible refine e_bm0 ?_) | ((with_reducible refine v_tyLG ?_); refine ⟨_, (by walk_at "hl"), ?_⟩)
  | (with_reducible refine iteNT ?_) | (with_reducible refine iteNF ?_) | (with_reducible refine e_for ?_)
  | (with_reducible refine e_iL ?_) | (with_reducible refine e_iT ?_) | ((with_reducible refine v_iLG ?_); refine ⟨_, (by walk_at "hl"), ?_⟩) | (with_reducible refine e_iR1 ?_) | ((with_reducible refine v_iR1 ?c1 ?c2 ?_); try (case c1 => walk_at "side"); try (case c2 => walk_at "side"))
  | (with_reducible refine e_iR2 ?_) | ((with_reducible refine v_iR2 ?c1 ?_); try (case c1 => walk_at "side"))
  | (with_reducible refine e_pr0 ?_) | (with_reducible refine e_pr ?_) | (with_reducible refine e_disp ?_) | (with_reducible refine s_asgT ?_) | (with_reducible refine e_tryA ?_) | (with_reducible refine e_callS ?_) | (with_reducible refine e_mdS ?_) | (with_reducible refine e_par ?_) | (with_reducible refine v_par ?_) | (with_reducible refine e_par3 ?_) | (with_reducible refine v_par3 ?_) | (with_reducible refine e_iK ?_) | (with_reducible refine e_dnotin ?_)
  | (with_reducible refine iteT ?_) | (with_reducible refine iteF ?_))
local macro_rules | `(tactic| walk_at "go") => `(tactic| repeat walk_at "st")
def spWalk : Sp := fun vs H Q _ => ∃ (g : Pen) (n : Nat) (d : Addr) (ls : List Nat) (f : Nat → List Nat) (num : Nat), vs = [.ref g.p, .ref d, .int num] ∧ PenAt g H n ∧ n < 900000 ∧ d ≠ g.p ∧ H d = some (.dK (tabKV ls f)) ∧ Tab ls f ∧ 0 < ls.length ∧ num ≤ 100000 ∧
  ∀ (l : List Nat) H', (∀ c ∈ l, c ∈ ls) → l.length ≤ num → PenAt g H' (n + 100) → Keep g.p H H' → Q (.str (tx l)) H'
theorem mem_rep {a : List Nat} {n : Nat} {c : Nat} (h : c ∈ (List.replicate n a).flatten) : c ∈ a := by
  rw [List.mem_flatten] at h
  obtain ⟨l, hl, hc⟩ := h
  rw [List.mem_replicate] at hl
  exact hl.2 ▸ hc
theorem len_rep (a : List Nat) (n : Nat) : (List.replicate n a).flatten.length = n * a.length := by
  rw [List.length_flatten, List.map_replicate, List.sum_replicate_nat]
section
variable {P : Program} {w : World} {K : PySem.W.Frag} {mg : Str → Option Value} {base : Heap}
abbrev stwalk : Stmt := (top 52)
abbrev Nwalk : List Str := ["_law_pen_here", "_law_table", "_law_number", "_law_letters", "_law_found", "_law_turn", "_law_item", "_law_peer", "_law_sort", "_law_k"]
theorem scwalk : FnScope Nwalk ["_law_pen_here", "_law_table", "_law_number"] (defScope stwalk) := ⟨rfl, rfl, rfl, by decide +kernel, rfl, by decide +kernel, by decide +kernel⟩

theorem ok_walk (F : FnAt K mg "_law_walk" stwalk) (T : TxtH K mg) (D_draw : Def P w K mg base CX0 1 "_law_draw" ["_law_pen_here", "_law_number"] spDraw) (D_pick : Def P w K mg base CX0 2 "_law_pick" ["_law_pen_here", "_law_items"] spPick) : Def P w K mg base CX0 3 "_law_walk" ["_law_pen_here", "_law_table", "_law_number"] spWalk := by
  refine F.ok scwalk (fun _ _ _ _ _ _ us hl => match us, hl with | [_, _, _], _ => rfl) (fun vs H Q E h => ?_) (fun f cdv A outer s H vs Q E hr h => ?_)
  · obtain ⟨g, n, d, ls, f, num, rfl, _⟩ := h
    rfl
  obtain ⟨g, n, d, ls, fn, num, rfl, hp, hn, hdp, hd, tab, l0, hnum, k⟩ := h
  have hu := hu_of hr
  have nd := scwalk.nd
  replace D_draw := D_draw.mono (show 1 ≤ 2 by decide)
  have tl := tab.len
  refine ⟨_, (pss_cons (ps_par (i := 3) (j := 4) (by rfl) nd rfl rfl (by decide) rfl rfl (pa_cons (pe_callTy (call_list_dK rfl) (by rfl) T.list (by decide +kernel) (pa_cons (pv 1) pa_nil)) (pa_cons (pe_tx [] (by decide +kernel)) pa_nil)) (by rfl))
      (pss_cons (ps_for PassesOwn.never rfl (pi_range1 (by rfl) T.range (pa_cons (pe_cd D_draw hr pass0 (pa_cons (pv 0) (pa_cons pe_int pa_nil))) pa_nil)) (pg_name (i := 5) nd rfl (Or.inl rfl))
      (pss_cons (ps_par3 (i := 6) (j := 7) (l := 8) (by rfl) nd rfl rfl rfl (by decide) (by decide) (by decide) rfl rfl rfl (pa_cons (pe_cd D_pick hr pass0 (pa_cons (pv 0) (pa_cons (pv 3) pa_nil))) (pa_cons (pe_cd D_pick hr pass0 (pa_cons (pv 0) (pa_cons (pv 3) pa_nil))) (pa_cons (pe_cd D_draw hr pass0 (pa_cons (pv 0) (pa_cons pe_int pa_nil))) pa_nil))) (by rfl))
        (pss_one (ps_if (pt_cmpR op_eq (pv 8) pe_int (nomark _))
        (pss_one (ps_set (i := 4) nd rfl (Or.inl rfl) (pe_op op_addS (pv 4) (pe_op op_mulS (pe_op op_addS (pv 6) (pv 7)) (pe_op op_add pe_int (pe_cd D_draw hr pass0 (pa_cons (pv 0) (pa_cons pe_int pa_nil))))))))
        (pss_one (ps_if (pt_cmpR op_eq (pv 8) pe_int (nomark _))
          (pss_one (ps_set (i := 4) nd rfl (Or.inl rfl) (pe_op op_addS (pv 4) (pe_slice sl_S (pe_revS (pv 4)) po_none (po_some (pe_cd D_draw hr pass0 (pa_cons (pv 0) (pa_cons pe_int pa_nil))))))))
          (pss_one (ps_if (pt_cmpR op_eq (pv 8) pe_int (nomark _))
            (pss_one (ps_set (i := 4) nd rfl (Or.inl rfl) (pe_op op_addS (pe_op op_addS (pv 4) (pe_dget hu (pv 1) (pv 6) (fun _ _ => rfl))) (pv 6))))
            (pss_one (ps_for PassesOwn.never rfl (pi_range1 (by rfl) T.range (pa_cons (pe_op op_add pe_int (pe_cd D_draw hr pass0 (pa_cons (pv 0) (pa_cons pe_int pa_nil)))) pa_nil)) (pg_name (i := 9) nd rfl (Or.inl rfl))
              (pss_one (ps_set (i := 4) nd rfl (Or.inl rfl) (pe_op op_addS (pv 4) (pe_cd D_pick hr pass0 (pa_cons (pv 0) (pa_cons (pv 3) pa_nil))))))))))))))))
      (pss_one (ps_ret (pe_slice sl_S (pv 4) po_none (po_some (pv 2))))))), ?_⟩
  refine s_start [some _, some _, some _, none, none, none, none, none, none, none] rfl ?_
  walk_at "go"
  refine v_listD hd fun q H1 hq s1 e1 => ?_
  rw [tab_keys] at e1
  have nqp := hp.p_ne hq
  walk_at "go"
  refine ⟨g, 7, n, rfl, by omega, by omega, hp.same s1, by omega, fun zt H2 zt0 zt1 p2 k2 => ?_⟩
  have e2 := k2 _ _ e1 nqp.symm
  have kA : Keep g.p H H2 := fun b o hb nb => k2 _ _ (s1 _ _ hb) nb
  have ll : (ls.map fun c => V.str (tx [c])).length = ls.length := List.length_map _
  walk_at "go"
  have pk : ∀ v ∈ (ls.map fun c => V.str (tx [c])), ∃ c ∈ ls, v = V.str (tx [c]) := fun v hv => by
    obtain ⟨c, hc, e⟩ := List.mem_map.mp hv
    exact ⟨c, hc, e.symm⟩
  refine for_it (walk_rI (fun i => ((i : Nat) : Int)) (fun k => Int.zero_add _)) (fun i σ H' => ∃ x1 x2 x3 x4 x5, ∃ fd : List Nat, σ = [some (.ref g.p), some (.ref d), some (.int num), some (.ref q), some (.str (tx fd)), x1, x2, x3, x4, x5] ∧ PenAt g H' (n + 1 + 12 * i) ∧ Keep g.p H H' ∧ H' q = some (.lst (ls.map fun c => V.str (tx [c]))) ∧ fd.length ≤ 12 * i ∧ ∀ c ∈ fd, c ∈ ls) ⟨_, _, _, _, _, [], rfl, p2, kA, e2, by simp, by simp⟩ (fun _ _ _ _ _ => trivial) ?_ ?_
  · rintro i v σ H3 H4 hi ⟨x1, x2, x3, x4, x5, fd, rfl, p3, k3, e3, l3, m3⟩ ⟨rfl, rfl⟩
    have hi6 : i < 6 := by omega
    walk_at "go"
    refine ⟨g, _, q, _, rfl, e3, by omega, by omega, p3, by omega, nqp.symm, fun v1 H5 hv1 p5 k5 => ?_⟩
    obtain ⟨c1, hc1, rfl⟩ := pk v1 hv1
    have e5 := k5 _ _ e3 nqp.symm
    walk_at "go"
    refine ⟨g, _, q, _, rfl, e5, by omega, by omega, p5, by omega, nqp.symm, fun v2 H6 hv2 p6 k6 => ?_⟩
    obtain ⟨c2, hc2, rfl⟩ := pk v2 hv2
    have e6 := k6 _ _ e5 nqp.symm
    walk_at "go"
    refine ⟨g, 5, _, rfl, by omega, by omega, p6, by omega, fun so H7 so0 so1 p7 k7 => ?_⟩
    have e7 := k7 _ _ e6 nqp.symm
    have kB : Keep g.p H H7 := fun b o hb nb => k7 _ _ (k6 _ _ (k5 _ _ (k3 _ _ hb nb) nb) nb) nb
    have dB := kB _ _ hd hdp
    walk_at "go"
    refine if_dec (fun s0 => ?_) (fun s0 => ?_)
    · have l4 : [c1].length + [c2].length ≤ 1000000 := by simp
      walk_at "go"
      refine ⟨g, 5, _, rfl, by omega, by omega, p7, by omega, fun z H8 z0 z1 p8 k8 => ?_⟩
      walk_at "go"
      have zt : (1 + z).toNat ≤ 5 := by omega
      have z5 : [c1, c2].length * (1 + z).toNat ≤ 10 := by
        show 2 * _ ≤ _
        omega
      refine v_mulS (by omega) (by omega) (Nat.le_trans z5 (by decide)) ?_
      have rl := len_rep [c1, c2] (1 + z).toNat
      have rl2 : (List.replicate (1 + z).toNat [c1, c2]).flatten.length ≤ 10 := by
        rw [rl, Nat.mul_comm]
        exact z5
      refine v_addS (by show fd.length + (List.replicate (1 + z).toNat [c1, c2]).flatten.length ≤ _; omega) ?_
      walk_at "go"
      refine ⟨_, _, _, _, _, _, rfl, p8.mono (by omega), fun b o hb nb => k8 _ _ (kB _ _ hb nb) nb, k8 _ _ e7 nqp.symm, ?_, ?_⟩
      · rw [List.length_append]
        show fd.length + (List.replicate (1 + z).toNat [c1, c2]).flatten.length ≤ _
        omega
      · intro c hc
        rcases List.mem_append.mp hc with z | z
        · exact m3 c z
        · have := mem_rep z
          simp only [List.singleton_append, List.mem_cons, List.not_mem_nil, or_false] at this
          rcases this with rfl | rfl <;> assumption
    walk_at "go"
    refine if_dec (fun s1 => ?_) (fun s1 => ?_)
    · walk_at "go"
      refine ⟨g, 6, _, rfl, by omega, by omega, p7, by omega, fun z H8 z0 z1 p8 k8 => ?_⟩
      walk_at "go"
      refine v_slTo (by rw [List.length_reverse]; omega) z0 ?_
      have rl : (fd.reverse.take z.toNat).length ≤ 5 := by rw [List.length_take]; omega
      refine v_addS (by omega) ?_
      walk_at "go"
      refine ⟨_, _, _, _, _, _, rfl, p8.mono (by omega), fun b o hb nb => k8 _ _ (kB _ _ hb nb) nb, k8 _ _ e7 nqp.symm, ?_, ?_⟩
      · rw [List.length_append]
        omega
      · intro c hc
        rcases List.mem_append.mp hc with z | z
        · exact m3 c z
        · exact m3 c (List.mem_reverse.mp (List.mem_of_mem_take z))
    walk_at "go"
    refine if_dec (fun s2 => ?_) (fun s2 => ?_)
    · walk_at "go"
      refine v_dget (tab_get dB hc1) ?_
      have gl := tab.gl _ hc1
      have l5 : (fd ++ fn c1).length + [c1].length ≤ 1000000 := by
        rw [List.length_append, List.length_singleton]
        omega
      walk_at "go"
      refine ⟨_, _, _, _, _, _, rfl, p7.mono (by omega), kB, e7, ?_, ?_⟩
      · rw [List.length_append, List.length_append, List.length_singleton]
        omega
      · intro c hc
        rcases List.mem_append.mp hc with z | z
        · rcases List.mem_append.mp z with z | z
          · exact m3 c z
          · exact (tab.sub c1 hc1 c z).1
        · rw [List.mem_singleton.mp z]
          exact hc1
    walk_at "go"
    refine ⟨g, 6, _, rfl, by omega, by omega, p7, by omega, fun z H8 z0 z1 p8 k8 => ?_⟩
    walk_at "go"
    refine for_it (walk_rI (fun i => ((i : Nat) : Int)) (fun k => Int.zero_add _)) (fun j σ H' => ∃ x5, ∃ fd' : List Nat, σ = [some (.ref g.p), some (.ref d), some (.int num), some (.ref q), some (.str (tx fd')), some (.int (i : Nat)), some (.str (tx [c1])), some (.str (tx [c2])), some (.int so), x5] ∧ PenAt g H' (n + 1 + 12 * i + 4 + j) ∧ Keep g.p H H' ∧ H' q = some (.lst (ls.map fun c => V.str (tx [c]))) ∧ fd'.length ≤ 12 * i + j ∧ ∀ c ∈ fd', c ∈ ls) ⟨_, fd, rfl, p8, fun b o hb nb => k8 _ _ (kB _ _ hb nb) nb, k8 _ _ e7 nqp.symm, l3, m3⟩ (fun _ _ _ _ _ => trivial) ?_ ?_
    · rintro j v σ H9 H10 hj ⟨x5, fd', rfl, p9, k9, e9, l9, m9⟩ ⟨rfl, rfl⟩
      have hj6 : j < 6 := by omega
      walk_at "go"
      refine ⟨g, _, q, _, rfl, e9, by omega, by omega, p9, by omega, nqp.symm, fun v3 H11 hv3 p11 k11 => ?_⟩
      obtain ⟨c3, hc3, rfl⟩ := pk v3 hv3
      have l6 : fd'.length + [c3].length ≤ 1000000 := by
        rw [List.length_singleton]
        omega
      walk_at "go"
      refine ⟨_, _, rfl, p11, fun b o hb nb => k11 _ _ (k9 _ _ hb nb) nb, k11 _ _ e9 nqp.symm, ?_, ?_⟩
      · rw [List.length_append, List.length_singleton]
        omega
      · intro c hc
        rcases List.mem_append.mp hc with z | z
        · exact m9 c z
        · rw [List.mem_singleton.mp z]
          exact hc3
    · rintro σ H9 ⟨x5, fd', rfl, p9, k9, e9, l9, m9⟩
      exact ⟨_, _, _, _, _, fd', rfl, p9.mono (by omega), k9, e9, by omega, m9⟩
  rintro σ H3 ⟨x1, x2, x3, x4, x5, fd, rfl, p3, k3, e3, l3, m3⟩
  walk_at "go"
  refine v_slTo (by omega) (by omega) ?_
  refine k _ H3 (fun c hc => m3 c (List.mem_of_mem_take hc)) ?_ (p3.mono (by omega)) k3
  rw [List.length_take]
  omega
end
end Cw
set_option Elab.async false
set_option linter.all false
set_option maxRecDepth 100000
set_option maxHeartbeats 4000000
/-! ''.join(d): the keys of a dict, one behind another -/
namespace PySem
open Builtin Builtin.Str
theorem keyit_len : typeLookup (.type "dict_keyiterator") "__len__" = pure none := by rw [typeLookup_type, builtinLookup_eq_fast]; kernel_rfl
section
variable {prog : Program} {w : World} {A : Around} {E : Value → Shared → Prop} {s : Shared} {J : Addr} {fp wr : List Addr} {G : Array GenState → Array GenState → Prop} {m : Nat} {P : Nat → Value → Prop} {Z : Nat → Shared → Prop}
theorem collect_keyit {Q : List Value → Shared → Prop} (W : WalksS prog w A.in1 J fp wr G m P Z) (ty : ∀ i s, Z i s → s.TypeIs (.ref J) "dict_keyiterator") (z0 : Z 0 s) (lt : ∀ b ∈ fp, b < s.heap.objs.size) (mem : J ∈ fp) (sz : m ≤ sizeLine)
    (hQ : ∀ s' acc, Moved wr G s s' → ItemsOf P acc m → Q acc.toList s') : wpAny (model prog w) A (collect (.ref J)) Q E s := by
  have out : s.heap.objs.size ∉ fp := fun z => absurd (lt _ z) (Nat.lt_irrefl _)
  have ne : s.heap.objs.size ≠ J := fun z => out (z.symm ▸ mem)
  let L : Obj := { cls := .type "list", data := .seq ([] : List Value).toArray }
  have z1 := W.frame 0 s (s.heap.push L) s.toks z0 (Nat.le_refl _) fun _ _ _ e => Heap.get?_push_of_some _ e
  have at1 : (s.heap.push L).get? s.heap.objs.size = some L := Heap.get?_push_size _ rfl
  have t1 := ty 0 _ z1
  have d1 : Builtin.List.listSameRef (.ref s.heap.objs.size) (.ref J) = false := by simp [Builtin.List.listSameRef, ne]
  unfold collect
  apply wpAny_bind
  apply wpAny_runValue
  apply codeAny_builtin F.entry_proto_collect
  rw [show A.under (.builtin "proto.collect" ⟨[.ref J], []⟩) = A.in1 from Around.under_plainId F.plain_proto_collect _]
  show wpAny (model prog w) A.in1 (newList [] >>= fun l => again (.builtin "list.__iadd__" ⟨[l, Value.ref J], []⟩)) _ _ s
  refine wpAny_bind (wpAny_newObj_type (wpAny_pure ⟨plainId_quiet F.plain_list_iadd _, (?_ : codeAny _ _ _ _ _)⟩))
  apply codeAny_builtin F.entry_list_iadd
  rw [show A.under (.builtin "list.__iadd__" ⟨[.ref s.heap.objs.size, .ref J], []⟩) = A.in1 from Around.under_plainId F.plain_list_iadd _]
  show wpAny (model prog w) A.in1 (Builtin.List.listExtendWith (.ref s.heap.objs.size) (.ref J) (.ref s.heap.objs.size)) _ _ { s with heap := s.heap.push L }
  unfold Builtin.List.listExtendWith
  apply wpAny_bind
  refine wpAny_typeOf t1 ?_
  rw [if_neg (show ¬ _ by rw [d1]; decide)]
  apply wpAny_bind
  refine W.self 0 _ _ _ z1 ?_
  apply wpAny_bind
  apply wpAny_holding
  unfold Builtin.List.listLengthHint
  apply wpAny_bind
  refine wpAny_specialOf t1 keyit_len ?_
  show wpAny (model prog w) A.in1 (specialOf (Value.ref J) (Str.ofString "__length_hint__") >>= fun _ => _) _ _ _
  apply wpAny_bind
  refine wpAny_specialOf t1 F.slot_dict_keyiterator_length_hint.lookup ?_
  generalize hj : ("dict_keyiterator.__length_hint__" : String) = jd
  wp_delta
  rw [show splitId jd = some ("dict_keyiterator", "__length_hint__") by subst hj; decide +kernel]
  subst hj
  apply wpAny_bind
  refine wpAny_isInstance (b := true) t1 (by rw [isSubtype_type]; kernel_rfl) ?_
  apply wpAny_pure
  rw [if_neg (by decide)]
  apply wpAny_pure
  refine ⟨plainId_quiet F.plain_extend_loop _, codeAny_extend_loopS W sz _ out _ m 0 _ _ _ rfl (Nat.zero_le _) z1 at1 (ItemsOf.nil P) fun s2 acc c mv at2 items => ?_⟩
  apply wpAny_bind
  refine wpAny_load at2 ?_
  apply wpAny_pure
  exact hQ s2 acc (Moved.drop_new (o := L) (tk := s.toks) mv (Nat.le_refl _)) items
end
section
variable {prog : Program} {w : World} {A : Around} {E : Value → Shared → Prop} {s : Shared} {sep : Str} {t : Tok} {Q : Value → Shared → Prop}
theorem join_keys {K : Type} [DecidableEq K] {knd : KeyKind prog w K} {d : Addr} {kvs : List (K × Value)} {ep : Nat} (nf : A.handled = none) (lo : (d == sysModules) = false) (hm : s.heap.DictAt knd d kvs ep) (sz : kvs.length ≤ sizeLine)
    (str : ∀ (i : Nat) (k : K) (x v : Value), kvs[i]? = some (k, x) → knd.is k v = true → ∃ y u, v = Value.str y u)
    (hq : ∀ h' (l : List (Str × Tok)), (∀ b o, s.heap.get? b = some o → h'.get? b = some o) → ItemsOf (fun (i : Nat) v => ∃ k x, kvs[i]? = some (k, x) ∧ knd.is k v = true) (strValues l).toArray kvs.length → JoinOk sep (l.map (·.1)) = true ∧ ∀ t' k, Q (.str (Txt.join sep (l.map (·.1))) t') { s with heap := h', toks := k }) :
    wpAny (model prog w) A (call (.builtin "str.join") [.str sep t, .ref d]) Q E s := by
  apply wpAny_call
  refine codeAny_call_builtin F.slot_str_join.plain F.entry_str_join (F.slot_str_join.check _ _ _ _ _ _ _ _ (typeIs_str _ _ _) (F.args_str_join_2 _ _) ?_)
  rw [join_tree_other]
  apply wpAny_bind
  refine wpAny_typeOf hm.dictOf.typeIs ?_
  show wpAny (model prog w) A.in1 ((pyIter (.ref d)).tryCatch _ >>= fun it => collect it >>= fun xs => joinTail sep xs) _ _ s
  apply wpAny_bind
  apply wpAny_tryCatch
  refine wpAny_pyIter_dict lo hm ?_
  have ne : d ≠ s.heap.objs.size := Nat.ne_of_lt hm.lt_size
  have W := (Walks.dictKeys (knd := knd) (A := A.in1.in1) nf s.heap.objs.size d ne kvs ep).toS
  apply wpAny_bind
  refine collect_keyit W (fun _ _ st => st.1.typeIs) ⟨⟨_, Heap.get?_push_size _ rfl, rfl, rfl⟩, hm.push _⟩ (fun b hb => ?_) (by simp) sz fun s2 acc mv items => ?_
  · rcases List.mem_cons.mp hb with rfl | hb
    · exact Heap.lt_size (Heap.get?_push_size _ rfl)
    · rw [List.mem_singleton.mp hb]
      exact (hm.push _).lt_size
  obtain ⟨l, hl⟩ := exists_strValues acc.toList fun v hv => by
    obtain ⟨j, hj, rfl⟩ := Array.mem_iff_getElem.mp (Array.mem_toList_iff.mp hv)
    obtain ⟨k, x, e1, e2⟩ := items.2 j _ (Array.getElem?_eq_getElem hj)
    exact str j k x _ e1 e2
  have items : ItemsOf (fun (i : Nat) v => ∃ k x, kvs[i]? = some (k, x) ∧ knd.is k v = true) (strValues l).toArray kvs.length := by
    rw [hl]
    simpa using items
  rw [← hl]
  have same : ∀ k, ({ s2 with toks := k } : Shared) = { s with heap := s2.heap, toks := k } := by
    intro k
    obtain ⟨g1, g2, g3⟩ : s2.gens = s.gens ∧ s2.drawn = s.drawn ∧ s2.os = s.os := ⟨mv.gens, mv.drawn, mv.os⟩
    obtain ⟨hp, g, d, tk, os⟩ := s2
    obtain ⟨hp0, g0, d0, tk0, os0⟩ := s
    simp only at g1 g2 g3
    subst g1; subst g2; subst g3
    rfl
  obtain ⟨jk, post⟩ := hq s2.heap l (fun b o e => mv.heap b o (fun z => absurd (Heap.lt_size e) (by rw [List.mem_singleton.mp z]; exact Nat.lt_irrefl _)) (Heap.get?_push_of_some _ e)) items
  have jk' := jk
  unfold JoinOk at jk'
  rw [Bool.not_eq_true'] at jk'
  have g1 : Gives (joinTail sep (strValues l)) (joinMade sep l) := by
    clear post items hl
    have z := gives_joinTail sep l jk'
    rcases l with _ | ⟨a, _ | ⟨b, r⟩⟩
    · exact z
    · exact z
    · exact z
  exact g1 prog w A (wants Q E) s2 (post_join l ⟨joinFit_length jk', fun t' k => by rw [same k]; exact post t' k⟩)
end
end PySem

namespace Cw
open PySem PySem.Spec L2 PyProof.Rows
section
variable {X : Cx} {K : PySem.W.Frag}
/-- the letters that are the keys of a dict -/
def rJoinD : V → List V → Hp → VK → Prop := fun x xs H Q => ∃ (p : Addr) (ls : List Nat) (g : Nat → V), x = .str (tx []) ∧ xs = [.ref p] ∧ H p = some (.dK (ls.map fun c => ((Sum.inr (tx [c]) : Key), g c))) ∧ ls.length ≤ 1000 ∧ Q (.str (tx ls)) H
theorem mt_joinD (hc : X.calm = true) : MtR X "str.join" rJoinD := by
  intro pins s σ H x xs v us Q I rx rs h
  obtain ⟨p, ls, g, rfl, rfl, hp, hl, h⟩ := h
  obtain ⟨t, rfl⟩ := rx
  cases rs with
  | cons r1 rs =>
    cases rs
    cases r1
    obtain ⟨z, lo, vs, rk, hd⟩ := (show ObjOk X.prog X.w H s.heap p (.dK _) from I.hok p _ hp)
    obtain ⟨ep, hat⟩ := hd.dictAt
    have len : vs.length = ls.length := by
      have := Paired.length rk
      rw [List.length_map] at this
      exact this.symm
    have key : ∀ (i : Nat) (k : Key) (y : Value), vs[i]? = some (k, y) → ∃ c, ls[i]? = some c ∧ k = Sum.inr (tx [c]) := by
      intro i k y e
      have e1 := KV.keys rk
      have e2 : (vs.map (·.1))[i]? = some k := by rw [List.getElem?_map, e]; rfl
      rw [← e1, List.map_map, List.getElem?_map] at e2
      cases hc : ls[i]? with
      | none => rw [hc] at e2; cases e2
      | some c =>
        rw [hc] at e2
        injection e2 with e2
        exact ⟨c, rfl, e2.symm⟩
    refine join_keys (knd := mixKind X.prog X.w) (I.ok.hd hc) lo hat (by rw [len]; exact szl (by omega)) (fun i k y u e1 e2 => ?_) (fun h' l hk items => ?_)
    · obtain ⟨c, _, rfl⟩ := key i k y e1
      have e2 : keyIs (Sum.inr (tx [c])) u = true := e2
      rcases keyIs_shape e2 with ⟨j, t, e, _⟩ | ⟨x, t, _, e⟩
      · cases e
      · exact ⟨x, t, e⟩
    · have l1 : l.length = ls.length := by
        have := items.1
        rw [len] at this
        simpa [strValues] using this
      have e : l.map (·.1) = (ls.map fun c => [c]).map tx := by
        apply List.ext_getElem?
        intro j
        rw [List.map_map, List.getElem?_map, List.getElem?_map]
        cases hj : l[j]? with
        | none =>
          have := List.getElem?_eq_none_iff.mp hj
          rw [List.getElem?_eq_none (by omega)]
          rfl
        | some q =>
          obtain ⟨k, y, e1, e2⟩ := items.2 j (.str q.1 q.2) (by simp [strValues, hj])
          obtain ⟨c, hc, rfl⟩ := key j k y e1
          rw [hc]
          have e2 : keyIs (Sum.inr (tx [c])) (.str q.1 q.2) = true := e2
          rcases keyIs_shape e2 with ⟨_, _, e, _⟩ | ⟨x, t, ex, e⟩
          · cases e
          · injection ex with ex
            injection e with e _
            show some q.1 = some (tx [c])
            rw [e, ← ex]
      have fl : (ls.map fun c => [c]).flatten = ls := by
        clear e l1 items key len hd lo z hp h hl rk
        induction ls with
        | nil => rfl
        | cons c r ih => rw [List.map_cons, List.flatten_cons, ih]; rfl
      rw [e, join_empty, fl]
      refine ⟨?_, fun t' k => ⟨.str (tx ls), H, I.kept hk, ⟨t', rfl⟩, h⟩⟩
      refine joinOk_of ?_
      rw [List.map_map, List.map_map]
      have s1 : (ls.map (Str.length ∘ tx ∘ fun c => [c])).sum = ls.length := by
        clear e l1 items key len hd lo z hp h hl rk fl
        induction ls with
        | nil => rfl
        | cons c r ih =>
          rw [List.map_cons, List.sum_cons, ih, List.length_cons]
          show (tx [c]).length + r.length = _
          rw [tx_len, List.length_singleton]
          omega
      have s2 : (tx []).length = 0 := by rw [tx_len]; rfl
      rw [s2, Nat.mul_zero, Nat.add_zero]
      exact Nat.le_trans (Nat.le_of_eq s1) (by omega)
theorem pe_joinD {o e : Expr} {to te : TE} {apos pos : PySem.Pos} (hc : X.calm = true) (ho : PE X o to) (he : PE X e te) (hs : starEach [e] X.env = [(false, eval e X.env)] := by rfl) (hbase : attributeBase o "join" X.env (eval o X.env) = eval o X.env := by rfl) (hline : (apos.endLine == pos.line) = true := by rfl) :
    PE X (.Call (.Attribute o "join" apos) [e] [] pos) (tM1 rJoinD to te) := pe_m1 PySem.F.slot_str_join PySem.F.type_str_join (mt_joinD hc) ho he hs hbase hline
theorem v_joinD {H : Hp} {Q : VK} {p : Addr} {ls : List Nat} {g : Nat → V} (h : H p = some (.dK (ls.map fun c => ((Sum.inr (tx [c]) : Key), g c)))) (l : ls.length ≤ 1000) (q : Q (.str (tx ls)) H) : rJoinD (.str (tx [])) [.ref p] H Q := ⟨p, ls, g, rfl, rfl, h, l, q⟩
end
/-- a, b, .. = a list -/
theorem pg_lstK {X : Cx} {K : PySem.W.Frag} {es : List Expr} {k : Nat} {t : TGs} {n : Nat} {pos : PySem.Pos} (h : X.K = K) (hc : X.calm = true) (g : PGs X es t) (hn : (assignEach es X.env).length = n := by rfl) (hst : (assignEach es X.env).findIdx? (·.1) = none := by rfl) : PG X (.Tuple es k pos) (gLst K n t) := h ▸ pg_lst hc g hn hst
theorem v_gLst3 {K : PySem.W.Frag} {n i j l : Nat} {σ : L2.St} {H : Hp} {Q : L2.St → Hp → Prop} {p : Addr} {a b c : V} (hn : n = 3) (h : H p = some (.lst [a, b, c])) (q : Q (((σ.set i (some a)).set j (some b)).set l (some c)) H) : gLst K n (gCons (gName i) (gCons (gName j) (gCons (gName l) gNil))) (.ref p) σ H Q :=
  ⟨p, _, rfl, SqL.of h, hn.symm, a, [b, c], rfl, b, [c], rfl, c, [], rfl, rfl, q⟩
/-- [e for x in ..]: e makes new objects; Rel tells of each item what it is -/
theorem lc_mapA {σ : L2.St} {H : Hp} {i : Nat} {tt : TT} {te : TE} {P : Addr → Hp → Prop} {J : It} {n : Nat} {G : Hp → Prop} {it : Nat → V} (Rel : Nat → V → Hp → Prop) (w : Walk J n G (fun k H x H' => H' = H ∧ x = it k)) (hG : ∀ H', Same H H' → G H') (hn : n ≤ 1000000)
    (m1 : ∀ k v H1 H2, Rel k v H1 → Same H1 H2 → Rel k v H2) (m2 : ∀ k v H1 H2 D l, Rel k v H1 → H1 D = some (.lst l) → Keep D H1 H2 → Rel k v H2)
    (ht : ∀ k, k < n → ∀ H1, Same H H1 → ∀ R : Bool → Hp → Prop, (∀ H2, Same H1 H2 → R true H2) → tt ((wipe σ [i]).set i (some (it k))) H1 R)
    (he : ∀ k, k < n → ∀ H1, Same H H1 → ∀ R : VK, (∀ v H2, Same H1 H2 → Rel k v H2 → R v H2) → te ((wipe σ [i]).set i (some (it k))) H1 R)
    (q : ∀ D H' vs, H D = none → Same H H' → H' D = some (.lst vs) → vs.length = n → (∀ k v, vs[k]? = some v → Rel k v H') → P D H') :
    ∀ D, H D = none → ∃ W : Nat → Nat → Hp → Prop, (∃ m, W 0 m (upd H D (.lst []))) ∧ ∀ k m H, W k m H →
      (J.stop k H ∧ P D H) ∨ (J.go k H ∧ ∃ Nx : Hp → Prop, (∀ H', Nx H' → ∃ m', m' < m ∧ W (k + 1) m' H') ∧ ∀ x H', J.yld k H x H' → (gName i) x (wipe σ [i]) H' fun s2 H2 => wipe s2 [i] = wipe σ [i] ∧ tt s2 H2 fun c H3 =>
        if c = true then te s2 H3 fun y H4 => ∃ acc, H4 D = some (.lst acc) ∧ acc.length < sizeLine ∧ Nx (upd H4 D (.lst (acc ++ [y]))) else Nx H3) := by
  intro D hD
  refine lc_it w (vs := [i]) (σ := σ) (g := gName i) (tt := tt) (te := te) (Qd := fun H' => P D H') (fun k H' => Same H H' ∧ ∃ vs, H' D = some (.lst vs) ∧ vs.length = k ∧ ∀ j v, vs[j]? = some v → Rel j v H')
    ⟨Same.new hD, [], upd_same, rfl, fun j v z => by simp at z⟩ (fun k H' _ p => hG H' p.1) (fun k x H1 H2 hk p y => ?_) (fun H' p => ?_)
  · obtain ⟨p1, vs, p2, p3, p4⟩ := p
    obtain ⟨rfl, rfl⟩ := y
    refine ⟨wipe1, ht k hk _ p1 _ fun H3 s3 => ?_⟩
    rw [if_pos rfl]
    refine he k hk _ (p1.trans s3) _ fun v H4 s4 r4 => ?_
    have e4 := s4 _ _ (s3 _ _ p2)
    refine ⟨vs, e4, szlt (by omega), fun a o ha => ?_, vs ++ [v], upd_same, by rw [List.length_append, p3]; rfl, fun j u hj => ?_⟩
    · rw [upd_ne (ne_of_none ha hD)]
      exact s4 _ _ (s3 _ _ (p1 _ _ ha))
    · by_cases c : j < vs.length
      · rw [List.getElem?_append_left c] at hj
        exact m2 _ _ _ _ D vs (m1 _ _ _ _ (p4 j u hj) (s3.trans s4)) e4 Keep.put
      · have e : j = vs.length := by
          have := (List.getElem?_eq_some_iff.mp hj).1
          rw [List.length_append, List.length_singleton] at this
          omega
        rw [e, List.getElem?_append_right (Nat.le_refl _), Nat.sub_self] at hj
        injection hj with hj
        rw [e, ← hj, p3]
        exact m2 _ _ _ _ D vs r4 e4 Keep.put
  · obtain ⟨p1, vs, p2, p3, p4⟩ := p
    exact q D H' vs hD p1 p2 p3 p4
section
variable {σ : L2.St} {H : Hp} {Q : VK} {te ta : TE} {D : Ends} {K : PySem.W.Frag} {n : Nat} {t : TGs}
theorem s_asgL (q : te σ H fun v H1 => gLst K n t v σ H1 fun σ2 H2 => D.nx σ2 H2) : tAsg te (gLst K n t) D σ H := q
theorem e_MN {C : Addr} {m : Str} {sp : Sp} {n l : Nat} {ss : List Src} {dvs : List V} {E : XK} {t tk : TA} (q : ta σ H fun x H1 => ∃ a dx fs, x = .ref a ∧ H1 a = some (.ins C dx fs) ∧ fs.lookup m = none ∧ t σ H1 fun vs H2 => tk σ H2 fun zs H3 => vs.length = n ∧ zs.length = l ∧ sp (x :: gS ss vs dvs zs) H3 Q E) : tMN C m sp n l ss dvs E ta t tk σ H Q := q
end
end Cw
set_option Elab.async false
set_option linter.all false
set_option maxRecDepth 100000
set_option maxHeartbeats 4000000
namespace Cw
open PySem PySem.Spec L2
local macro_rules | `(tactic| walk_at "side") => `(tactic| first | omega | assumption | (dsimp only; omega) | (unfold CMul; omega) | exact ⟨by decide, by decide, by decide⟩ | exact wdiv (by first | assumption | decide | omega) (by first | assumption | decide | omega) | (simp only [List.length_cons, List.length_nil]; omega) | rfl)
local macro_rules | `(tactic| walk_at "hl") => `(tactic| first | assumption | exact upd_same | ((refine Cw.Same.at (by assumption) ?_); walk_at "hl") | ((refine Cw.Keep.at (by assumption) ?_ (by assumption)); walk_at "hl"))
local macro_rules | `(tactic| walk_at "st") => `(tactic| first
  | (with_reducible refine s_seq ?_) | (with_reducible refine g_nm ?_) | (with_reducible refine s_next ?_) | (with_reducible refine s_set ?_) | (with_reducible refine s_drop ?_) | (with_reducible refine s_ret ?_) | (with_reducible refine s_if ?_)
  | ((with_reducible refine e_varG ?_); refine ⟨_, (by with_unfolding_all rfl), ?_⟩) | (with_reducible refine e_c ?_) | (with_reducible refine e_op ?_) | (with_reducible refine e_un ?_)
  | (with_reducible refine e_cons ?_) | (with_reducible refine e_nil ?_) | (with_reducible refine e_cb ?_) | (with_reducible refine e_call ?_) | (with_reducible refine e_md ?_)
  | (with_reducible refine t_test ?_) | (with_reducible refine t_B ?_) | (with_reducible refine t_and ?_) | (with_reducible refine t_or ?_) | (with_reducible refine t_not ?_)
  | (with_reducible refine e_andV ?_) | (with_reducible refine e_orV ?_) | (with_reducible refine e_notV ?_) | (with_reducible refine e_if ?_)
  | (with_reducible refine v_I0 ?_) | ((with_reducible refine v_I ?c ?_); try (case c => walk_at "side")) | (with_reducible refine v_bl ?_)
  | ((with_reducible refine v_eq ?c ?_); (case c => with_unfolding_all rfl)) | ((with_reducible refine v_ne ?c ?_); (case c => with_unfolding_all rfl))
  | (with_reducible refine v_inti ?_) | (with_reducible refine v_intb ?_) | ((with_reducible refine v_lenG ?_); refine ⟨_, (by walk_at "hl"), ?_⟩)
  | ((with_reducible refine v_lenS ?c ?_); try (case c => walk_at "side"))
  | (with_reducible refine e_dnew ?_) | (with_reducible refine e_dget ?_) | (with_reducible refine s_dput ?_) | (with_reducible refine e_lst ?_) | (with_reducible refine e_tup ?_)
  | ((with_reducible refine v_lst ?c ?_); (case c => walk_at "side")) | ((with_reducible refine v_tup ?c ?_); (case c => walk_at "side"))
  | ((with_reducible refine v_dgetG ?_); refine ⟨_, (by assumption), ?_⟩)
  | (with_reducible refine e_sl ?_) | (with_reducible refine e_nopart ?_) | (with_reducible refine e_part ?_) | (with_reducible refine e_m1 ?_) | (with_reducible refine v_isS ?_) | (with_reducible refine v_int ?_)
  | (with_reducible refine e_lc ?_) | (with_reducible refine e_iStr ?_) | (with_reducible refine e_iEnumS ?_) | (with_reducible refine v_iEnumS ?_) | (with_reducible refine v_str ?_) | (with_reducible refine e_yes ?_) | (with_reducible refine e_fld ?_) | (with_reducible refine e_sfld ?_)
  | ((with_reducible refine v_addS ?c ?_); try (case c => walk_at "side")) | (with_reducible refine v_inS ?_) | (with_reducible refine v_notInS ?_) | (with_reducible refine v_ltS ?_)
  | ((with_reducible refine v_inLG ?_); refine ⟨_, (by walk_at "hl"), ?_⟩) | (with_reducible refine v_isiS ?_) | (with_reducible refine e_revS ?_) | ((with_reducible refine v_revS ?c ?_); try (case c => walk_at "side"))
  | ((with_reducible refine v_lenSetG ?_); refine ⟨_, (by walk_at "hl"), ?_⟩)
  | (with_reducible refine e_bm ?_) | (with_reducible refine e_bm0 ?_) | ((with_reducible refine v_tyLG ?_); refine ⟨_, (by walk_at "hl"), ?_⟩)
  | (with_reducible refine iteNT ?_) | (with_reducible refine iteNF ?_) | (with_reducible refine e_for ?_)
  | (with_reducible refine e_iL ?_) | (with_reducible refine e_iT ?_) | ((with_reducible refine v_iLG ?_); refine ⟨_, (by walk_at "hl"), ?_⟩) | (with_reducible refine e_iR1 ?_) | ((with_reducible refine v_iR1 ?c1 ?c2 ?_); try (case c1 => walk_at "side"); try (case c2 => walk_at "side"))
  | (with_reducible refine e_iR2 ?_) | ((with_reducible refine v_iR2 ?c1 ?_); try (case c1 => walk_at "side"))
  | (with_reducible refine e_pr0 ?_) | (with_reducible refine e_pr ?_) | (with_reducible refine e_disp ?_) | (with_reducible refine s_asgT ?_) | (with_reducible refine e_tryA ?_) | (with_reducible refine e_callS ?_) | (with_reducible refine e_mdS ?_) | (with_reducible refine e_par ?_) | (with_reducible refine v_par ?_) | (with_reducible refine e_par3 ?_) | (with_reducible refine v_par3 ?_) | (with_reducible refine e_iK ?_) | (with_reducible refine e_dnotin ?_)
  | (with_reducible refine iteT ?_) | (with_reducible refine iteF ?_))
local macro_rules | `(tactic| walk_at "go") => `(tactic| repeat walk_at "st")
def spPickS : Sp := fun vs H Q _ => ∃ (g : Pen) (n : Nat) (l : List Nat), vs = [.ref g.p, .str (tx l)] ∧ 0 < l.length ∧ l.length < 1000000 ∧ PenAt g H n ∧ n < 1000000 ∧
  ∀ c H', c ∈ l → PenAt g H' (n + 1) → Keep g.p H H' → Q (.str (tx [c])) H'
def spBegun : Sp := fun vs H Q _ => ∃ (g : Pen) (n : Nat) (d : Addr) (ls : List Nat) (f : Nat → List Nat) (num size : Nat), vs = [.ref g.p, .ref d, .int num, .int size] ∧ PenAt g H n ∧ n < 800000 ∧ d ≠ g.p ∧ H d = some (.dK (tabKV ls f)) ∧ Tab ls f ∧ 0 < ls.length ∧ num ≤ 900 ∧ size ≤ 900 ∧
  ∀ (l : List Nat) H', (∀ c ∈ l, c ∈ ls) → l.length ≤ max num size → PenAt g H' (n + 101) → Keep g.p H H' → Q (.str (tx l)) H'
def posV (ls : List Nat) (v : Nat → Int) : Nat → Int := if ∃ x ∈ ls, v x < 0 then fun x => - v x else v
def spPositive : Sp := fun vs H Q _ => ∃ (m : Addr) (ls : List Nat) (v : Nat → Int), vs = [.ref m] ∧ H m = some (.tup (vecV ls v)) ∧ 0 < ls.length ∧ ls.length ≤ 1000 ∧ ∀ p H', Same H H' → H' p = some (.tup (vecV ls (posV ls v))) → Q (.ref p) H'
def spBeside : Sp := fun vs H Q _ => ∃ (g : Pen) (n : Nat) (d : Addr) (ls : List Nat) (f : Nat → List Nat) (k : Nat), vs = [.ref g.p, .ref d, .str (tx [k])] ∧ PenAt g H n ∧ n < 800000 ∧ d ≠ g.p ∧ H d = some (.dK (tabKV ls f)) ∧ Tab ls f ∧ k ∈ ls ∧
  ∀ (l : List Nat) H', (∀ c ∈ l, c ∈ f k) → l.length ≤ 4 → PenAt g H' (n + 10) → Keep g.p H H' → Q (.str (tx l)) H'
section
variable {P : Program} {w : World} {K : PySem.W.Frag} {mg : Str → Option Value} {base : Heap} {C R O W : Addr}
abbrev stpickS : Stmt := (top 48)
abbrev NpickS : List Str := ["_law_pen_here", "_law_items"]
theorem scpickS : FnScope NpickS ["_law_pen_here", "_law_items"] (defScope stpickS) := ⟨rfl, rfl, rfl, by decide +kernel, rfl, by decide +kernel, by decide +kernel⟩

theorem ok_pickS (F : FnAt K mg "_law_pick" stpickS) (T : Txt K mg) (D_draw : Def P w K mg base CX0 1 "_law_draw" ["_law_pen_here", "_law_number"] spDraw) : Def P w K mg base CX0 2 "_law_pick" ["_law_pen_here", "_law_items"] spPickS := by
  refine F.ok scpickS (fun _ _ _ _ _ _ us hl => match us, hl with | [_, _], _ => rfl) (fun vs H Q E h => ?_) (fun f cdv A outer s H vs Q E hr h => ?_)
  · obtain ⟨g, n, l, rfl, _⟩ := h
    rfl
  obtain ⟨g, n, l, rfl, h0, h1, hp, hn, k⟩ := h
  have hu := hu_of hr
  have nd := scpickS.nd
  refine ⟨_, (pss_one (ps_ret (pe_ix ix_str (pv 1) (pe_cd D_draw hr pass0 (pa_cons (pv 0) (pa_cons (pe_callB c_lenS (by rfl) T.len PySem.boot_len (pa_cons (pv 1) pa_nil)) pa_nil))) (fun _ _ => rfl)))), ?_⟩
  refine s_start [some _, some _] rfl ?_
  have l1 : l.length ≤ 1000000 := by omega
  walk_at "go"
  refine ⟨g, l.length, n, rfl, by omega, by omega, hp, hn, fun z H1 z0 z1 p1 k1 => ?_⟩
  walk_at "go"
  have hz : z.toNat < l.length := by omega
  have ez : z = ((z.toNat : Nat) : Int) := by omega
  refine v_ixS (c := l[z.toNat]) l1 ?_ ?_
  · have := atI_nat (List.getElem?_eq_getElem hz)
    rw [← ez] at this
    exact this
  exact k _ H1 (List.getElem_mem hz) p1 k1
abbrev stbegun : Stmt := (top 53)
abbrev Nbegun : List Str := ["_law_pen_here", "_law_table", "_law_number", "_law_size", "_law_found"]
theorem scbegun : FnScope Nbegun ["_law_pen_here", "_law_table", "_law_number", "_law_size"] (defScope stbegun) := ⟨rfl, rfl, rfl, by decide +kernel, rfl, by decide +kernel, by decide +kernel⟩

theorem ok_begun (F : FnAt K mg "_law_begun" stbegun) (D_draw : Def P w K mg base CX0 1 "_law_draw" ["_law_pen_here", "_law_number"] spDraw) (D_walk : Def P w K mg base CX0 3 "_law_walk" ["_law_pen_here", "_law_table", "_law_number"] spWalk) : Def P w K mg base CX0 4 "_law_begun" ["_law_pen_here", "_law_table", "_law_number", "_law_size"] spBegun := by
  refine F.ok scbegun (fun _ _ _ _ _ _ us hl => match us, hl with | [_, _, _, _], _ => rfl) (fun vs H Q E h => ?_) (fun f cdv A outer s H vs Q E hr h => ?_)
  · obtain ⟨g, n, d, ls, f, num, size, rfl, _⟩ := h
    rfl
  obtain ⟨g, n, d, ls, fn, num, size, rfl, hp, hn, hdp, hd, tab, l0, hnum, hsize, k⟩ := h
  have hu := hu_of hr
  have nd := scbegun.nd
  replace D_draw := D_draw.mono (show 1 ≤ 3 by decide)
  refine ⟨_, (pss_cons (ps_set (i := 4) nd rfl (Or.inl rfl) (pe_cd D_walk hr pass0 (pa_cons (pv 0) (pa_cons (pv 1) (pa_cons (pv 2) pa_nil)))))
      (pss_one (ps_ret (pe_ifExp (pt_cmpR op_eq (pe_cd D_draw hr pass0 (pa_cons (pv 0) (pa_cons pe_int pa_nil))) pe_int (nomark _)) (pe_slice sl_S (pe_op op_mulS (pv 4) (pv 3)) po_none (po_some (pv 3))) (pv 4))))), ?_⟩
  refine s_start [some _, some _, some _, some _, none] rfl ?_
  walk_at "go"
  refine ⟨g, n, d, ls, fn, num, rfl, hp, by omega, hdp, hd, tab, l0, by omega, fun l H1 m1 l1 p1 k1 => ?_⟩
  walk_at "go"
  refine ⟨g, 4, _, rfl, by omega, by omega, p1, by omega, fun z H2 z0 z1 p2 k2 => ?_⟩
  walk_at "go"
  refine if_dec (fun c => ?_) (fun c => ?_)
  · walk_at "go"
    have z5 : l.length * ((size : Nat) : Int).toNat ≤ 1000000 := by
      have : ((size : Nat) : Int).toNat = size := rfl
      rw [this]
      exact Nat.le_trans (Nat.mul_le_mul (show l.length ≤ 1000 by omega) (show size ≤ 1000 by omega)) (by decide)
    refine v_mulS (by omega) (by omega) z5 ?_
    have z6 : (List.replicate ((size : Nat) : Int).toNat l).flatten.length ≤ 1000000 := by
      rw [len_rep, Nat.mul_comm]
      exact z5
    walk_at "go"
    refine v_slTo z6 (by omega) ?_
    refine k _ H2 (fun c hc => m1 c (mem_rep (List.mem_of_mem_take hc))) ?_ (p2.mono (by omega)) (k1.trans k2)
    rw [List.length_take]
    omega
  · walk_at "go"
    exact k _ H2 m1 (by omega) (p2.mono (by omega)) (k1.trans k2)
end
/-! ### vectors -/
theorem dp_vec {K : PySem.W.Frag} {H : Hp} (v : Nat → Int) : ∀ ls : List Nat, DpAll K H (vecV ls v) ((ls.map v).map PyData.int)
  | [] => .nil
  | n :: r => .cons (.int _) (dp_vec v r)
theorem shaped_intsT (ns : List Int) : SeqAt.shaped (.tuple (ns.map PyData.int)) = true := by
  have h := dep_ints ns
  have h2 : (PyData.tuple (ns.map PyData.int)).depth ≤ 64 := by simp only [PyData.depth]; omega
  have h3 : (PyData.tuple (ns.map PyData.int)).canLay0 = true := by simp only [PyData.canLay0]; exact lay_ints ns
  simp [SeqAt.shaped, h2, h3]
theorem eqvAll_ints : ∀ (a b : List Int), PyData.eqvAll (a.map PyData.int) (b.map PyData.int) = decide (a = b)
  | [], [] => by simp [PyData.eqvAll]
  | [], _ :: _ => by simp [PyData.eqvAll]
  | _ :: _, [] => by simp [PyData.eqvAll]
  | x :: a, y :: b => by
    simp only [List.map_cons, PyData.eqvAll, PyData.eqv, eqvAll_ints a b]
    by_cases e : x = y
    · subst e; simp
    · simp [e]
theorem map_eq {u v : Nat → Int} : ∀ {ls : List Nat}, ls.map u = ls.map v ↔ ∀ x ∈ ls, u x = v x
  | [] => ⟨fun _ _ h => (nomatch h), fun _ => rfl⟩
  | y :: r => by
    rw [List.map_cons, List.map_cons, List.cons.injEq, map_eq]
    exact ⟨fun h x hx => (List.mem_cons.mp hx).elim (fun z => z ▸ h.1) (h.2 x), fun h => ⟨h y (List.mem_cons_self ..), fun x hx => h x (List.mem_cons_of_mem _ hx)⟩⟩
section
variable {H : Hp} {Q : VK} {K : PySem.W.Frag} {p q : Addr} {ls : List Nat} {u v : Nat → Int}
theorem v_eqV (h1 : H p = some (.tup (vecV ls u))) (h2 : H q = some (.tup (vecV ls v))) (k : Q (.bl (decide (∀ x ∈ ls, u x = v x))) H) : rEqD K (.ref p) (.ref q) H Q := by
  refine ⟨.tuple ((ls.map u).map PyData.int), .tuple ((ls.map v).map PyData.int), .tup (SqT.of h1) (dp_vec _ _), .tup (SqT.of h2) (dp_vec _ _), shaped_intsT _, shaped_intsT _, ?_⟩
  have e : PyData.eqv (.tuple ((ls.map u).map PyData.int)) (.tuple ((ls.map v).map PyData.int)) = decide (∀ x ∈ ls, u x = v x) := by
    show PyData.eqvAll _ _ = _
    rw [eqvAll_ints]
    exact decide_eq_decide.mpr map_eq
  rw [e]
  exact k
theorem v_neV (h1 : H p = some (.tup (vecV ls u))) (h2 : H q = some (.tup (vecV ls v))) (k : Q (.bl (!decide (∀ x ∈ ls, u x = v x))) H) : rNeD K (.ref p) (.ref q) H Q := by
  refine ⟨.tuple ((ls.map u).map PyData.int), .tuple ((ls.map v).map PyData.int), .tup (SqT.of h1) (dp_vec _ _), .tup (SqT.of h2) (dp_vec _ _), shaped_intsT _, shaped_intsT _, ?_⟩
  have e : PyData.eqv (.tuple ((ls.map u).map PyData.int)) (.tuple ((ls.map v).map PyData.int)) = decide (∀ x ∈ ls, u x = v x) := by
    show PyData.eqvAll _ _ = _
    rw [eqvAll_ints]
    exact decide_eq_decide.mpr map_eq
  rw [e]
  exact k
end
end Cw
set_option Elab.async false
set_option linter.all false
set_option maxRecDepth 100000
set_option maxHeartbeats 4000000
namespace Cw
open PySem PySem.Spec L2
local macro_rules | `(tactic| walk_at "side") => `(tactic| first | omega | assumption | (dsimp only; omega) | (unfold CMul; omega) | exact ⟨by decide, by decide, by decide⟩ | exact wdiv (by first | assumption | decide | omega) (by first | assumption | decide | omega) | (simp only [List.length_cons, List.length_nil]; omega) | rfl)
local macro_rules | `(tactic| walk_at "hl") => `(tactic| first | assumption | exact upd_same | ((refine Cw.Same.at (by assumption) ?_); walk_at "hl") | ((refine Cw.Keep.at (by assumption) ?_ (by assumption)); walk_at "hl"))
local macro_rules | `(tactic| walk_at "st") => `(tactic| first
  | (with_reducible refine s_seq ?_) | (with_reducible refine g_nm ?_) | (with_reducible refine s_next ?_) | (with_reducible refine s_set ?_) | (with_reducible refine s_drop ?_) | (with_reducible refine s_ret ?_) | (with_reducible refine s_if ?_)
  | ((with_reducible refine e_varG ?_); refine ⟨_, (by with_unfolding_all rfl), ?_⟩) | (with_reducible refine e_c ?_) | (with_reducible refine e_op ?_) | (with_reducible refine e_un ?_)
  | (with_reducible refine e_cons ?_) | (with_reducible refine e_nil ?_) | (with_reducible refine e_cb ?_) | (with_reducible refine e_call ?_) | (with_reducible refine e_md ?_)
  | (with_reducible refine t_test ?_) | (with_reducible refine t_B ?_) | (with_reducible refine t_and ?_) | (with_reducible refine t_or ?_) | (with_reducible refine t_not ?_)
  | (with_reducible refine e_andV ?_) | (with_reducible refine e_orV ?_) | (with_reducible refine e_notV ?_) | (with_reducible refine e_if ?_)
  | (with_reducible refine v_I0 ?_) | ((with_reducible refine v_I ?c ?_); try (case c => walk_at "side")) | (with_reducible refine v_bl ?_)
  | ((with_reducible refine v_eq ?c ?_); (case c => with_unfolding_all rfl)) | ((with_reducible refine v_ne ?c ?_); (case c => with_unfolding_all rfl))
  | (with_reducible refine v_inti ?_) | (with_reducible refine v_intb ?_) | ((with_reducible refine v_lenG ?_); refine ⟨_, (by walk_at "hl"), ?_⟩)
  | ((with_reducible refine v_lenS ?c ?_); try (case c => walk_at "side"))
  | (with_reducible refine e_dnew ?_) | (with_reducible refine e_dget ?_) | (with_reducible refine s_dput ?_) | (with_reducible refine e_lst ?_) | (with_reducible refine e_tup ?_)
  | ((with_reducible refine v_lst ?c ?_); (case c => walk_at "side")) | ((with_reducible refine v_tup ?c ?_); (case c => walk_at "side"))
  | ((with_reducible refine v_dgetG ?_); refine ⟨_, (by assumption), ?_⟩)
  | (with_reducible refine e_sl ?_) | (with_reducible refine e_nopart ?_) | (with_reducible refine e_part ?_) | (with_reducible refine e_m1 ?_) | (with_reducible refine v_isS ?_) | (with_reducible refine v_int ?_)
  | (with_reducible refine e_lc ?_) | (with_reducible refine e_iStr ?_) | (with_reducible refine e_iEnumS ?_) | (with_reducible refine v_iEnumS ?_) | (with_reducible refine v_str ?_) | (with_reducible refine e_yes ?_) | (with_reducible refine e_fld ?_) | (with_reducible refine e_sfld ?_)
  | ((with_reducible refine v_addS ?c ?_); try (case c => walk_at "side")) | (with_reducible refine v_inS ?_) | (with_reducible refine v_notInS ?_) | (with_reducible refine v_ltS ?_)
  | ((with_reducible refine v_inLG ?_); refine ⟨_, (by walk_at "hl"), ?_⟩) | (with_reducible refine v_isiS ?_) | (with_reducible refine e_revS ?_) | ((with_reducible refine v_revS ?c ?_); try (case c => walk_at "side"))
  | ((with_reducible refine v_lenSetG ?_); refine ⟨_, (by walk_at "hl"), ?_⟩)
  | (with_reducible refine e_bm ?_) | (with_reducible refine e_bm0 ?_) | ((with_reducible refine v_tyLG ?_); refine ⟨_, (by walk_at "hl"), ?_⟩)
  | (with_reducible refine iteNT ?_) | (with_reducible refine iteNF ?_) | (with_reducible refine e_for ?_)
  | (with_reducible refine e_iL ?_) | (with_reducible refine e_iT ?_) | ((with_reducible refine v_iLG ?_); refine ⟨_, (by walk_at "hl"), ?_⟩) | (with_reducible refine e_iR1 ?_) | ((with_reducible refine v_iR1 ?c1 ?c2 ?_); try (case c1 => walk_at "side"); try (case c2 => walk_at "side"))
  | (with_reducible refine e_iR2 ?_) | ((with_reducible refine v_iR2 ?c1 ?_); try (case c1 => walk_at "side"))
  | (with_reducible refine e_pr0 ?_) | (with_reducible refine e_pr ?_) | (with_reducible refine e_disp ?_) | (with_reducible refine s_asgT ?_) | (with_reducible refine e_tryA ?_) | (with_reducible refine e_callS ?_) | (with_reducible refine e_mdS ?_) | (with_reducible refine e_par ?_) | (with_reducible refine v_par ?_) | (with_reducible refine e_par3 ?_) | (with_reducible refine v_par3 ?_) | (with_reducible refine e_iK ?_) | (with_reducible refine e_dnotin ?_)
  | (with_reducible refine iteT ?_) | (with_reducible refine iteF ?_))
local macro_rules | `(tactic| walk_at "go") => `(tactic| repeat walk_at "st")
/-- the marks of the doors of a way, one after the other -/
def crossedL (f : Nat → List Nat) (nm : List Nat) (n : Nat) : List (Nat → Int) := (List.range n).map fun i => fun x => act f (nm.take i).reverse (unit x) (nm.getD i 0)
structure VecsAt (H : Hp) (D : Addr) (ls : List Nat) (us : List (Nat → Int)) : Prop where
  ex : ∃ As : List Addr, H D = some (.lst (As.map V.ref)) ∧ Paired (fun a u => H a = some (.tup (vecV ls u))) As us
def spCrossed : Sp := fun vs H Q _ => ∃ (d : Addr) (ls : List Nat) (f : Nat → List Nat) (nm : List Nat), vs = [.ref d, .str (tx nm)] ∧ H d = some (.dK (tabKV ls f)) ∧ Tab ls f ∧ (∀ c ∈ nm, c ∈ ls) ∧ nm.length ≤ 100000 ∧ ∀ D H', H D = none → Same H H' → VecsAt H' D ls (crossedL f nm nm.length) → Q (.ref D) H'
theorem paired_imp {α β : Type} {r r' : α → β → Prop} (h : ∀ a b, r a b → r' a b) : ∀ {as : List α} {bs : List β}, Paired r as bs → Paired r' as bs
  | _, _, .nil => .nil
  | _, _, .cons a t => .cons (h _ _ a) (paired_imp h t)
theorem paired_snoc {α β : Type} {r : α → β → Prop} {a : α} {b : β} (h : r a b) : ∀ {as : List α} {bs : List β}, Paired r as bs → Paired r (as ++ [a]) (bs ++ [b])
  | _, _, .nil => .cons h .nil
  | _, _, .cons x t => .cons x (paired_snoc h t)
theorem paired_len {α β : Type} {r : α → β → Prop} : ∀ {as : List α} {bs : List β}, Paired r as bs → as.length = bs.length
  | _, _, .nil => rfl
  | _, _, .cons _ t => by rw [List.length_cons, List.length_cons, paired_len t]
theorem VecsAt.same {H H' : Hp} {D : Addr} {ls : List Nat} {us : List (Nat → Int)} (h : VecsAt H D ls us) (s : Same H H') : VecsAt H' D ls us := by
  obtain ⟨As, e, p⟩ := h.ex
  exact ⟨As, s _ _ e, paired_imp (fun _ _ z => s _ _ z) p⟩
theorem MarksAt.lst {H H' : Hp} {m q : Addr} {ls : List Nat} {M : Nat → Nat → Int} {l : List V} (h : MarksAt H m ls M) (e0 : H q = some (.lst l)) (k : Keep q H H') : MarksAt H' m ls M := by
  obtain ⟨A, a, b⟩ := h.ex
  exact ⟨A, k _ _ a (ne_of a e0 (by intro z; cases z)), fun c hc => k _ _ (b c hc) (ne_of (b c hc) e0 (by intro z; cases z))⟩
/-! ### a vector among vectors -/
theorem op_inDK {X : Cx} {K : PySem.W.Frag} (h : X.K = K) (hu : X.A.units + 65 < cLine) : OpR X (compareOp .In) (rInD K) := h ▸ op_inD hu
theorem op_notInDK {X : Cx} {K : PySem.W.Frag} (h : X.K = K) (hu : X.A.units + 65 < cLine) : OpR X (compareOp .NotIn) (rNotInD K) := h ▸ op_notInD hu
abbrev vecD (ls : List Nat) (u : Nat → Int) : PyData := .tuple ((ls.map u).map PyData.int)
theorem dp_vecs {K : PySem.W.Frag} {H : Hp} {ls : List Nat} : ∀ {As : List Addr} {us : List (Nat → Int)}, Paired (fun a u => H a = some (.tup (vecV ls u))) As us → DpAll K H (As.map V.ref) (us.map (vecD ls))
  | _, _, .nil => .nil
  | _, _, .cons h t => .cons (.tup (SqT.of h) (dp_vec _ _)) (dp_vecs t)
theorem lay_vecs (ls : List Nat) : ∀ us : List (Nat → Int), PyData.canLayAll0 (us.map (vecD ls)) = true
  | [] => rfl
  | u :: r => by
    show (PyData.canLay0 (vecD ls u) && PyData.canLayAll0 (r.map (vecD ls))) = true
    rw [lay_vecs ls r]
    have : PyData.canLay0 (vecD ls u) = true := by simp only [PyData.canLay0]; exact lay_ints _
    rw [this]
    rfl
theorem dep_vecs (ls : List Nat) : ∀ us : List (Nat → Int), PyData.depthAll (us.map (vecD ls)) ≤ 2
  | [] => Nat.zero_le _
  | u :: r => Nat.max_le.mpr ⟨by
      have h := dep_ints (ls.map u)
      show PyData.depth (vecD ls u) ≤ 2
      simp only [PyData.depth]
      omega, dep_vecs ls r⟩
theorem shaped_vecs (ls : List Nat) (us : List (Nat → Int)) : SeqAt.shaped (.list (us.map (vecD ls))) = true := by
  have h := dep_vecs ls us
  have h2 : (PyData.list (us.map (vecD ls))).depth ≤ 64 := by simp only [PyData.depth]; omega
  have h3 : (PyData.list (us.map (vecD ls))).canLay0 = true := by simp only [PyData.canLay0]; exact lay_vecs ls us
  simp [SeqAt.shaped, h2, h3]
theorem eqv_vec {ls : List Nat} {u v : Nat → Int} : PyData.eqv (vecD ls u) (vecD ls v) = decide (∀ x ∈ ls, u x = v x) := by
  show PyData.eqvAll _ _ = _
  rw [eqvAll_ints]
  exact decide_eq_decide.mpr map_eq
section
variable {H : Hp} {Q : VK} {K : PySem.W.Frag} {p D : Addr} {ls : List Nat} {v : Nat → Int} {us : List (Nat → Int)}
theorem v_inV (h1 : H p = some (.tup (vecV ls v))) (h2 : VecsAt H D ls us) (k : Q (.bl (decide (∃ u ∈ us, ∀ x ∈ ls, u x = v x))) H) : rInD K (.ref p) (.ref D) H Q := by
  obtain ⟨As, e, pr⟩ := h2.ex
  refine ⟨vecD ls v, us.map (vecD ls), .tup (SqT.of h1) (dp_vec _ _), .lst (SqL.of e) (dp_vecs pr), shaped_intsT _, shaped_vecs ls us, ?_⟩
  have e2 : ((us.map (vecD ls)).any fun z => PyData.eqv z (vecD ls v)) = decide (∃ u ∈ us, ∀ x ∈ ls, u x = v x) := by
    rw [List.any_map, Bool.eq_iff_iff, List.any_eq_true, decide_eq_true_iff]
    exact ⟨fun ⟨u, hu, h⟩ => ⟨u, hu, by simpa [eqv_vec] using h⟩, fun ⟨u, hu, h⟩ => ⟨u, hu, by simpa [eqv_vec] using h⟩⟩
  rw [e2]
  exact k
end
theorem mem_crossed {f : Nat → List Nat} {nm ls : List Nat} {v : Nat → Int} : (∃ u ∈ crossedL f nm nm.length, ∀ x ∈ ls, u x = v x) ↔ ∃ i, i < nm.length ∧ ∀ x ∈ ls, act f (nm.take i).reverse (unit x) (nm.getD i 0) = v x := by
  unfold crossedL
  constructor
  · rintro ⟨u, hu, h⟩
    obtain ⟨i, hi, rfl⟩ := List.mem_map.mp hu
    exact ⟨i, List.mem_range.mp hi, h⟩
  · rintro ⟨i, hi, h⟩
    exact ⟨_, List.mem_map.mpr ⟨i, List.mem_range.mpr hi, rfl⟩, h⟩
/-! ### beyond, touches -/
def spBeyond (C R O W : Addr) : Sp := fun vs H Q E => ∃ (a r x : Addr) (k : Nat) (m : List Nat) (b y : Addr) (n : List Nat) (e : Bool) (ks : List Nat) (ps : List (List Nat)), vs = [.ref a, .ref b] ∧ WallAt W R H a r x k m ∧ RoomAt R H b y n ∧ Plans2 C H x y e ∧
  PlanAt C H x ks ps ∧ (∀ c ∈ m, c ∈ ks) ∧ (e = true → ∀ c ∈ n, c ∈ ks) ∧ ks.length ≤ 1000 ∧ m.length ≤ 2000 ∧ n.length ≤ 2000 ∧ (e = true → ∀ H', Same H H' → Q (.bl (decide (k ∈ firstsOf ks ps (wayOf ks ps m n)))) H') ∧ (e = false → E (.ref O) none H)
def spTouches (C R O W : Addr) : Sp := fun vs H Q E => ∃ (a r x : Addr) (k : Nat) (m : List Nat) (b y : Addr) (n : List Nat) (e : Bool) (ks : List Nat) (ps : List (List Nat)), vs = [.ref a, .ref b] ∧ WallAt W R H a r x k m ∧ RoomAt R H b y n ∧ Plans2 C H x y e ∧
  PlanAt C H x ks ps ∧ k ∈ ks ∧ (e = true → ∀ c ∈ n, c ∈ ks) ∧ ks.length ≤ 1000 ∧ m.length ≤ 2000 ∧ n.length ≤ 2000 ∧ (e = true → ∀ H', Same H H' → Q (.bl (decide (startOf ks ps n k = m))) H') ∧ (e = false → E (.ref O) none H)
section
variable {P : Program} {w : World} {K : PySem.W.Frag} {mg : Str → Option Value} {base : Heap} {C R O W : Addr}
end
/-! ### of a drawn floor -/
section
variable {K : PySem.W.Frag} {H : Hp} {Q : VK} {C R O W r x y : Addr} {a' b' : Addr} {ls : List Nat} {fn : Nat → List Nat} {a b : List Nat} {k : Nat} {E : XK} {m : List Nat}
theorem sp_beyond (fl : Fl ls fn) (h1 : WallAt W R H a' r x k m) (h2 : RoomAt R H b' y (joinC fn [] b)) (pl : PlanAt C H x (ascOf ls) (tabPairs ls fn)) (pl' : PlanAt C H y (ascOf ls) (tabPairs ls fn)) (hm : ∀ c ∈ m, c ∈ ls) (hmn : NF fn m) (hk : k ∈ ls) (hb : ∀ c ∈ b, c ∈ ls) (la : m.length ≤ 2000) (lb : b.length ≤ 2000) (q : ∀ H', Same H H' → Q (.bl (decide (desc fn k (wayC fn m b)))) H') : calmOf (spBeyond C R O W) [.ref a', .ref b'] H Q E := by
  have n2 : (joinC fn [] b).length ≤ b.length := name_len fn b
  have tl := fl.tab.len
  have ps := pairsOf_small (ls.flatMap fun a => (fn a).map fun b => ascOf [a, b])
  refine ⟨a', r, x, k, m, b', y, _, true, _, _, rfl, h1, h2, ⟨_, _, _, _, pl, pl', ps, ps, (decide_eq_true ⟨rfl, rfl⟩).symm⟩, pl, inAsc fl.tab hm, fun _ => inAsc fl.tab (memN hb), by rw [asc_self fl]; omega, la, by omega, fun _ H' s' => ?_, fun z => (nomatch z)⟩
  have mm : joinC fn [] m = m := (is_NF fl.ok).mpr hmn
  have e1 := way_tab fl hm hb
  rw [mm] at e1
  have hw : ∀ c ∈ wayC fn m b, c ∈ ls := fun c hc => by
    rcases List.mem_append.mp (name_mem hc) with z | z
    · exact hm c (List.mem_reverse.mp z)
    · exact hb c z
  rw [e1, show decide (k ∈ firstsOf (ascOf ls) (tabPairs ls fn) (wayC fn m b)) = decide (desc fn k (wayC fn m b)) from decide_eq_decide.mpr ?_]
  · exact q H' s'
  · unfold firstsOf
    rw [asc_self fl, List.mem_filter, decide_eq_true_iff, founds_congr (g := fn) fun j hj c hc => ?_, founds_mem fl.ok]
    · exact ⟨fun z => z.2.2, fun z => ⟨hk, hk, z⟩⟩
    · have := cross_tab fl.tab (hw j hj) hc
      rw [asc_self fl] at this
      exact this
theorem sp_touches (fl : Fl ls fn) (h1 : WallAt W R H a' r x k m) (h2 : RoomAt R H b' y (joinC fn [] b)) (pl : PlanAt C H x (ascOf ls) (tabPairs ls fn)) (pl' : PlanAt C H y (ascOf ls) (tabPairs ls fn)) (hk : k ∈ ls) (hb : ∀ c ∈ b, c ∈ ls) (la : m.length ≤ 2000) (lb : b.length ≤ 2000) (q : ∀ H', Same H H' → Q (.bl (decide (startC fn (joinC fn [] b) k = m))) H') : calmOf (spTouches C R O W) [.ref a', .ref b'] H Q E := by
  have n2 : (joinC fn [] b).length ≤ b.length := name_len fn b
  have tl := fl.tab.len
  have ps := pairsOf_small (ls.flatMap fun a => (fn a).map fun b => ascOf [a, b])
  refine ⟨a', r, x, k, m, b', y, _, true, _, _, rfl, h1, h2, ⟨_, _, _, _, pl, pl', ps, ps, (decide_eq_true ⟨rfl, rfl⟩).symm⟩, pl, inAsc (a := [k]) fl.tab (by simpa using hk) k (by simp), fun _ => inAsc fl.tab (memN hb), by rw [asc_self fl]; omega, la, by omega, fun _ H' s' => ?_, fun z => (nomatch z)⟩
  rw [start_tab fl hb hk]
  exact q H' s'
end
end Cw
set_option Elab.async false
set_option linter.all false
set_option maxRecDepth 100000
set_option maxHeartbeats 4000000
/-! the product of two marks: how two walls lie -/
namespace Cw
section
variable {f : Nat → List Nat} {ls : List Nat} {s t c : Nat}
/-! ### the kind of a wall by its mark -/
theorem act_par (f : Nat → List Nat) (g : Nat → Int) : ∀ (w : List Nat) (s : Nat), ∃ k : Int, act f w g s = g s + 2 * k
  | [], s => ⟨0, by show g s = _; omega⟩
  | d :: r, s => by
    obtain ⟨k, h⟩ := act_par f g r s
    obtain ⟨j, h'⟩ := act_par f g r d
    show ∃ k : Int, thr f d (act f r g) s = _
    unfold thr
    split
    · rename_i e
      refine ⟨- g d - j, ?_⟩
      rw [h', e]
      omega
    · split
      · exact ⟨k, h⟩
      · refine ⟨k + (g d + 2 * j), ?_⟩
        rw [h, h']
        omega
theorem root_kind {v w : List Nat} (hs : s ∈ ls) (h : ∀ x ∈ ls, act f v (unit x) s = act f w (unit x) t) : s = t := by
  have h := h s hs
  obtain ⟨k, e1⟩ := act_par f (unit s) v s
  obtain ⟨j, e2⟩ := act_par f (unit s) w t
  rw [e1, e2] at h
  unfold unit at h
  rw [if_pos rfl] at h
  by_cases e : t = s
  · exact e.symm
  · rw [if_neg e] at h
    omega
/-! ### the product -/
def bt (f : Nat → List Nat) (t : Nat) : Nat → Int := fun e => if e = t then 1 else if e ∈ f t then 0 else -1
theorem bt_self : bt f t t = 1 := if_pos rfl
theorem bt_in (ok : CrOk f) (h : s ∈ f t) : bt f t s = 0 := by
  unfold bt
  rw [if_neg fun z : s = t => ok.irr t (z ▸ h), if_pos h]
theorem bt_out (h : s ≠ t) (h2 : ¬ s ∈ f t) : bt f t s = -1 := by
  unfold bt
  rw [if_neg h, if_neg h2]
theorem bt_sym (ok : CrOk f) (s t : Nat) : bt f t s = bt f s t := by
  by_cases e : s = t
  · rw [e]
  · by_cases c : s ∈ f t
    · rw [bt_in ok c, bt_in ok (ok.sym _ _ c)]
    · rw [bt_out e c, bt_out (fun z => e z.symm) fun z => c (ok.sym _ _ z)]
theorem col_eq (ok : CrOk f) (x : Nat) : thr f c (unit c) x = unit c x - 2 * bt f x c := by
  have u1 : unit c c = 1 := if_pos rfl
  unfold thr
  by_cases e : x = c
  · rw [if_pos e, e, u1, bt_self]
    rfl
  · have u2 : unit c x = 0 := if_neg e
    rw [if_neg e, u1, u2]
    by_cases h : x ∈ f c
    · rw [if_pos h, bt_in ok (ok.sym _ _ h)]
      rfl
    · rw [if_neg h, bt_out (fun z => e z.symm) fun z => h (ok.sym _ _ z)]
      rfl
theorem psi_act (hn : ls.Nodup) (ok : CrOk f) (ht : t ∈ ls) : ∀ {n : List Nat} {e : Nat}, (∀ y ∈ n, y ∈ ls) → e ∈ ls → sumL ls (fun y => mark f n.reverse t y * bt f y e) = act f n (bt f t) e
  | [], e, _, he => by
    have h := sumL_unit (g := fun y => bt f y e) hn ht
    rw [← show bt f t e = act f [] (bt f t) e from rfl, ← h]
    exact sumL_congr fun y _ => by
      show unit y t * bt f y e = bt f y e * unit y t
      rw [Int.mul_comm]
  | c :: n, e, hw, he => by
    have hc := hw c (List.mem_cons_self ..)
    have hn' : ∀ y ∈ n, y ∈ ls := fun y hy => hw y (List.mem_cons_of_mem _ hy)
    have hnr : ∀ y ∈ n.reverse, y ∈ ls := fun y hy => hn' y (List.mem_reverse.mp hy)
    have ie := psi_act hn ok ht hn' he
    have ic := psi_act hn ok ht hn' hc
    have key : ∀ y ∈ ls, mark f (c :: n).reverse t y = 1 * mark f n.reverse t y + (-2 * act f n (bt f t) c) * unit y c := by
      intro y hy
      have e1 : mark f (c :: n).reverse t y = act f n.reverse (thr f c (unit y)) t := by
        unfold mark
        rw [List.reverse_cons, act_app]
        rfl
      by_cases hyc : y = c
      · subst hyc
        rw [e1, act_lin hn ok _ hnr ht, show unit y y = 1 from if_pos rfl, ← ic]
        have e2 : sumL ls (fun x => thr f y (unit y) x * mark f n.reverse t x) = sumL ls fun x => 1 * (mark f n.reverse t x * unit x y) + (-2) * (mark f n.reverse t x * bt f x y) := sumL_congr fun x _ => by
          have u : unit y x = unit x y := by
            unfold unit
            by_cases q : x = y
            · rw [if_pos q, if_pos q.symm]
            · rw [if_neg q, if_neg fun z => q z.symm]
          rw [col_eq ok, u, Int.sub_mul, Int.mul_comm (unit x y), Int.mul_assoc, Int.mul_comm (bt f x y)]
          omega
        rw [e2, sumL_comb, sumL_unit (g := fun x => mark f n.reverse t x) hn hc]
        omega
      · rw [e1, show thr f c (unit y) = unit y from funext fun e => unit_thr hyc, show unit y c = 0 from if_neg fun z => hyc z.symm]
        show mark f n.reverse t y = _
        omega
    have e3 : sumL ls (fun y => mark f (c :: n).reverse t y * bt f y e) = sumL ls fun y => 1 * (mark f n.reverse t y * bt f y e) + (-2 * act f n (bt f t) c) * (bt f y e * unit y c) := sumL_congr fun y hy => by
      rw [key y hy, Int.add_mul, Int.mul_assoc, Int.mul_assoc, Int.mul_comm (unit y c)]
    rw [e3, sumL_comb, ie, sumL_unit (g := fun y => bt f y e) hn hc]
    show _ = thr f c (act f n (bt f t)) e
    by_cases h1 : e = c
    · rw [h1, thr_self, bt_self]
      omega
    · by_cases h2 : e ∈ f c
      · rw [thr_cr ok h2, bt_in ok h2]
        omega
      · rw [thr_not h1 h2, bt_out h1 h2]
        omega
/-- the first letter's coordinate -/
theorem mark_head (hn : ls.Nodup) (ok : CrOk f) (ht : t ∈ ls) {n : List Nat} (hn' : ∀ y ∈ n, y ∈ ls) (hc : c ∈ ls) : mark f (c :: n).reverse t c = mark f n.reverse t c - 2 * act f n (bt f t) c := by
  have hnr : ∀ y ∈ n.reverse, y ∈ ls := fun y hy => hn' y (List.mem_reverse.mp hy)
  have e1 : mark f (c :: n).reverse t c = act f n.reverse (thr f c (unit c)) t := by
    unfold mark
    rw [List.reverse_cons, act_app]
    rfl
  rw [e1, act_lin hn ok _ hnr ht, ← psi_act hn ok ht hn' hc]
  have e2 : sumL ls (fun x => thr f c (unit c) x * mark f n.reverse t x) = sumL ls fun x => 1 * (mark f n.reverse t x * unit x c) + (-2) * (mark f n.reverse t x * bt f x c) := sumL_congr fun x _ => by
    have u : unit c x = unit x c := by
      unfold unit
      by_cases q : x = c
      · rw [if_pos q, if_pos q.symm]
      · rw [if_neg q, if_neg fun z => q z.symm]
    rw [col_eq ok, u, Int.sub_mul, Int.mul_comm (unit x c), Int.mul_assoc, Int.mul_comm (bt f x c)]
    omega
  rw [e2, sumL_comb, sumL_unit (g := fun x => mark f n.reverse t x) hn hc]
  omega
def prodV (f : Nat → List Nat) (ls : List Nat) (a b : Nat → Int) : Int := sumL ls fun x => a x * sumL ls fun y => b y * bt f y x
theorem prod_act (hn : ls.Nodup) (ok : CrOk f) {m n : List Nat} (hm : ∀ y ∈ m, y ∈ ls) (hn' : ∀ y ∈ n, y ∈ ls) (hs : s ∈ ls) (ht : t ∈ ls) : prodV f ls (mark f m.reverse s) (mark f n.reverse t) = act f (m.reverse ++ n) (bt f t) s := by
  unfold prodV
  rw [act_app, act_lin hn ok _ (fun y hy => hm y (List.mem_reverse.mp hy)) hs]
  exact sumL_congr fun x hx => by rw [psi_act hn ok ht hn' hx, Int.mul_comm]
/-! ### its sign -/
/-- no door of the kind t, or of one that crosses it, leads back -/
structure Strt (f : Nat → List Nat) (t : Nat) (v : List Nat) : Prop where
  red : Red f v
  td : ¬ desc f t v.reverse
  fr : ∀ y ∈ f t, ¬ desc f y v.reverse
theorem Strt.tail {v : List Nat} (h : Strt f t (c :: v)) : Strt f t v where
  red := h.red.2
  td := fun z => h.td (by rw [List.reverse_cons]; exact desc_left z)
  fr := fun y hy z => h.fr y hy (by rw [List.reverse_cons]; exact desc_left z)
theorem desc_mem {s : Nat} : ∀ {w : List Nat}, desc f s w → s ∈ w
  | [], h => h.elim
  | y :: w, h => by
    rcases h with h | ⟨_, h⟩
    · exact h ▸ List.mem_cons_self ..
    · exact List.mem_cons_of_mem _ (desc_mem h)
theorem desc_thru (ok : CrOk f) {y : Nat} {pr : List Nat} (hp : ∀ z ∈ pr, z ∈ f s) : ∀ {qr : List Nat}, desc f y (qr ++ pr) → desc f y (qr ++ s :: pr)
  | [], h => .inr ⟨ok.sym _ _ (hp y (desc_mem h)), h⟩
  | z :: qr, h => by
    rcases h with h | ⟨h1, h2⟩
    · exact .inl h
    · exact .inr ⟨h1, desc_thru ok hp h2⟩
theorem Strt.out (ok : CrOk f) {p q : List Nat} (hp : ∀ y ∈ p, y ∈ f s) (h : Strt f t (p ++ s :: q)) : Strt f t (p ++ q) := by
  have key : ∀ y, desc f y (p ++ q).reverse → desc f y (p ++ s :: q).reverse := by
    intro y z
    rw [List.reverse_append] at z
    have e : (p ++ s :: q).reverse = q.reverse ++ s :: p.reverse := by simp
    rw [e]
    exact desc_thru ok (fun w hw => hp w (List.mem_reverse.mp hw)) z
  exact ⟨Red_out ok hp h.red, fun z => h.td (key _ z), fun y hy z => h.fr y hy (key y z)⟩
theorem neg_start (ok : CrOk f) {p q : List Nat} (st : Strt f t (p ++ s :: q)) (hp : ∀ y ∈ p, y ∈ f s) (i1 : ¬ (p ++ q = [] ∧ s = t) → act f (p ++ q) (bt f t) s ≤ 0 ∧ (act f (p ++ q) (bt f t) s = 0 → (∀ y ∈ p ++ q, y ∈ f s) ∧ t ∈ f s)) : act f (p ++ q) (bt f t) s ≤ -1 := by
  have er : (p ++ s :: q).reverse = q.reverse ++ s :: p.reverse := by simp
  have ex : ¬ (p ++ q = [] ∧ s = t) := by
    rintro ⟨e1, rfl⟩
    obtain ⟨rfl, rfl⟩ := List.append_eq_nil_iff.mp e1
    exact st.td (.inl rfl)
  obtain ⟨a1, a2⟩ := i1 ex
  by_cases z : act f (p ++ q) (bt f t) s = 0
  · obtain ⟨b1, b2⟩ := a2 z
    refine absurd ?_ (st.fr s (ok.sym _ _ b2))
    rw [er]
    exact desc_of fun y hy => b1 y (List.mem_append_right _ (List.mem_reverse.mp hy))
  · omega
theorem bsign (ok : CrOk f) (ht : t ∈ ls) : ∀ (n : Nat) (v : List Nat), v.length = n → Strt f t v → (∀ y ∈ v, y ∈ ls) →
    (∀ s ∈ ls, ¬ desc f s v → ¬ (v = [] ∧ s = t) → act f v (bt f t) s ≤ 0 ∧ (act f v (bt f t) s = 0 → (∀ y ∈ v, y ∈ f s) ∧ t ∈ f s)) ∧
    (∀ s ∈ ls, ∀ c ∈ ls, s ≠ c → ¬ s ∈ f c → desc f s v → ¬ desc f c v → ∀ a b : Int, 0 ≤ a → a < b → a * act f v (bt f t) s + b * act f v (bt f t) c < 0) := by
  intro n
  induction n using Nat.strongRecOn with
  | ind n ih =>
    intro v hv st hm
    refine ⟨fun s hs hd he => ?_, fun s hs c hc ne nc hd hd2 a b ha hab => ?_⟩
    · cases v with
      | nil =>
        have hst : s ≠ t := fun z => he ⟨rfl, z⟩
        show bt f t s ≤ 0 ∧ (bt f t s = 0 → _)
        by_cases c : s ∈ f t
        · rw [bt_in ok c]
          exact ⟨by omega, fun _ => ⟨fun _ z => (nomatch z), ok.sym _ _ c⟩⟩
        · rw [bt_out hst c]
          exact ⟨by omega, fun z => by omega⟩
      | cons c v =>
        have hl : v.length < n := by rw [← hv]; simp
        have hc : c ∈ ls := hm c (List.mem_cons_self ..)
        have ne : s ≠ c := fun z => hd (.inl z.symm)
        have rc : ¬ desc f c v := st.red.1
        obtain ⟨i1, i2⟩ := ih v.length hl v rfl st.tail fun y hy => hm y (List.mem_cons_of_mem _ hy)
        by_cases hsc : s ∈ f c
        · have e : act f (c :: v) (bt f t) s = act f v (bt f t) s := thr_cr ok hsc
          rw [e]
          have hcs := ok.sym _ _ hsc
          have ex : ¬ (v = [] ∧ s = t) := by
            rintro ⟨rfl, rfl⟩
            exact st.fr c hcs (.inl rfl)
          obtain ⟨a1, a2⟩ := i1 s hs (fun z => hd (.inr ⟨hcs, z⟩)) ex
          refine ⟨a1, fun z => ⟨fun y hy => ?_, (a2 z).2⟩⟩
          rcases List.mem_cons.mp hy with rfl | hy
          · exact hcs
          · exact (a2 z).1 y hy
        · have e : act f (c :: v) (bt f t) s = act f v (bt f t) s + 2 * act f v (bt f t) c := thr_not ne hsc
          rw [e]
          have pc : act f v (bt f t) c ≤ -1 := by
            have ex : ¬ (v = [] ∧ c = t) := by
              rintro ⟨rfl, rfl⟩
              exact st.td (.inl rfl)
            obtain ⟨a1, a2⟩ := i1 c hc rc ex
            by_cases z : act f v (bt f t) c = 0
            · obtain ⟨b1, b2⟩ := a2 z
              refine absurd ?_ (st.fr c (ok.sym _ _ b2))
              rw [List.reverse_cons]
              exact desc_of fun y hy => b1 y (List.mem_reverse.mp hy)
            · omega
          by_cases ds : desc f s v
          · have := i2 s hs c hc ne hsc ds rc 1 2 (by decide) (by decide)
            exact ⟨by omega, fun z => by omega⟩
          · by_cases ex : v = [] ∧ s = t
            · have : act f v (bt f t) s = 1 := by
                rw [ex.1, ex.2]
                exact bt_self
              exact ⟨by omega, fun z => by omega⟩
            · have := (i1 s hs ds ex).1
              exact ⟨by omega, fun z => by omega⟩
    · obtain ⟨p, q, rfl, hp⟩ := desc_split hd
      have su := st.out ok hp
      have nds : ¬ desc f s (p ++ q) := by
        rw [desc_pass ok hp]
        exact (Red_right st.red).1
      have eu : ∀ g, act f (p ++ s :: q) g = thr f s (act f (p ++ q) g) := fun g => by
        rw [act_app, act_app]
        show act f p (thr f s (act f q g)) = _
        rw [act_comm ok hp]
      have hl : (p ++ q).length < n := by
        rw [← hv]
        simp only [List.length_append, List.length_cons]
        omega
      obtain ⟨i1, i2⟩ := ih (p ++ q).length hl (p ++ q) rfl su fun y hy => hm y ((List.mem_append.mp hy).elim (fun z => List.mem_append_left _ z) fun z => List.mem_append_right _ (List.mem_cons_of_mem _ z))
      have nc' : ¬ c ∈ f s := fun z => nc (ok.sym _ _ z)
      rw [eu, thr_self, thr_not ne.symm nc']
      have ps := neg_start ok st hp (i1 s hs nds)
      by_cases dc : desc f c (p ++ q)
      · have := i2 c hc s hs ne.symm nc' dc nds b (2 * b - a) (by omega) (by omega)
        rw [Int.sub_mul, Int.mul_assoc] at this
        rw [Int.mul_neg, Int.mul_add, ← Int.mul_assoc, Int.mul_comm b 2, Int.mul_assoc]
        omega
      · by_cases ex : p ++ q = [] ∧ c = t
        · have e1 : act f (p ++ q) (bt f t) c = 1 := by
            rw [ex.1, ex.2]
            exact bt_self
          have e2 : act f (p ++ q) (bt f t) s = -1 := by
            rw [ex.1]
            exact bt_out (ex.2 ▸ ne) (ex.2 ▸ nc)
          rw [e1, e2]
          omega
        · have h1 := (i1 c hc dc ex).1
          have h2 : b * act f (p ++ q) (bt f t) c ≤ 0 := Int.mul_nonpos_of_nonneg_of_nonpos (by omega) h1
          have h3 : (2 * b - a) * act f (p ++ q) (bt f t) s < 0 := Int.mul_neg_of_pos_of_neg (by omega) (by omega)
          rw [Int.sub_mul, Int.mul_assoc] at h3
          rw [Int.mul_neg, Int.mul_add, ← Int.mul_assoc, Int.mul_comm b 2, Int.mul_assoc]
          omega
/-- how the wall of the kind s at home lies to the wall (v, t) -/
theorem b_pos (ok : CrOk f) (ht : t ∈ ls) {v : List Nat} (st : Strt f t v) (hm : ∀ y ∈ v, y ∈ ls) (hs : s ∈ ls) (hd : desc f s v) : 0 < act f v (bt f t) s := by
  obtain ⟨p, q, rfl, hp⟩ := desc_split hd
  have su := st.out ok hp
  have nds : ¬ desc f s (p ++ q) := by
    rw [desc_pass ok hp]
    exact (Red_right st.red).1
  have eu : ∀ g, act f (p ++ s :: q) g = thr f s (act f (p ++ q) g) := fun g => by
    rw [act_app, act_app]
    show act f p (thr f s (act f q g)) = _
    rw [act_comm ok hp]
  have i1 := (bsign ok ht _ (p ++ q) rfl su fun y hy => hm y ((List.mem_append.mp hy).elim (fun z => List.mem_append_left _ z) fun z => List.mem_append_right _ (List.mem_cons_of_mem _ z))).1 s hs nds
  have := neg_start ok st hp i1
  rw [eu, thr_self]
  omega
theorem b_npos (ok : CrOk f) (ht : t ∈ ls) {v : List Nat} (st : Strt f t v) (hm : ∀ y ∈ v, y ∈ ls) (hs : s ∈ ls) (hd : ¬ desc f s v) (ex : ¬ (v = [] ∧ s = t)) : act f v (bt f t) s ≤ 0 := ((bsign ok ht _ v rfl st hm).1 s hs hd ex).1
theorem b_zero (ok : CrOk f) (ht : t ∈ ls) {v : List Nat} (st : Strt f t v) (hm : ∀ y ∈ v, y ∈ ls) (hs : s ∈ ls) (ex : ¬ (v = [] ∧ s = t)) : act f v (bt f t) s = 0 ↔ (∀ y ∈ v, y ∈ f s) ∧ t ∈ f s := by
  constructor
  · intro h
    by_cases hd : desc f s v
    · have := b_pos ok ht st hm hs hd
      omega
    · exact ((bsign ok ht _ v rfl st hm).1 s hs hd ex).2 h
  · rintro ⟨h1, h2⟩
    have := mark_along (f := f) (s := s) (g := bt f t) (v := []) ok h1
    rw [List.append_nil] at this
    rw [this]
    exact bt_in ok (ok.sym _ _ h2)
end
end Cw
set_option Elab.async false
set_option linter.all false
set_option maxRecDepth 100000
set_option maxHeartbeats 4000000
/-! how two walls lie, by the product of their marks -/
namespace Cw
section
variable {f : Nat → List Nat} {ls : List Nat} {s t c : Nat}
theorem near_split (ok : CrOk f) {u : List Nat} (hd : desc f t u.reverse) : (∀ g, act f u g = act f (nearC f u t ++ [t]) g) ∧ (nearC f u t).length + 1 = u.length := by
  unfold nearC
  rw [if_pos hd]
  refine ⟨fun g => ?_, (step_len_desc ok u t).1 hd⟩
  rw [act_app, act_step ok, act_app]
  show act f u g = act f u (thr f t (thr f t g))
  rw [thr_thr ok]
theorem near_same {u : List Nat} (hd : ¬ desc f t u.reverse) : nearC f u t = u := by
  unfold nearC
  rw [if_neg hd]
theorem start_split (ok : CrOk f) (u : List Nat) (t : Nat) : ∃ y, (∀ z ∈ y, z ∈ f t) ∧ (∀ z ∈ y, z ∈ nearC f u t) ∧ (∀ g, act f (nearC f u t) g = act f (startC f u t ++ y) g) ∧ (startC f u t).length + y.length = (nearC f u t).length := by
  refine ⟨(splitA f (f t) (nearC f u t).reverse).1.reverse, fun z hz => splitA_in f _ _ z (List.mem_reverse.mp hz), fun z hz => List.mem_reverse.mp (splitA_mem1 f _ _ z (List.mem_reverse.mp hz)), fun g => ?_, ?_⟩
  · have h := act_rev_eq ok (fun g => splitA_act ok g (nearC f u t).reverse (f t)) g
    rw [List.reverse_append, List.reverse_reverse] at h
    exact h.symm
  · have h := splitA_len f (nearC f u t).reverse (f t)
    unfold startC
    rw [List.length_reverse] at *
    rw [List.length_reverse]
    omega
theorem red_cat (ok : CrOk f) {u w : List Nat} (hu : NF f u) (e : ∀ g, act f u g = act f w g) (l : w.length = u.length) : Red f w := by
  refine red_of_len ok ?_
  have e1 : nameOf f w = nameOf f u := (name_eq ok e).symm
  have e2 : nameOf f u = u := (is_NF ok).mpr hu
  rw [e1, e2, l]
theorem desc_act (ok : CrOk f) {u w : List Nat} (ru : Red f u) (rw' : Red f w) (mu : ∀ y ∈ u, y ∈ ls) (mw : ∀ y ∈ w, y ∈ ls) (hs : s ∈ ls) (e : ∀ g, act f u g = act f w g) : desc f s u ↔ desc f s w := by
  rw [← ng_desc ok ru mu hs, ← ng_desc ok rw' mw hs]
  exact ng_act e s
theorem Strt.of (ok : CrOk f) {u : List Nat} (hu : NF f u) (t : Nat) : Strt f t (startC f u t) := ⟨(start_NF ok hu t).red, start_not ok hu t, start_free ok u t⟩
theorem startC_mem (hu : ∀ y ∈ c :: ls, y ∈ c :: ls) {u : List Nat} (mu : ∀ y ∈ u, y ∈ ls) (ht : t ∈ ls) : ∀ y ∈ startC f u t, y ∈ ls := fun y hy => (start_mem hy).elim (fun z => z ▸ ht) (mu y)
theorem st_mem {u : List Nat} (mu : ∀ y ∈ u, y ∈ ls) (ht : t ∈ ls) : ∀ y ∈ startC f u t, y ∈ ls := fun y hy => (start_mem hy).elim (fun z => z ▸ ht) (mu y)
theorem nr_mem {u : List Nat} (mu : ∀ y ∈ u, y ∈ ls) (ht : t ∈ ls) : ∀ y ∈ nearC f u t, y ∈ ls := fun y hy => (near_mem hy).elim (fun z => z ▸ ht) (mu y)
/-- what begins the way to the wall begins the way to each of its doors -/
theorem desc_start (ok : CrOk f) {u : List Nat} (hu : NF f u) (mu : ∀ y ∈ u, y ∈ ls) (hs : s ∈ ls) (ht : t ∈ ls) (h : desc f s (startC f u t)) : desc f s u := by
  obtain ⟨y, y1, y2, ey, ly⟩ := start_split ok u t
  have my : ∀ z ∈ startC f u t ++ y, z ∈ ls := fun z hz => (List.mem_append.mp hz).elim (st_mem mu ht z) fun w => nr_mem mu ht z (y2 z w)
  have nn := near_NF ok hu t
  have r1 : Red f (startC f u t ++ y) := red_cat ok nn ey (by rw [List.length_append, ly])
  have d1 : desc f s (nearC f u t) := (desc_act ok nn.red r1 (nr_mem mu ht) my hs ey).mpr (desc_left h)
  by_cases hd : desc f t u.reverse
  · obtain ⟨e2, l2⟩ := near_split ok hd
    have r2 : Red f (nearC f u t ++ [t]) := red_cat ok hu e2 (by rw [List.length_append, List.length_singleton, l2])
    exact (desc_act ok hu.red r2 mu (fun z hz => (List.mem_append.mp hz).elim (nr_mem mu ht z) fun w => by rw [List.mem_singleton.mp w]; exact ht) hs e2).mpr (desc_left d1)
  · rw [near_same hd] at d1
    exact d1
theorem act_zero (ok : CrOk f) {g : Nat → Int} {E : List Nat} (hg : ∀ e ∈ E, g e = 0) : ∀ {w : List Nat} {c : Nat}, (∀ y ∈ w, y ∈ E) → c ∈ E → act f w g c = 0
  | [], c, _, hc => hg c hc
  | d :: r, c, hw, hc => by
    have hr : ∀ y ∈ r, y ∈ E := fun y hy => hw y (List.mem_cons_of_mem _ hy)
    have h1 := act_zero ok hg hr hc
    have h2 := act_zero ok hg hr (hw d (List.mem_cons_self ..))
    show thr f d (act f r g) c = 0
    unfold thr
    rw [h1, h2]
    split
    · rfl
    · split <;> rfl
theorem b_eq (hn : ls.Nodup) (ok : CrOk f) {u : List Nat} (mu : ∀ y ∈ u, y ∈ ls) (hs : s ∈ ls) (ht : t ∈ ls) : act f u (bt f t) s = if desc f t u.reverse then - act f (startC f u t) (bt f t) s else act f (startC f u t) (bt f t) s := by
  rw [← psi_act hn ok ht mu hs, ← psi_act hn ok ht (st_mem mu ht) hs]
  have e : ∀ y, mark f (startC f u t).reverse t y = if desc f t u.reverse then - mark f u.reverse t y else mark f u.reverse t y := fun y => by
    unfold mark
    rw [start_mark ok, near_mark ok]
  by_cases hd : desc f t u.reverse
  · rw [if_pos hd]
    have e2 : sumL ls (fun y => mark f (startC f u t).reverse t y * bt f y s) = sumL ls fun y => (-1) * (mark f u.reverse t y * bt f y s) + 0 * 0 := sumL_congr fun y _ => by
      rw [e, if_pos hd, Int.neg_mul]
      omega
    rw [e2, sumL_comb (-1) 0 (fun y => mark f u.reverse t y * bt f y s) (fun _ => 0)]
    omega
  · rw [if_neg hd]
    exact sumL_congr fun y _ => by rw [e, if_neg hd]
theorem NF.pre {w : List Nat} (n : Nat) (h : NF f w) : NF f (w.take n) := by
  unfold NF at h ⊢
  rw [← List.take_append_drop n w, List.reverse_append] at h
  exact NFr_right h
/-- what is beyond a wall that lies behind a door of home is behind that door -/
theorem nest (hn : ls.Nodup) (ok : CrOk f) {v X : List Nat} (hv : NF f v) (st : Strt f t v) (mv : ∀ y ∈ v, y ∈ ls) (hX : NF f X) (mX : ∀ y ∈ X, y ∈ ls) (hs : s ∈ ls) (ht : t ∈ ls) (hd : desc f s v) (hb : desc f t (wayC f v X)) : desc f s X := by
  obtain ⟨i, hi, he⟩ := (beyond_iff hn ok mv hv ht st.td hX mX).mp hb
  have hc : X.getD i 0 ∈ ls := mX _ (by
    rw [List.getD_eq_getElem?_getD, List.getElem?_eq_getElem hi]
    exact List.getElem_mem hi)
  have ec : X.getD i 0 = t := root_kind hc he
  have eX : X = X.take i ++ t :: X.drop (i + 1) := by
    rw [← ec, List.getD_eq_getElem?_getD, List.getElem?_eq_getElem hi]
    show X = X.take i ++ X[i] :: X.drop (i + 1)
    rw [← List.drop_eq_getElem_cons hi, List.take_append_drop]
  rw [ec] at he
  have hp := hX.pre i
  have mp : ∀ y ∈ X.take i, y ∈ ls := fun y hy => mX y (List.mem_of_mem_take hy)
  generalize X.take i = p at hp mp he eX
  generalize X.drop (i + 1) = q at eX
  subst eX
  have npt : ¬ desc f t p.reverse := by
    have h : Red f ((p ++ [t]) ++ q) := by rw [List.append_assoc]; exact hX.red
    have h2 := (Red_left h).rev
    rw [List.reverse_append] at h2
    exact h2.1
  have es : startC f p t = v := by
    refine wall_uniq hn ok ht (start_NF ok hp t) hv (st_mem mp ht) mv (start_free ok p t) st.fr fun x hx => ?_
    show act f (startC f p t).reverse (unit x) t = act f v.reverse (unit x) t
    rw [start_mark ok, near_same npt, he x hx]
  exact desc_left (desc_start ok hp mp hs ht (by rw [es]; exact hd))
/-! ### two walls -/
structure W2 (f : Nat → List Nat) (ls : List Nat) (m : List Nat) (s : Nat) (n : List Nat) (t : Nat) : Prop where
  nd : ls.Nodup
  ok : CrOk f
  hs : s ∈ ls
  ht : t ∈ ls
  m1 : NF f m
  n1 : NF f n
  mm : ∀ y ∈ m, y ∈ ls
  mn : ∀ y ∈ n, y ∈ ls
  sm : Strt f s m
  sn : Strt f t n
section
variable {m n : List Nat}
theorem W2.symm (h : W2 f ls m s n t) : W2 f ls n t m s := ⟨h.nd, h.ok, h.ht, h.hs, h.n1, h.m1, h.mn, h.mm, h.sn, h.sm⟩
theorem W2.same (h : W2 f ls m s n t) : (∀ x ∈ ls, mark f m.reverse s x = mark f n.reverse t x) ↔ s = t ∧ m = n := by
  constructor
  · intro e
    have ek : s = t := root_kind h.hs e
    subst ek
    exact ⟨rfl, wall_uniq h.nd h.ok h.hs h.m1 h.n1 h.mm h.mn h.sm.fr h.sn.fr e⟩
  · rintro ⟨rfl, rfl⟩ x _
    rfl
theorem W2.mu (h : W2 f ls m s n t) : ∀ y ∈ wayC f m n, y ∈ ls := fun y hy => by
  rcases List.mem_append.mp (name_mem hy) with z | z
  · exact h.mm y (List.mem_reverse.mp z)
  · exact h.mn y z
/-- the product of the marks -/
theorem W2.prod (h : W2 f ls m s n t) : prodV f ls (mark f m.reverse s) (mark f n.reverse t) = act f (wayC f m n) (bt f t) s := by
  rw [prod_act h.nd h.ok h.mm h.mn h.hs h.ht]
  unfold wayC
  rw [name_act h.ok]
theorem W2.npos (h : W2 f ls m s n t) : Pos ls (mark f n.reverse t) := mark_nn h.ok h.n1.red.rev (fun y hy => h.mn y (List.mem_reverse.mp hy)) h.ht h.sn.td
theorem W2.mpos (h : W2 f ls m s n t) : Pos ls (mark f m.reverse s) := h.symm.npos
theorem W2.goes (h : W2 f ls m s n t) (g : Nat → Int) : act f n.reverse g = act f (wayC f m n).reverse (act f m.reverse g) := by
  have e := way_goes h.ok m n
  have e1 : nameOf f n = n := (is_NF h.ok).mpr h.n1
  rw [e1] at e
  rw [← act_app, ← List.reverse_append, ← act_of_name h.ok (m ++ wayC f m n), e]
theorem W2.uNF (h : W2 f ls m s n t) : NF f (wayC f m n) := name_NF h.ok _
theorem W2.vmark (h : W2 f ls m s n t) (g : Nat → Int) : act f (startC f (wayC f m n) t).reverse g t = if desc f t (wayC f m n).reverse then - act f (wayC f m n).reverse g t else act f (wayC f m n).reverse g t := by rw [start_mark h.ok, near_mark h.ok]
theorem W2.exc (h : W2 f ls m s n t) (ns : ¬ (s = t ∧ m = n)) : ¬ (startC f (wayC f m n) t = [] ∧ s = t) := by
  rintro ⟨e1, rfl⟩
  apply ns
  refine (h.same).mp fun x hx => ?_
  have hv := h.vmark (act f m.reverse (unit x))
  rw [e1, ← h.goes] at hv
  have hv : act f m.reverse (unit x) s = if desc f s (wayC f m n).reverse then - act f n.reverse (unit x) s else act f n.reverse (unit x) s := hv
  by_cases d : desc f s (wayC f m n).reverse
  · exfalso
    obtain ⟨y, hy, p1⟩ := h.npos.2
    have hw := h.vmark (act f m.reverse (unit y))
    rw [e1, ← h.goes, if_pos d] at hw
    have hw : act f m.reverse (unit y) s = - act f n.reverse (unit y) s := hw
    have p2 := h.mpos.1 y hy
    have p1 : 0 < act f n.reverse (unit y) s := p1
    have p2 : 0 ≤ act f m.reverse (unit y) s := p2
    omega
  · rw [if_neg d] at hv
    exact hv
theorem W2.vst (h : W2 f ls m s n t) : Strt f t (startC f (wayC f m n) t) := Strt.of h.ok h.uNF t
/-- a door of a kind that crosses t, or of t itself, behind the way to the wall: the walls cross or are one -/
theorem W2.along (h : W2 f ls m s n t) (ns : ¬ (s = t ∧ m = n)) (h0 : act f (startC f (wayC f m n) t) (bt f t) s ≠ 0) (hd : ¬ desc f s (startC f (wayC f m n) t)) {y : List Nat} (hy : ∀ z ∈ y, z ∈ f t ∨ z = t) (hy1 : ∀ p c q, y = p ++ c :: q → ∀ z ∈ p, z ∈ f t) (my : ∀ z ∈ y, z ∈ ls) : ¬ Ng f ls (startC f (wayC f m n) t ++ y) s := by
  have ok := h.ok
  have st := h.vst
  have ex := h.exc ns
  have mv := st_mem (f := f) h.mu h.ht
  generalize startC f (wayC f m n) t = v at st ex mv h0 hd
  intro z
  have n0 : ¬ Ng f ls v s := fun w => hd ((ng_desc ok st.red mv h.hs).mp w)
  obtain ⟨p, c, q, e, hg⟩ := turn_door h.nd ok mv h.hs y my fun w => n0 (w.mpr z)
  have hpt := hy1 p c q e
  have hcy : c ∈ y := by rw [e]; exact List.mem_append_right _ (List.mem_cons_self ..)
  have ez : ∀ g, act f v g s = act f (v ++ p) (act f p.reverse g) s := fun g => by rw [act_app, act_rev' ok]
  have hpr : ∀ z ∈ p.reverse, z ∈ f t := fun z hz => hpt z (List.mem_reverse.mp hz)
  rcases hy c hcy with hc | hc
  · have e0 : act f p.reverse (bt f t) c = 0 := act_zero ok (E := f t) (fun e he => bt_in ok he) hpr hc
    apply h0
    rcases hg with hg | hg
    · rw [ez, hg, e0]
    · rw [ez, hg, e0]
      rfl
  · subst hc
    have ea : ∀ g, act f p.reverse g c = g c := fun g => by
      have := mark_along (f := f) (s := c) (g := g) (v := []) ok hpr
      rw [List.append_nil] at this
      exact this
    rcases hg with hg | hg
    · have e1 : ∀ x, act f v (unit x) s = unit x c := fun x => by rw [ez, hg, ea]
      have ek : s = c := root_kind (w := []) h.hs fun x _ => e1 x
      subst ek
      have fx := mark_fix h.nd ok h.hs st.red mv fun x _ => e1 x
      apply ex
      refine ⟨?_, rfl⟩
      cases hv : v.reverse with
      | nil => simpa using hv
      | cons a r =>
        exfalso
        have ha : a ∈ v := List.mem_reverse.mp (by rw [hv]; exact List.mem_cons_self ..)
        exact st.fr a (fx a ha) (by rw [hv]; exact .inl rfl)
    · apply n0
      refine ⟨c, h.ht, ?_⟩
      show act f v (unit c) s < 0
      rw [ez, hg, ea, show unit c c = 1 from if_pos rfl]
      decide
/-- the way on from the wall to its door -/
theorem W2.tail (h : W2 f ls m s n t) : ∃ y, (∀ z ∈ y, z ∈ f t ∨ z = t) ∧ (∀ p c q, y = p ++ c :: q → ∀ z ∈ p, z ∈ f t) ∧ (∀ z ∈ y, z ∈ ls) ∧ ∀ g, act f (wayC f m n) g = act f (startC f (wayC f m n) t ++ y) g := by
  obtain ⟨y, y1, y2, ey, ly⟩ := start_split h.ok (wayC f m n) t
  have my : ∀ z ∈ y, z ∈ ls := fun z hz => nr_mem h.mu h.ht z (y2 z hz)
  by_cases hd : desc f t (wayC f m n).reverse
  · obtain ⟨e2, _⟩ := near_split h.ok hd
    refine ⟨y ++ [t], fun z hz => (List.mem_append.mp hz).elim (fun w => .inl (y1 z w)) fun w => .inr (List.mem_singleton.mp w), fun p c q e z hz => ?_, fun z hz => (List.mem_append.mp hz).elim (my z) fun w => by rw [List.mem_singleton.mp w]; exact h.ht, fun g => ?_⟩
    · have hl := congrArg List.length e
      simp only [List.length_append, List.length_cons, List.length_nil] at hl
      have hp : p = (y ++ [t]).take p.length := by rw [e]; simp
      rw [List.take_append_of_le_length (by omega)] at hp
      exact y1 z (List.mem_of_mem_take (by rw [← hp]; exact hz))
    · rw [e2, act_app, ey, ← act_app, List.append_assoc]
  · refine ⟨y, fun z hz => .inl (y1 z hz), fun p c q e z hz => y1 z (by rw [e]; exact List.mem_append_left _ hz), my, fun g => ?_⟩
    rw [← ey, near_same hd]
/-- how they lie, if they do not cross and are not one: d: the first room beyond the second wall, b: the second room beyond the first wall -/
theorem W2.lies (h : W2 f ls m s n t) (ns : ¬ (s = t ∧ m = n)) (h0 : act f (wayC f m n) (bt f t) s ≠ 0) :
    (desc f t (wayC f m n).reverse → 0 < act f (wayC f m n) (bt f t) s ∧ ¬ desc f s (wayC f m n)) ∧ (¬ desc f t (wayC f m n).reverse → (0 < act f (wayC f m n) (bt f t) s ↔ desc f s (wayC f m n))) := by
  have ok := h.ok
  have be := b_eq h.nd ok h.mu h.hs h.ht
  have st := h.vst
  have ex := h.exc ns
  have mv := st_mem (f := f) h.mu h.ht
  have hv0 : act f (startC f (wayC f m n) t) (bt f t) s ≠ 0 := by
    intro z
    rw [z] at be
    apply h0
    rw [be]
    split <;> rfl
  obtain ⟨y, y1, y2, y3, y4⟩ := h.tail
  have noU : ¬ desc f s (startC f (wayC f m n) t) → ¬ desc f s (wayC f m n) := fun hd z => h.along ns hv0 hd y1 y2 y3 ((ng_act y4 s).mp ((ng_desc ok h.uNF.red h.mu h.hs).mpr z))
  refine ⟨fun hd => ?_, fun hd => ?_⟩
  · have nd : ¬ desc f s (startC f (wayC f m n) t) := by
      intro z
      have mr : ∀ y ∈ nameOf f m.reverse, y ∈ ls := fun y hy => h.mm y (List.mem_reverse.mp (name_mem hy))
      have hb : desc f t (wayC f (startC f (wayC f m n) t) (nameOf f m.reverse)) := by
        have e1 : nameOf f (startC f (wayC f m n) t) = startC f (wayC f m n) t := (is_NF ok).mpr (start_NF ok h.uNF t)
        have mw : ∀ y ∈ wayC f (startC f (wayC f m n) t) (nameOf f m.reverse), y ∈ ls := fun y hy => by
          rcases List.mem_append.mp (name_mem hy) with w | w
          · exact mv y (List.mem_reverse.mp w)
          · exact mr y w
        refine (ng_desc ok (name_NF ok _).red mw h.ht).mp ((ng_name ok _ t).mpr ?_)
        obtain ⟨x, hx, p1⟩ := h.npos.2
        refine ⟨x, hx, ?_⟩
        show act f ((startC f (wayC f m n) t).reverse ++ nameOf f m.reverse) (unit x) t < 0
        rw [act_app, name_act ok, h.vmark, if_pos hd, ← h.goes]
        have p1 : 0 < act f n.reverse (unit x) t := p1
        omega
      have := nest h.nd ok (start_NF ok h.uNF t) st mv (name_NF ok _) mr h.hs h.ht z hb
      have := (ng_name ok _ s).mp ((ng_desc ok (name_NF ok _).red mr h.hs).mpr this)
      exact h.sm.td ((ng_desc ok h.m1.red.rev (fun y hy => h.mm y (List.mem_reverse.mp hy)) h.hs).mp this)
    rw [if_pos hd] at be
    have := b_npos ok h.ht st mv h.hs nd ex
    exact ⟨by omega, noU nd⟩
  · rw [if_neg hd] at be
    rw [be]
    constructor
    · intro p
      apply Classical.byContradiction
      intro z
      have := b_npos ok h.ht st mv h.hs (fun w => z (desc_start ok h.uNF h.mu h.hs h.ht w)) ex
      omega
    · intro z
      apply Classical.byContradiction
      intro p
      refine noU (fun w => p (b_pos ok h.ht st mv h.hs w)) z
theorem W2.zero (h : W2 f ls m s n t) (ns : ¬ (s = t ∧ m = n)) : act f (wayC f m n) (bt f t) s = 0 ↔ (∀ y ∈ startC f (wayC f m n) t, y ∈ f s) ∧ t ∈ f s := by
  rw [← b_zero h.ok h.ht h.vst (st_mem h.mu h.ht) h.hs (h.exc ns), b_eq h.nd h.ok h.mu h.hs h.ht]
  split <;> omega
theorem W2.one (h : W2 f ls m s n t) (hs : s = t ∧ m = n) : act f (wayC f m n) (bt f t) s = 1 := by
  obtain ⟨rfl, rfl⟩ := hs
  rw [way_self h.ok]
  exact bt_self
/-- whether they cross, as the program finds it -/
theorem W2.crosses (h : W2 f ls m s n t) : act f (wayC f m n) (bt f t) s = 0 ↔ t ∈ f s ∧ startC f (nameOf f (m ++ (splitA f (f s) (wayC f m n)).1)) t = n := by
  have ok := h.ok
  have al1 := splitA_in f (wayC f m n) (f s)
  have al2 := splitA_mem1 f (wayC f m n) (f s)
  have ra := fun g => splitA_act ok g (wayC f m n) (f s)
  have rl := splitA_len f (wayC f m n) (f s)
  have rd := splitA_desc ok (wayC f m n) (f s)
  have rm := splitA_mem2 f (wayC f m n) (f s)
  generalize (splitA f (f s) (wayC f m n)).1 = al at al1 al2 ra rl
  generalize (splitA f (f s) (wayC f m n)).2 = rs at ra rl rd rm
  have mal : ∀ y ∈ al, y ∈ ls := fun y hy => h.mu y (al2 y hy)
  have mrs : ∀ y ∈ rs, y ∈ ls := fun y hy => h.mu y (rm y hy)
  have mma : ∀ y ∈ m ++ al, y ∈ ls := fun y hy => (List.mem_append.mp hy).elim (h.mm y) (mal y)
  have mnm : ∀ y ∈ nameOf f (m ++ al), y ∈ ls := fun y hy => mma y (name_mem hy)
  have sg : ∀ g, act f (startC f (nameOf f (m ++ al)) t).reverse g t = if desc f t (nameOf f (m ++ al)).reverse then - act f (m ++ al).reverse g t else act f (m ++ al).reverse g t := fun g => by rw [start_mark ok, near_mark ok, act_of_name ok]
  constructor
  · intro hz
    have ns : ¬ (s = t ∧ m = n) := fun z => by rw [h.one z] at hz; omega
    obtain ⟨hv, hts⟩ := (h.zero ns).mp hz
    refine ⟨hts, ?_⟩
    -- the rest leaves the mark of t but for the sign
    have rr : Red f rs := Red_right (red_cat ok h.uNF (fun g => (ra g).symm) (by rw [List.length_append, rl]))
    have nrs : NF f (nameOf f rs) := name_NF ok rs
    have mnr : ∀ y ∈ nameOf f rs, y ∈ ls := fun y hy => mrs y (name_mem hy)
    have s2 : ∀ g, act f (startC f (nameOf f rs) t).reverse g t = if desc f t (nameOf f rs).reverse then - act f rs.reverse g t else act f rs.reverse g t := fun g => by rw [start_mark ok, near_mark ok, act_of_name ok]
    have back : ∀ g, act f rs.reverse g t = act f (wayC f m n).reverse (act f al g) t := fun g => by
      have := act_rev_eq ok ra (act f al g)
      rw [List.reverse_append, act_app, act_rev ok] at this
      rw [this]
    have v2 : startC f (nameOf f rs) t = [] := by
      have st2 := Strt.of ok nrs t
      have m2 := st_mem (f := f) (t := t) mnr h.ht
      cases e : startC f (nameOf f rs) t with
      | nil => rfl
      | cons c v' =>
        exfalso
        rw [e] at st2 m2
        have hcl : c ∈ ls := m2 c (List.mem_cons_self ..)
        have hcs : ¬ c ∈ f s := fun z => by
          have d1 : desc f c (nameOf f rs) := desc_start ok nrs mnr hcl h.ht (by rw [e]; exact .inl rfl)
          exact rd c z ((ng_desc ok rr mrs hcl).mp ((ng_name ok rs c).mp ((ng_desc ok nrs.red mnr hcl).mpr d1)))
        have hct : c ≠ t := fun z => hcs (z ▸ hts)
        -- its coordinate c is nought
        have z1 : act f rs.reverse (unit c) t = 0 := by
          have e3 := h.vmark (act f al (unit c))
          have e4 : act f (startC f (wayC f m n) t).reverse (act f al (unit c)) t = 0 := by
            rw [← act_app]
            refine mark_zero ok (x := c) (w := (startC f (wayC f m n) t).reverse ++ al) (s := t) (fun z => ?_) hct
            rcases List.mem_append.mp z with z | z
            · exact hcs (hv c (List.mem_reverse.mp z))
            · exact hcs (al1 c z)
          rw [e4] at e3
          rw [back]
          split at e3 <;> omega
        have z2 : mark f (c :: v').reverse t c = 0 := by
          have := s2 (unit c)
          rw [e, z1] at this
          show act f (c :: v').reverse (unit c) t = 0
          rw [this]
          split <;> rfl
        -- but it is not
        have hl := bsign ok h.ht _ v' rfl st2.tail fun y hy => m2 y (List.mem_cons_of_mem _ hy)
        have nc := neg_start (p := []) (q := v') ok st2 (fun _ z => (nomatch z)) (hl.1 c hcl st2.red.1)
        have nc : act f v' (bt f t) c ≤ -1 := nc
        have mv' : ∀ y ∈ v', y ∈ ls := fun y hy => m2 y (List.mem_cons_of_mem _ hy)
        have p1 := (mark_nn ok st2.tail.red.rev (fun y hy => mv' y (List.mem_reverse.mp hy)) h.ht st2.tail.td).1 c hcl
        have k1 := mark_head h.nd ok h.ht mv' hcl
        omega
    have sR : (∀ g, act f rs.reverse g t = g t) ∨ (∀ g, act f rs.reverse g t = - g t) := by
      by_cases d : desc f t (nameOf f rs).reverse
      · right
        intro g
        have := s2 g
        rw [v2, if_pos d] at this
        have this : g t = - act f rs.reverse g t := this
        omega
      · left
        intro g
        have := s2 g
        rw [v2, if_neg d] at this
        have this : g t = act f rs.reverse g t := this
        omega
    have eU : ∀ g, act f (wayC f m n).reverse g t = act f rs.reverse (act f al.reverse g) t := fun g => by
      have := act_rev_eq ok ra g
      rw [← this, List.reverse_append, act_app]
    have eN : (∀ g, act f n.reverse g t = act f (m ++ al).reverse g t) ∨ (∀ g, act f n.reverse g t = - act f (m ++ al).reverse g t) := by
      rcases sR with sR | sR
      · left
        intro g
        rw [h.goes, eU, sR, List.reverse_append, act_app]
      · right
        intro g
        rw [h.goes, eU, sR, List.reverse_append, act_app]
    refine wall_uniq h.nd ok h.ht (start_NF ok (name_NF ok _) t) h.n1 (st_mem mnm h.ht) h.mn (start_free ok _ t) h.sn.fr fun x hx => ?_
    have p1 := mark_nn (ls := ls) ok (start_NF ok (name_NF ok (m ++ al)) t).red.rev (fun y hy => st_mem mnm h.ht y (List.mem_reverse.mp hy)) h.ht (start_not ok (name_NF ok _) t)
    have p2 := h.npos
    have key : (∀ g, act f (startC f (nameOf f (m ++ al)) t).reverse g t = act f n.reverse g t) ∨ (∀ g, act f (startC f (nameOf f (m ++ al)) t).reverse g t = - act f n.reverse g t) := by
      by_cases d : desc f t (nameOf f (m ++ al)).reverse
      · rcases eN with eN | eN
        · right
          intro g
          rw [sg, if_pos d, eN]
        · left
          intro g
          rw [sg, if_pos d, eN]
      · rcases eN with eN | eN
        · left
          intro g
          rw [sg, if_neg d, eN]
        · right
          intro g
          rw [sg, if_neg d, eN]
          omega
    rcases key with key | key
    · exact key (unit x)
    · exfalso
      obtain ⟨z, hz', w⟩ := p2.2
      have w : 0 < act f n.reverse (unit z) t := w
      have w2 : 0 ≤ act f (startC f (nameOf f (m ++ al)) t).reverse (unit z) t := p1.1 z hz'
      rw [key] at w2
      omega
  · rintro ⟨hts, e⟩
    rw [← h.prod]
    have e1 : ∀ y, mark f n.reverse t y = if desc f t (nameOf f (m ++ al)).reverse then - mark f (m ++ al).reverse t y else mark f (m ++ al).reverse t y := fun y => by
      have := sg (unit y)
      rw [e] at this
      exact this
    have e2 : prodV f ls (mark f m.reverse s) (mark f (m ++ al).reverse t) = 0 := by
      rw [prod_act h.nd ok h.mm mma h.hs h.ht, ← List.append_assoc, act_app, act_app, act_rev ok]
      have := mark_along (f := f) (s := s) (g := bt f t) (v := []) ok al1
      rw [List.append_nil] at this
      rw [this]
      exact bt_in ok (ok.sym _ _ hts)
    unfold prodV at e2 ⊢
    by_cases d : desc f t (nameOf f (m ++ al)).reverse
    · have e3 : sumL ls (fun x => mark f m.reverse s x * sumL ls fun y => mark f n.reverse t y * bt f y x) = sumL ls fun x => (-1) * (mark f m.reverse s x * sumL ls fun y => mark f (m ++ al).reverse t y * bt f y x) + 0 * 0 := sumL_congr fun x _ => by
        have e4 : sumL ls (fun y => mark f n.reverse t y * bt f y x) = sumL ls fun y => (-1) * (mark f (m ++ al).reverse t y * bt f y x) + 0 * 0 := sumL_congr fun y _ => by
          rw [e1, if_pos d, Int.neg_mul]
          omega
        rw [e4, sumL_comb (-1) 0 (fun y => mark f (m ++ al).reverse t y * bt f y x) (fun _ => 0), Int.mul_add, ← Int.mul_assoc, Int.mul_comm _ (-1), Int.mul_assoc]
        omega
      rw [e3, sumL_comb (-1) 0 _ (fun _ => 0), e2]
      omega
    · have e3 : sumL ls (fun x => mark f m.reverse s x * sumL ls fun y => mark f n.reverse t y * bt f y x) = sumL ls fun x => mark f m.reverse s x * sumL ls fun y => mark f (m ++ al).reverse t y * bt f y x := sumL_congr fun x _ => by
        rw [sumL_congr (u := fun y => mark f n.reverse t y * bt f y x) (v := fun y => mark f (m ++ al).reverse t y * bt f y x) fun y _ => by rw [e1, if_neg d]]
      rw [e3, e2]
end
end
end Cw
set_option Elab.async false
set_option linter.all false
set_option maxRecDepth 100000
set_option maxHeartbeats 4000000
/-! the walls on shortest ways from home, as lists of marks -/
namespace Cw
/-- the marks of the doors of a shortest way -/
def crL (f : Nat → List Nat) (n : List Nat) : List (Nat → Int) := (List.range n.length).map fun i => fun x => act f (n.take i).reverse (unit x) (n.getD i 0)
/-- without two that are alike -/
def NdV (ls : List Nat) (us : List (Nat → Int)) : Prop := us.Pairwise fun u v => ¬ ∀ x ∈ ls, u x = v x
theorem key_iff {ls : List Nat} {u v : Nat → Int} : ls.map u = ls.map v ↔ ∀ x ∈ ls, u x = v x := by
  induction ls with
  | nil => exact ⟨fun _ _ h => (nomatch h), fun _ => rfl⟩
  | cons y r ih =>
    rw [List.map_cons, List.map_cons, List.cons.injEq, ih]
    exact ⟨fun h x hx => (List.mem_cons.mp hx).elim (fun z => z ▸ h.1) (h.2 x), fun h => ⟨h y (List.mem_cons_self ..), fun x hx => h x (List.mem_cons_of_mem _ hx)⟩⟩
theorem NdV.key {ls : List Nat} {us : List (Nat → Int)} (h : NdV ls us) : (us.map fun u => ls.map u).Nodup := by
  unfold List.Nodup
  rw [List.pairwise_map]
  exact h.imp fun {a b} n z => n (key_iff.mp z)
theorem len_same {ls : List Nat} {us vs : List (Nat → Int)} (h1 : NdV ls us) (h2 : NdV ls vs) (a : ∀ u ∈ us, ∃ v ∈ vs, ∀ x ∈ ls, v x = u x) (b : ∀ v ∈ vs, ∃ u ∈ us, ∀ x ∈ ls, u x = v x) : us.length = vs.length := by
  have p := (List.perm_ext_iff_of_nodup h1.key h2.key).mpr fun k => by
    constructor
    · intro hk
      obtain ⟨u, hu, rfl⟩ := List.mem_map.mp hk
      obtain ⟨v, hv, e⟩ := a u hu
      exact List.mem_map.mpr ⟨v, hv, key_iff.mpr e⟩
    · intro hk
      obtain ⟨v, hv, rfl⟩ := List.mem_map.mp hk
      obtain ⟨u, hu, e⟩ := b v hv
      exact List.mem_map.mpr ⟨u, hu, key_iff.mpr e⟩
  have := p.length_eq
  rw [List.length_map, List.length_map] at this
  exact this
section
variable {f : Nat → List Nat} {ls : List Nat} {s : Nat}
theorem door_red {w : List Nat} (h : Red f w) {i : Nat} (hi : i < w.length) : ¬ desc f (w.getD i 0) (w.take i).reverse := by
  have e : w = w.take i ++ w.getD i 0 :: w.drop (i + 1) := by
    rw [List.getD_eq_getElem?_getD, List.getElem?_eq_getElem hi]
    show w = w.take i ++ w[i] :: w.drop (i + 1)
    rw [← List.drop_eq_getElem_cons hi, List.take_append_drop]
  have h2 : Red f ((w.take i ++ [w.getD i 0]) ++ w.drop (i + 1)) := by
    rw [List.append_assoc]
    show Red f (w.take i ++ w.getD i 0 :: w.drop (i + 1))
    rw [← e]
    exact h
  have h3 := (Red_left h2).rev
  rw [List.reverse_append] at h3
  exact h3.1
theorem getD_in {w : List Nat} {i : Nat} (h : i < w.length) : w.getD i 0 ∈ w := by
  rw [List.getD_eq_getElem?_getD, List.getElem?_eq_getElem h]
  exact List.getElem_mem h
/-- a door of a way lies in a wall: the rooms beyond it -/
theorem on_iff (hn : ls.Nodup) (ok : CrOk f) {w n : List Nat} (hw : NF f w) (mw : ∀ y ∈ w, y ∈ ls) {i : Nat} (hi : i < w.length) (nn : NF f n) (mn : ∀ y ∈ n, y ∈ ls) :
    (∃ u ∈ crL f n, ∀ x ∈ ls, u x = act f (w.take i).reverse (unit x) (w.getD i 0)) ↔ Ng f ls ((w.take i).reverse ++ n) (w.getD i 0) := by
  have mt : ∀ y ∈ w.take i, y ∈ ls := fun y hy => mw y (List.mem_of_mem_take hy)
  have hs := mw _ (getD_in hi)
  have hb := beyond_iff hn ok mt (NF.pre i hw) hs (door_red hw.red hi) nn mn
  have mW : ∀ y ∈ wayC f (w.take i) n, y ∈ ls := fun y hy => by
    rcases List.mem_append.mp (name_mem hy) with z | z
    · exact mt y (List.mem_reverse.mp z)
    · exact mn y z
  rw [← ng_name ok, show nameOf f ((w.take i).reverse ++ n) = wayC f (w.take i) n from rfl, ng_desc ok (show Red f (wayC f (w.take i) n) from (name_NF ok _).red) mW hs, hb]
  unfold crL
  constructor
  · rintro ⟨u, hu, h⟩
    obtain ⟨j, hj, rfl⟩ := List.mem_map.mp hu
    exact ⟨j, List.mem_range.mp hj, h⟩
  · rintro ⟨j, hj, h⟩
    exact ⟨_, List.mem_map.mpr ⟨j, List.mem_range.mpr hj, rfl⟩, h⟩
/-- a shortest way goes through no wall twice -/
theorem crL_nd (hn : ls.Nodup) (ok : CrOk f) {n : List Nat} (nn : NF f n) (mn : ∀ y ∈ n, y ∈ ls) : NdV ls (crL f n) := by
  unfold NdV crL
  rw [List.pairwise_map]
  refine List.Pairwise.imp_of_mem (R := fun i j => i < j) ?_ List.pairwise_lt_range
  intro i j hi hj hij h
  have hi := List.mem_range.mp hi
  have hj := List.mem_range.mp hj
  have hc := mn _ (getD_in hj)
  have key : ∀ k, i < k → k ≤ n.length → Ng f ls ((n.take i).reverse ++ n.take k) (n.getD i 0) := by
    intro k hk hk2
    have mk : ∀ y ∈ n.take k, y ∈ ls := fun y hy => mn y (List.mem_of_mem_take hy)
    refine (on_iff hn ok nn mn hi (NF.pre k nn) mk).mp ⟨_, List.mem_map.mpr ⟨i, List.mem_range.mpr (by rw [List.length_take]; omega), rfl⟩, fun x _ => ?_⟩
    show act f ((n.take k).take i).reverse (unit x) ((n.take k).getD i 0) = _
    rw [List.take_take, Nat.min_eq_left (Nat.le_of_lt hk)]
    congr 1
    rw [List.getD_eq_getElem?_getD, List.getD_eq_getElem?_getD, List.getElem?_take_of_lt hk]
  obtain ⟨x, hx, h1⟩ := key j hij (Nat.le_of_lt hj)
  have mi : ∀ y ∈ n.take i, y ∈ ls := fun y hy => mn y (List.mem_of_mem_take hy)
  have mj : ∀ y ∈ n.take j, y ∈ ls := fun y hy => mn y (List.mem_of_mem_take hy)
  have sw := act_swap hn ok mi mj (mn _ (getD_in hi)) hc (fun x hx => (h x hx).symm) (act f (n.take j) (unit x))
  have h1 : act f ((n.take i).reverse ++ n.take j) (unit x) (n.getD i 0) < 0 := h1
  rw [act_app, sw, act_rev ok] at h1
  unfold unit at h1
  split at h1 <;> omega
/-! ### the middle -/
theorem mid_on (hn : ls.Nodup) (ok : CrOk f) {a b c M : List Nat} (md : Mid f ls a b c M) (na : NF f a) (nb : NF f b) (nc : NF f c) (ma : ∀ y ∈ a, y ∈ ls) (mb : ∀ y ∈ b, y ∈ ls) (mc : ∀ y ∈ c, y ∈ ls) {w : List Nat} (hw : NF f w) (mw : ∀ y ∈ w, y ∈ ls) {u : Nat → Int} (hu : u ∈ crL f w) :
    (∃ v ∈ crL f M, ∀ x ∈ ls, v x = u x) ↔ ((∃ v ∈ crL f a, ∀ x ∈ ls, v x = u x) ∧ (∃ v ∈ crL f b, ∀ x ∈ ls, v x = u x)) ∨ ((∃ v ∈ crL f a, ∀ x ∈ ls, v x = u x) ∧ (∃ v ∈ crL f c, ∀ x ∈ ls, v x = u x)) ∨ ((∃ v ∈ crL f b, ∀ x ∈ ls, v x = u x) ∧ (∃ v ∈ crL f c, ∀ x ∈ ls, v x = u x)) := by
  obtain ⟨i, hi, rfl⟩ := List.mem_map.mp hu
  have hi := List.mem_range.mp hi
  have e := fun {n : List Nat} (nn : NF f n) (mn : ∀ y ∈ n, y ∈ ls) => on_iff (i := i) hn ok hw mw hi nn mn
  rw [e md.nf md.mem, e na ma, e nb mb, e nc mc]
  exact md.by' _ (fun y hy => mw y (List.mem_of_mem_take (List.mem_reverse.mp hy))) _ (mw _ (getD_in hi))
/-- the sum of the marks beyond which two of three rooms are -/
def dueM (ls : List Nat) (A B C : List (Nat → Int)) : List (Nat → Int) := (A ++ B.filter fun u => !decide (∃ v ∈ A, ∀ x ∈ ls, v x = u x)).filter fun u => decide (1 < ([A, B, C].filter fun S => decide (∃ v ∈ S, ∀ x ∈ ls, v x = u x)).length)
theorem two_of {p q r : Prop} [Decidable p] [Decidable q] [Decidable r] {α : Type} {A B C : α} {g : α → Bool} (h1 : g A = decide p) (h2 : g B = decide q) (h3 : g C = decide r) : 1 < ([A, B, C].filter g).length ↔ (p ∧ q) ∨ (p ∧ r) ∨ (q ∧ r) := by
  simp only [List.filter_cons, List.filter_nil, h1, h2, h3]
  by_cases p <;> by_cases q <;> by_cases r <;> simp_all
theorem mid_due (hn : ls.Nodup) (ok : CrOk f) {a b c M : List Nat} (md : Mid f ls a b c M) (na : NF f a) (nb : NF f b) (nc : NF f c) (ma : ∀ y ∈ a, y ∈ ls) (mb : ∀ y ∈ b, y ∈ ls) (mc : ∀ y ∈ c, y ∈ ls) :
    (crL f M).length = (dueM ls (crL f a) (crL f b) (crL f c)).length ∧ ((dueM ls (crL f a) (crL f b) (crL f c)).filter fun u => !decide (∃ v ∈ crL f M, ∀ x ∈ ls, v x = u x)) = [] := by
  have ndA := crL_nd hn ok na ma
  have ndB := crL_nd hn ok nb mb
  have sub : ∀ u ∈ dueM ls (crL f a) (crL f b) (crL f c), ∃ v ∈ crL f M, ∀ x ∈ ls, v x = u x := by
    intro u hu
    have h1 := List.mem_filter.mp hu
    have h2 := (two_of (g := fun S : List (Nat → Int) => decide (∃ v ∈ S, ∀ x ∈ ls, v x = u x)) rfl rfl rfl).mp (of_decide_eq_true h1.2)
    rcases List.mem_append.mp h1.1 with z | z
    · exact (mid_on hn ok md na nb nc ma mb mc na ma z).mpr h2
    · exact (mid_on hn ok md na nb nc ma mb mc nb mb (List.mem_filter.mp z).1).mpr h2
  refine ⟨len_same (crL_nd hn ok md.nf md.mem) ?_ ?_ sub, ?_⟩
  · unfold dueM
    refine List.Pairwise.filter _ ?_
    rw [List.pairwise_append]
    refine ⟨ndA, List.Pairwise.filter _ ndB, fun u hu v hv h => ?_⟩
    have := (List.mem_filter.mp hv).2
    simp only [Bool.not_eq_true', decide_eq_false_iff_not] at this
    exact this ⟨u, hu, h⟩
  · intro u hu
    have h := (mid_on hn ok md na nb nc ma mb mc md.nf md.mem hu).mp ⟨u, hu, fun _ _ => rfl⟩
    have put : ∀ v, (v ∈ crL f a ∨ (v ∈ crL f b ∧ ¬ ∃ z ∈ crL f a, ∀ x ∈ ls, z x = v x)) → (∀ x ∈ ls, v x = u x) → ∃ v ∈ dueM ls (crL f a) (crL f b) (crL f c), ∀ x ∈ ls, v x = u x := by
      intro v hv e
      refine ⟨v, List.mem_filter.mpr ⟨?_, decide_eq_true ((two_of (g := fun S : List (Nat → Int) => decide (∃ z ∈ S, ∀ x ∈ ls, z x = v x)) rfl rfl rfl).mpr ?_)⟩, e⟩
      · rcases hv with z | ⟨z, n⟩
        · exact List.mem_append_left _ z
        · refine List.mem_append_right _ (List.mem_filter.mpr ⟨z, ?_⟩)
          simp only [Bool.not_eq_true', decide_eq_false_iff_not]
          exact n
      · have t : ∀ S : List (Nat → Int), (∃ z ∈ S, ∀ x ∈ ls, z x = u x) → ∃ z ∈ S, ∀ x ∈ ls, z x = v x := fun S ⟨z, hz, h⟩ => ⟨z, hz, fun x hx => (h x hx).trans (e x hx).symm⟩
        exact h.imp (fun h => ⟨t _ h.1, t _ h.2⟩) fun h => h.imp (fun h => ⟨t _ h.1, t _ h.2⟩) fun h => ⟨t _ h.1, t _ h.2⟩
    by_cases ha : ∃ v ∈ crL f a, ∀ x ∈ ls, v x = u x
    · obtain ⟨v, hv, e⟩ := ha
      exact put v (.inl hv) e
    · have hb : ∃ v ∈ crL f b, ∀ x ∈ ls, v x = u x := by
        rcases h with h | h | h
        · exact h.2
        · exact absurd h.1 ha
        · exact h.1
      obtain ⟨v, hv, e⟩ := hb
      exact put v (.inr ⟨hv, fun ⟨z, hz, h⟩ => ha ⟨z, hz, fun x hx => (h x hx).trans (e x hx)⟩⟩) e
  · rw [List.filter_eq_nil_iff]
    intro u hu h
    simp only [Bool.not_eq_true', decide_eq_false_iff_not] at h
    exact h (sub u hu)
end
end Cw
set_option Elab.async false
set_option linter.all false
set_option maxRecDepth 100000
set_option maxHeartbeats 4000000
namespace Cw
open PySem PySem.Spec L2
/-! ### lists of vectors -/
theorem paired_get {α β : Type} {r : α → β → Prop} : ∀ {as : List α} {bs : List β} {k : Nat} (da : α) (db : β), Paired r as bs → k < bs.length → r (as.getD k da) (bs.getD k db)
  | _, _, 0, _, _, .cons h _, _ => h
  | _, _, k + 1, da, db, .cons _ t, hk => paired_get (k := k) da db t (by simpa using hk)
theorem paired_pick {α β : Type} {r : α → β → Prop} {as : List α} {bs : List β} (da : α) (db : β) (h : Paired r as bs) : ∀ (ks : List Nat), (∀ k ∈ ks, k < bs.length) → Paired r (ks.map fun k => as.getD k da) (ks.map fun k => bs.getD k db)
  | [], _ => .nil
  | k :: r', hk => .cons (paired_get da db h (hk k (List.mem_cons_self ..))) (paired_pick da db h r' fun j hj => hk j (List.mem_cons_of_mem _ hj))
theorem filt_range {α : Type} (d : α) (b : α → Bool) (us : List α) : us.filter b = ((List.range us.length).filter fun k => b (us.getD k d)).map fun k => us.getD k d := by
  have e : us = (List.range us.length).map fun k => us.getD k d := by
    apply List.ext_getElem
    · simp
    · intro i h1 h2
      rw [List.getElem_map, List.getElem_range, List.getD_eq_getElem?_getD, List.getElem?_eq_getElem h1]
      rfl
  rw (config := { occs := .pos [1] }) [e]
  rw [List.filter_map]
  rfl
section
variable {K : PySem.W.Frag} {H : Hp} {ls : List Nat} {us : List (Nat → Int)} {As : List Addr} {D0 : Addr} {σ : St} {i : Nat} {tt : TT} {te : TE} {P : Addr → Hp → Prop}
theorem walk_refs (hl : As.length = us.length) : Walk (Itl K D0) us.length (fun H => SqL K H D0 (As.map V.ref)) (YFn fun k => V.ref (As.getD k 0)) := by
  have w := walk_list (K := K) (a := D0) (xs := As.map V.ref)
  rw [List.length_map, hl] at w
  refine w.mono (fun _ z => z) fun k H x H' hk _ y => ?_
  obtain ⟨rfl, e⟩ := y
  refine ⟨rfl, ?_⟩
  rw [List.getElem?_map, List.getElem?_eq_getElem (by omega)] at e
  injection e with e
  show x = V.ref (As.getD k 0)
  rw [← e, List.getD_eq_getElem?_getD, List.getElem?_eq_getElem (by omega)]
  rfl
/-- [u for u in us if b(u)] of vectors -/
theorem filtV (e : H D0 = some (.lst (As.map V.ref))) (pr : Paired (fun a u => H a = some (.tup (vecV ls u))) As us) (hn : us.length ≤ 1000000) (b : (Nat → Int) → Bool)
    (ht : ∀ a u, u ∈ us → H a = some (.tup (vecV ls u)) → ∀ H1, Same H H1 → ∀ R : Bool → Hp → Prop, (∀ H2, Same H1 H2 → R (b u) H2) → tt ((wipe σ [i]).set i (some (.ref a))) H1 R)
    (he : ∀ a H1, ∀ R : VK, R (.ref a) H1 → te ((wipe σ [i]).set i (some (.ref a))) H1 R)
    (q : ∀ D H', H D = none → Same H H' → VecsAt H' D ls (us.filter b) → P D H') :
    ∀ D, H D = none → ∃ W : Nat → Nat → Hp → Prop, (∃ m, W 0 m (upd H D (.lst []))) ∧ ∀ k m H, W k m H →
      ((Itl K D0).stop k H ∧ P D H) ∨ ((Itl K D0).go k H ∧ ∃ Nx : Hp → Prop, (∀ H', Nx H' → ∃ m', m' < m ∧ W (k + 1) m' H') ∧ ∀ x H', (Itl K D0).yld k H x H' → (gName i) x (wipe σ [i]) H' fun s2 H2 => wipe s2 [i] = wipe σ [i] ∧ tt s2 H2 fun c H3 =>
        if c = true then te s2 H3 fun y H4 => ∃ acc, H4 D = some (.lst acc) ∧ acc.length < sizeLine ∧ Nx (upd H4 D (.lst (acc ++ [y]))) else Nx H3) := by
  have hl := paired_len pr
  refine lc_gen (n := us.length) (it := fun k => V.ref (As.getD k 0)) (b := fun k => b (us.getD k fun _ => 0)) (f := fun k => V.ref (As.getD k 0)) (walk_refs hl) (fun H' s' => SqL.of (s' _ _ e)) hn (fun k hk H1 s1 R r => ?_) (fun k hk c H1 s1 R r => ?_) (fun D H' hD s' e' => ?_)
  · have hu : us.getD k (fun _ => 0) ∈ us := by
      rw [List.getD_eq_getElem?_getD, List.getElem?_eq_getElem hk]
      exact List.getElem_mem hk
    exact ht _ _ hu (paired_get 0 (fun _ => 0) pr hk) H1 s1 R r
  · exact he _ H1 R (r H1 (Same.refl _))
  · refine q D H' hD s' ⟨((List.range us.length).filter fun k => b (us.getD k fun _ => 0)).map fun k => As.getD k 0, ?_, ?_⟩
    · rw [e', List.map_map]
      rfl
    · rw [filt_range (fun _ => 0) b us]
      exact paired_imp (fun a u h => s' _ _ h) (paired_pick 0 (fun _ => 0) pr _ fun k hk => List.mem_range.mp (List.mem_filter.mp hk).1)
theorem VecsAt.cat {Q : VK} {D1 D2 : Addr} {vs : List (Nat → Int)} (h1 : VecsAt H D1 ls us) (h2 : VecsAt H D2 ls vs) (hl : us.length + vs.length ≤ 1000000) (q : ∀ D H', H D = none → Same H H' → VecsAt H' D ls (us ++ vs) → Q (.ref D) H') : rCat (.ref D1) (.ref D2) H Q := by
  obtain ⟨As, a1, a2⟩ := h1.ex
  obtain ⟨Bs, b1, b2⟩ := h2.ex
  have la := paired_len a2
  have lb := paired_len b2
  refine v_cat a1 b1 (by rw [List.length_map, List.length_map]; omega) fun D H' hD s' e' => q D H' hD s' ⟨As ++ Bs, by rw [e', List.map_append], ?_⟩
  have app : ∀ {A : List Addr} {U : List (Nat → Int)}, Paired (fun a u => H' a = some (.tup (vecV ls u))) A U → Paired (fun a u => H' a = some (.tup (vecV ls u))) (A ++ Bs) (U ++ vs) := fun {A U} p => by
    induction p with
    | nil => exact paired_imp (fun _ _ h => s' _ _ h) b2
    | cons h _ ih => exact .cons h ih
  exact app (paired_imp (fun _ _ h => s' _ _ h) a2)
theorem v_lenV {Q : VK} {D : Addr} (h : VecsAt H D ls us) (q : Q (.int (us.length : Nat)) H) : rLen K [.ref D] H Q := by
  obtain ⟨As, e, p⟩ := h.ex
  refine v_len e ?_
  rw [List.length_map, paired_len p]
  exact q
theorem v_neNilV {Q : VK} {D q : Addr} (h : VecsAt H D ls us) (hq : H q = some (.lst [])) (k : Q (.bl (!us.isEmpty)) H) : rNeD K (.ref D) (.ref q) H Q := by
  obtain ⟨As, e, p⟩ := h.ex
  refine ⟨.list (us.map (vecD ls)), .list [], .lst (SqL.of e) (dp_vecs p), .lst (SqL.of hq) .nil, shaped_vecs ls us, shaped_nil, ?_⟩
  rw [eqv_nil, List.isEmpty_map]
  exact k
theorem v_notInV {Q : VK} {p D : Addr} {v : Nat → Int} (h1 : H p = some (.tup (vecV ls v))) (h2 : VecsAt H D ls us) (k : Q (.bl (!decide (∃ u ∈ us, ∀ x ∈ ls, u x = v x))) H) : rNotInD K (.ref p) (.ref D) H Q := by
  obtain ⟨As, e, pr⟩ := h2.ex
  refine ⟨vecD ls v, us.map (vecD ls), .tup (SqT.of h1) (dp_vec _ _), .lst (SqL.of e) (dp_vecs pr), shaped_intsT _, shaped_vecs ls us, ?_⟩
  have e2 : ((us.map (vecD ls)).any fun z => PyData.eqv z (vecD ls v)) = decide (∃ u ∈ us, ∀ x ∈ ls, u x = v x) := by
    rw [List.any_map, Bool.eq_iff_iff, List.any_eq_true, decide_eq_true_iff]
    exact ⟨fun ⟨u, hu, h⟩ => ⟨u, hu, by simpa [eqv_vec] using h⟩, fun ⟨u, hu, h⟩ => ⟨u, hu, by simpa [eqv_vec] using h⟩⟩
  rw [e2]
  exact k
theorem VecsAt.pen {D : Addr} {g : Pen} {n : Nat} {H' : Hp} (h : VecsAt H D ls us) (p : PenAt g H n) (kp : Keep g.p H H') : VecsAt H' D ls us := by
  obtain ⟨As, e, pr⟩ := h.ex
  obtain ⟨_, _, h1, _⟩ := p.ex
  exact ⟨As, kp _ _ e (ne_of e h1 (by intro z; cases z)), paired_imp (fun a u z => kp _ _ z (ne_of z h1 (by intro z; cases z))) pr⟩
theorem VecsAt.keep {D p : Addr} {l : List V} {H' : Hp} (h : VecsAt H p ls us) (n : p ≠ D) (e0 : H D = some (.lst l)) (k : Keep D H H') : VecsAt H' p ls us := by
  obtain ⟨As, e, pr⟩ := h.ex
  exact ⟨As, k _ _ e n, paired_imp (fun a u z => k _ _ z (ne_of z e0 (by intro z; cases z))) pr⟩
/-- [crossed(..) for x in ..]: new lists of vectors -/
theorem lc_vecs {J : It} {n : Nat} {G : Hp → Prop} {it : Nat → V} (U : Nat → List (Nat → Int)) (w : Walk J n G (fun k H x H' => H' = H ∧ x = it k)) (hG : ∀ H', Same H H' → G H') (hn : n ≤ 1000000)
    (ht : ∀ k, k < n → ∀ H1, Same H H1 → ∀ R : Bool → Hp → Prop, (∀ H2, Same H1 H2 → R true H2) → tt ((wipe σ [i]).set i (some (it k))) H1 R)
    (he : ∀ k, k < n → ∀ H1, Same H H1 → ∀ R : VK, (∀ p H2, H1 p = none → Same H1 H2 → VecsAt H2 p ls (U k) → R (.ref p) H2) → te ((wipe σ [i]).set i (some (it k))) H1 R)
    (q : ∀ D H' (ps : List Addr), H D = none → Same H H' → H' D = some (.lst (ps.map V.ref)) → ps.length = n → (∀ k p, ps[k]? = some p → VecsAt H' p ls (U k)) → P D H') :
    ∀ D, H D = none → ∃ W : Nat → Nat → Hp → Prop, (∃ m, W 0 m (upd H D (.lst []))) ∧ ∀ k m H, W k m H →
      (J.stop k H ∧ P D H) ∨ (J.go k H ∧ ∃ Nx : Hp → Prop, (∀ H', Nx H' → ∃ m', m' < m ∧ W (k + 1) m' H') ∧ ∀ x H', J.yld k H x H' → (gName i) x (wipe σ [i]) H' fun s2 H2 => wipe s2 [i] = wipe σ [i] ∧ tt s2 H2 fun c H3 =>
        if c = true then te s2 H3 fun y H4 => ∃ acc, H4 D = some (.lst acc) ∧ acc.length < sizeLine ∧ Nx (upd H4 D (.lst (acc ++ [y]))) else Nx H3) := by
  intro D hD
  refine lc_it w (vs := [i]) (σ := σ) (g := gName i) (tt := tt) (te := te) (Qd := fun H' => P D H') (fun k H' => Same H H' ∧ ∃ ps : List Addr, H' D = some (.lst (ps.map V.ref)) ∧ ps.length = k ∧ ∀ j p, ps[j]? = some p → p ≠ D ∧ VecsAt H' p ls (U j))
    ⟨Same.new hD, [], upd_same, rfl, fun j p z => by simp at z⟩ (fun k H' _ p => hG H' p.1) (fun k x H1 H2 hk p y => ?_) (fun H' p => ?_)
  · obtain ⟨p1, ps, p2, p3, p4⟩ := p
    obtain ⟨rfl, rfl⟩ := y
    refine ⟨wipe1, ht k hk _ p1 _ fun H3 s3 => ?_⟩
    rw [if_pos rfl]
    refine he k hk _ (p1.trans s3) _ fun v H4 hv s4 r4 => ?_
    have e3 := s3 _ _ p2
    have e4 := s4 _ _ e3
    have nv : v ≠ D := (ne_of_none e3 hv).symm
    refine ⟨ps.map V.ref, e4, szlt (by rw [List.length_map]; omega), fun a o ha => ?_, ps ++ [v], ?_, by rw [List.length_append, p3]; rfl, fun j u hj => ?_⟩
    · rw [upd_ne (ne_of_none ha hD)]
      exact s4 _ _ (s3 _ _ (p1 _ _ ha))
    · rw [upd_same, List.map_append]
      rfl
    · by_cases c : j < ps.length
      · rw [List.getElem?_append_left c] at hj
        obtain ⟨n1, n2⟩ := p4 j u hj
        exact ⟨n1, ((n2.same s3).same s4).keep n1 e4 Keep.put⟩
      · rw [List.getElem?_append_right (by omega)] at hj
        have hj0 : j - ps.length = 0 := by
          have := (List.getElem?_eq_some_iff.mp hj).1
          simp at this
          omega
        rw [hj0] at hj
        injection hj with hj
        subst hj
        have : j = k := by omega
        subst this
        exact ⟨nv, r4.keep nv e4 Keep.put⟩
  · obtain ⟨p1, ps, p2, p3, p4⟩ := p
    exact q D H' ps hD p1 p2 p3 fun k p hk => (p4 k p hk).2
end
end Cw
set_option Elab.async false
set_option linter.all false
set_option maxRecDepth 100000
set_option maxHeartbeats 4000000
/-! the gate of rooms, seen from a room -/
namespace Cw
section
variable {f : Nat → List Nat} {ls : List Nat}
structure Gate (f : Nat → List Nat) (ls : List Nat) (r : List Nat) (S : List (List Nat)) (N : List Nat) : Prop where
  nf : NF f N
  mem : ∀ y ∈ N, y ∈ ls
  ne : S ≠ []
  by' : ∀ z, (∀ y ∈ z, y ∈ ls) → ∀ s ∈ ls, (Ng f ls (z ++ N) s ↔ (Ng f ls (z ++ r) s ∧ ∃ x ∈ S, Ng f ls (z ++ x) s) ∨ ∀ x ∈ S, Ng f ls (z ++ x) s)
  bt : ∀ x ∈ S, Btw f r x N
theorem btw_end (ok : CrOk f) {a b : List Nat} : Btw f a b b := by
  unfold Btw
  rw [way_self ok]
  rfl
theorem Gate.one (ok : CrOk f) {r x : List Nat} (nx : NF f x) (mx : ∀ y ∈ x, y ∈ ls) : Gate f ls r [x] x where
  nf := nx
  mem := mx
  ne := by simp
  by' z hz s hs := by simp
  bt y hy := by rw [List.mem_singleton.mp hy]; exact btw_end ok
theorem Gate.step (ok : CrOk f) {r N x N' : List Nat} {S : List (List Nat)} (h : Gate f ls r S N) (m : MidX f ls r N x N') : Gate f ls r (S ++ [x]) N' where
  nf := m.nf
  mem := m.mem
  ne := by simp
  by' z hz s hs := by
    rw [m.by' z hz s hs, h.by' z hz s hs]
    obtain ⟨y, S', e⟩ : ∃ y S', S = y :: S' := by
      cases hS : S with
      | nil => exact absurd hS h.ne
      | cons y S' => exact ⟨y, S', rfl⟩
    have ex : (∀ x ∈ S, Ng f ls (z ++ x) s) → ∃ x ∈ S, Ng f ls (z ++ x) s := fun a => ⟨y, by rw [e]; exact List.mem_cons_self .., a y (by rw [e]; exact List.mem_cons_self ..)⟩
    simp only [List.mem_append, List.mem_singleton]
    have e1 : (∃ w, (w ∈ S ∨ w = x) ∧ Ng f ls (z ++ w) s) ↔ (∃ w ∈ S, Ng f ls (z ++ w) s) ∨ Ng f ls (z ++ x) s := by
      constructor
      · rintro ⟨w, a | rfl, b⟩
        · exact .inl ⟨w, a, b⟩
        · exact .inr b
      · rintro (⟨w, a, b⟩ | b)
        · exact ⟨w, .inl a, b⟩
        · exact ⟨x, .inr rfl, b⟩
    have e2 : (∀ w, (w ∈ S ∨ w = x) → Ng f ls (z ++ w) s) ↔ (∀ w ∈ S, Ng f ls (z ++ w) s) ∧ Ng f ls (z ++ x) s := ⟨fun a => ⟨fun w hw => a w (.inl hw), a x (.inr rfl)⟩, fun a w hw => hw.elim (a.1 w) fun z => z ▸ a.2⟩
    rw [e1, e2]
    generalize (∃ w ∈ S, Ng f ls (z ++ w) s) = EX at *
    generalize (∀ w ∈ S, Ng f ls (z ++ w) s) = AL at *
    generalize Ng f ls (z ++ r) s = R
    generalize Ng f ls (z ++ x) s = X
    by_cases R <;> by_cases X <;> by_cases EX <;> by_cases AL <;> simp_all
  bt y hy := by
    rcases List.mem_append.mp hy with hy | hy
    · have h1 := h.bt y hy
      have h2 := m.ab
      have t1 := way_tri ok r y N'
      have t2 := way_tri ok N' y N
      unfold Btw at *
      omega
    · rw [List.mem_singleton.mp hy]
      exact m.ac
theorem Gate.uniq (ok : CrOk f) {r N N' : List Nat} {S S' : List (List Nat)} (h : Gate f ls r S N) (h' : Gate f ls r S' N') (e : ∀ x, x ∈ S ↔ x ∈ S') : N = N' := by
  refine room_uniq ok h.nf h'.nf h.mem h'.mem fun s hs z => ?_
  have hz : ∀ y ∈ N.reverse, y ∈ ls := fun y hy => h.mem y (List.mem_reverse.mp hy)
  rw [h'.by' _ hz s hs] at z
  simp only [← e] at z
  exact ng_back ok N s ((h.by' _ hz s hs).mpr z)
theorem Gate.door (ok : CrOk f) {r N : List Nat} {S : List (List Nat)} (h : Gate f ls r S N) {s : Nat} (hs : s ∈ ls) : ∃ x ∈ S, ¬ Ng f ls (N.reverse ++ x) s := by
  refine Classical.byContradiction fun n => ?_
  have hz : ∀ y ∈ N.reverse, y ∈ ls := fun y hy => h.mem y (List.mem_reverse.mp hy)
  exact ng_back ok N s ((h.by' _ hz s hs).mpr (.inr fun x hx => Classical.byContradiction fun m => n ⟨x, hx, m⟩))
/-- the gate is its own gate -/
theorem Gate.self (ok : CrOk f) {r N N' : List Nat} {S : List (List Nat)} (h : Gate f ls r S N) (h' : Gate f ls N S N') : N' = N := by
  refine (room_uniq ok h.nf h'.nf h.mem h'.mem fun s hs z => ?_).symm
  have hz : ∀ y ∈ N.reverse, y ∈ ls := fun y hy => h.mem y (List.mem_reverse.mp hy)
  rw [h'.by' _ hz s hs] at z
  obtain ⟨x, hx, n⟩ := h.door ok hs
  rcases z with z | z
  · exact ng_back ok N s z.1
  · exact n (z x hx)
end
end Cw
set_option Elab.async false
set_option linter.all false
set_option maxRecDepth 100000
set_option maxHeartbeats 4000000
/-! gates -/
namespace Cw
open PySem PySem.Spec L2
local macro_rules | `(tactic| walk_at "side") => `(tactic| first | omega | assumption | (dsimp only; omega) | (unfold CMul; omega) | exact ⟨by decide, by decide, by decide⟩ | exact wdiv (by first | assumption | decide | omega) (by first | assumption | decide | omega) | (simp only [List.length_cons, List.length_nil]; omega) | rfl)
local macro_rules | `(tactic| walk_at "hl") => `(tactic| first | assumption | exact upd_same | ((refine Cw.Same.at (by assumption) ?_); walk_at "hl") | ((refine Cw.Keep.at (by assumption) ?_ (by assumption)); walk_at "hl"))
local macro_rules | `(tactic| walk_at "st") => `(tactic| first
  | (with_reducible refine s_seq ?_) | (with_reducible refine g_nm ?_) | (with_reducible refine s_next ?_) | (with_reducible refine s_set ?_) | (with_reducible refine s_drop ?_) | (with_reducible refine s_ret ?_) | (with_reducible refine s_if ?_)
  | ((with_reducible refine e_varG ?_); refine ⟨_, (by with_unfolding_all rfl), ?_⟩) | (with_reducible refine e_c ?_) | (with_reducible refine e_op ?_) | (with_reducible refine e_un ?_)
  | (with_reducible refine e_cons ?_) | (with_reducible refine e_nil ?_) | (with_reducible refine e_cb ?_) | (with_reducible refine e_call ?_) | (with_reducible refine e_md ?_)
  | (with_reducible refine t_test ?_) | (with_reducible refine t_B ?_) | (with_reducible refine t_and ?_) | (with_reducible refine t_or ?_) | (with_reducible refine t_not ?_)
  | (with_reducible refine e_andV ?_) | (with_reducible refine e_orV ?_) | (with_reducible refine e_notV ?_) | (with_reducible refine e_if ?_)
  | (with_reducible refine v_I0 ?_) | ((with_reducible refine v_I ?c ?_); try (case c => walk_at "side")) | (with_reducible refine v_bl ?_)
  | ((with_reducible refine v_eq ?c ?_); (case c => with_unfolding_all rfl)) | ((with_reducible refine v_ne ?c ?_); (case c => with_unfolding_all rfl))
  | (with_reducible refine v_inti ?_) | (with_reducible refine v_intb ?_) | ((with_reducible refine v_lenG ?_); refine ⟨_, (by walk_at "hl"), ?_⟩)
  | ((with_reducible refine v_lenS ?c ?_); try (case c => walk_at "side"))
  | (with_reducible refine e_dnew ?_) | (with_reducible refine e_dget ?_) | (with_reducible refine s_dput ?_) | (with_reducible refine e_lst ?_) | (with_reducible refine e_tup ?_)
  | ((with_reducible refine v_lst ?c ?_); (case c => walk_at "side")) | ((with_reducible refine v_tup ?c ?_); (case c => walk_at "side"))
  | ((with_reducible refine v_dgetG ?_); refine ⟨_, (by assumption), ?_⟩)
  | (with_reducible refine e_sl ?_) | (with_reducible refine e_nopart ?_) | (with_reducible refine e_part ?_) | (with_reducible refine e_m1 ?_) | (with_reducible refine v_isS ?_) | (with_reducible refine v_int ?_)
  | (with_reducible refine e_lc ?_) | (with_reducible refine e_iStr ?_) | (with_reducible refine e_iEnumS ?_) | (with_reducible refine v_iEnumS ?_) | (with_reducible refine v_str ?_) | (with_reducible refine e_yes ?_) | (with_reducible refine e_fld ?_) | (with_reducible refine e_sfld ?_)
  | ((with_reducible refine v_addS ?c ?_); try (case c => walk_at "side")) | (with_reducible refine v_inS ?_) | (with_reducible refine v_notInS ?_) | (with_reducible refine v_ltS ?_)
  | ((with_reducible refine v_inLG ?_); refine ⟨_, (by walk_at "hl"), ?_⟩) | (with_reducible refine v_isiS ?_) | (with_reducible refine e_revS ?_) | ((with_reducible refine v_revS ?c ?_); try (case c => walk_at "side"))
  | ((with_reducible refine v_lenSetG ?_); refine ⟨_, (by walk_at "hl"), ?_⟩)
  | (with_reducible refine e_bm ?_) | (with_reducible refine e_bm0 ?_) | ((with_reducible refine v_tyLG ?_); refine ⟨_, (by walk_at "hl"), ?_⟩)
  | (with_reducible refine iteNT ?_) | (with_reducible refine iteNF ?_) | (with_reducible refine e_for ?_)
  | (with_reducible refine e_iL ?_) | (with_reducible refine e_iT ?_) | ((with_reducible refine v_iLG ?_); refine ⟨_, (by walk_at "hl"), ?_⟩) | (with_reducible refine e_iR1 ?_) | ((with_reducible refine v_iR1 ?c1 ?c2 ?_); try (case c1 => walk_at "side"); try (case c2 => walk_at "side"))
  | (with_reducible refine e_iR2 ?_) | ((with_reducible refine v_iR2 ?c1 ?_); try (case c1 => walk_at "side"))
  | (with_reducible refine e_pr0 ?_) | (with_reducible refine e_pr ?_) | (with_reducible refine e_disp ?_) | (with_reducible refine s_asgT ?_) | (with_reducible refine e_tryA ?_) | (with_reducible refine e_callS ?_) | (with_reducible refine e_mdS ?_) | (with_reducible refine e_par ?_) | (with_reducible refine v_par ?_) | (with_reducible refine e_par3 ?_) | (with_reducible refine v_par3 ?_) | (with_reducible refine e_iK ?_) | (with_reducible refine e_dnotin ?_)
  | (with_reducible refine iteT ?_) | (with_reducible refine iteF ?_))
local macro_rules | `(tactic| walk_at "go") => `(tactic| repeat walk_at "st")
theorem Gate.cong {f : Nat → List Nat} {ls r N : List Nat} {S S' : List (List Nat)} (h : Gate f ls r S N) (e : ∀ x, x ∈ S ↔ x ∈ S') : Gate f ls r S' N where
  nf := h.nf
  mem := h.mem
  ne := by
    intro z
    refine h.ne (List.eq_nil_iff_forall_not_mem.mpr fun x hx => ?_)
    have := (e x).mp hx
    rw [z] at this
    cases this
  by' z hz s hs := by
    rw [h.by' z hz s hs]
    simp only [e]
  bt x hx := h.bt x ((e x).mpr hx)
theorem Gate.len {f : Nat → List Nat} {ls r N x : List Nat} {S : List (List Nat)} (ok : CrOk f) (h : Gate f ls r S N) (hx : x ∈ S) : N.length ≤ 2 * r.length + x.length := by
  have b := h.bt x hx
  unfold Btw at b
  have w := way_le f r x
  have e := way_goes ok r N
  have e2 : nameOf f N = N := (is_NF ok).mpr h.nf
  have l : (nameOf f (r ++ wayC f r N)).length ≤ (r ++ wayC f r N).length := name_len f _
  rw [e, e2, List.length_append] at l
  omega
/-- rooms of one floor in a list or a tuple -/
structure RoomsQ (K : PySem.W.Frag) (C R : Addr) (H : Hp) (p : Addr) (ls : List Nat) (fn : Nat → List Nat) (S : List (List Nat)) : Prop where
  ex : ∃ rs : List (Addr × Addr), SeqO K H p (rs.map fun a => V.ref a.1) ∧ Paired (fun a s => RoomAt R H a.1 a.2 s ∧ PlanAt C H a.2 (ascOf ls) (tabPairs ls fn)) rs S
theorem RoomsQ.same {K : PySem.W.Frag} {C R : Addr} {H H' : Hp} {p : Addr} {ls : List Nat} {fn : Nat → List Nat} {S : List (List Nat)} (h : RoomsQ K C R H p ls fn S) (s : Same H H') : RoomsQ K C R H' p ls fn S := by
  obtain ⟨rs, e, pr⟩ := h.ex
  exact ⟨rs, e.same s, paired_imp (fun a b z => ⟨z.1.same s, z.2.same s⟩) pr⟩
theorem paired_mem {α β : Type} {r : α → β → Prop} : ∀ {as : List α} {bs : List β}, Paired r as bs → ∀ b ∈ bs, ∃ a ∈ as, r a b
  | _, _, .nil, _, hb => nomatch hb
  | a :: _, _, .cons h t, b, hb => by
    rcases List.mem_cons.mp hb with z | z
    · exact ⟨a, List.mem_cons_self .., z ▸ h⟩
    · obtain ⟨a', h1, h2⟩ := paired_mem t b z
      exact ⟨a', List.mem_cons_of_mem _ h1, h2⟩
def Small (fn : Nat → List Nat) (ls s : List Nat) : Prop := NF fn s ∧ (∀ c ∈ s, c ∈ ls) ∧ s.length ≤ 600
def spNeedRooms (K : PySem.W.Frag) (C R : Addr) : Sp := fun vs H Q _ => ∃ (p : Addr) (ls : List Nat) (fn : Nat → List Nat) (S : List (List Nat)), vs = [.ref p] ∧ RoomsQ K C R H p ls fn S ∧ S ≠ [] ∧ S.length ≤ 1000 ∧ Fl ls fn ∧ ∀ x H', Same H H' → PlanAt C H' x (ascOf ls) (tabPairs ls fn) → Q (.ref x) H'
def spGate (K : PySem.W.Frag) (C R : Addr) : Sp := fun vs H Q _ => ∃ (ra x p : Addr) (a : List Nat) (ls : List Nat) (fn : Nat → List Nat) (S : List (List Nat)), vs = [.ref ra, .ref p] ∧ RoomAt R H ra x a ∧ PlanAt C H x (ascOf ls) (tabPairs ls fn) ∧ RoomsQ K C R H p ls fn S ∧ S ≠ [] ∧ S.length ≤ 1000 ∧ Fl ls fn ∧ Small fn ls a ∧ (∀ s ∈ S, Small fn ls s) ∧
  ∀ N r z H', H r = none → Same H H' → Gate fn ls a S N → RoomAt R H' r z N → PlanAt C H' z (ascOf ls) (tabPairs ls fn) → Q (.ref r) H'
section
variable {K : PySem.W.Frag} {H : Hp} {Q : VK} {p : Addr} {xs : List V} {v : V}
theorem v_ixQ {i : Int} (h : SeqO K H p xs) (e : atI xs i = some v) (q : Q v H) : rIxL K (.ref p) (.int i) H Q ∨ rIxT K (.ref p) (.int i) H Q := by
  rcases h with h | h | ⟨rfl, _⟩
  · exact .inl ⟨p, xs, i, v, rfl, rfl, SqL.of h, e, q⟩
  · exact .inr ⟨p, xs, i, v, rfl, rfl, SqT.of h, e, q⟩
  · unfold atI at e
    simp at e
theorem v_lenQ (h : SeqO K H p xs) (q : Q (.int xs.length) H) : rLen K [.ref p] H Q := by
  rcases h with h | h | ⟨rfl, o, n, h, c, e⟩
  · exact ⟨p, xs, rfl, .inl (SqL.of h), q⟩
  · exact ⟨p, xs, rfl, .inr (SqT.of h), q⟩
  · exact ⟨p, [], rfl, .inr (.inr ⟨o, #[], n, h, c, e, by decide, .nil⟩), q⟩
end
def spInHull (K : PySem.W.Frag) (C R : Addr) : Sp := fun vs H Q _ => ∃ (ra x p : Addr) (a : List Nat) (ls : List Nat) (fn : Nat → List Nat) (S : List (List Nat)), vs = [.ref ra, .ref p] ∧ RoomAt R H ra x a ∧ PlanAt C H x (ascOf ls) (tabPairs ls fn) ∧ RoomsQ K C R H p ls fn S ∧ S ≠ [] ∧ S.length ≤ 1000 ∧ Fl ls fn ∧ Small fn ls a ∧ (∀ s ∈ S, Small fn ls s) ∧
  ∀ N H', Same H H' → Gate fn ls a S N → Q (.bl (decide (N = a))) H'
section
variable {P : Program} {w : World} {K : PySem.W.Frag} {mg : Str → Option Value} {base : Heap} {C R O : Addr}
abbrev stneed_rooms : Stmt := (top 34)
abbrev Nneed_rooms : List Str := ["rooms", "room"]
theorem scneed_rooms : FnScope Nneed_rooms ["rooms"] (defScope stneed_rooms) := ⟨rfl, rfl, rfl, by decide +kernel, rfl, by decide +kernel, by decide +kernel⟩

theorem ok_need_rooms (F : FnAt K mg "need_rooms" stneed_rooms) (T : TxtR K mg C R O) (D_need_same : Def P w K mg base CX0 3 "need_same" ["plan", "other"] (calmOf (spNeedSame C O))) : Def P w K mg base CX0 4 "need_rooms" ["rooms"] (spNeedRooms K C R) := by
  refine F.ok scneed_rooms (fun _ _ _ _ _ _ us hl => match us, hl with | [_], _ => rfl) (fun vs H Q E h => ?_) (fun f cdv A outer s H vs Q E hr h => ?_)
  · obtain ⟨p, ls, fn, S, rfl, _⟩ := h
    rfl
  obtain ⟨p, ls, fn, S, rfl, hq, hne, hl, fl, q⟩ := h
  have hu := hu_of hr
  have nd := scneed_rooms.nd
  refine ⟨_, (pss_cons (ps_if (pt_cmpR op_eq (pe_callB (c_lenK (K := K) rfl) (by rfl) T.len PySem.boot_len (pa_cons (pv 0) pa_nil)) pe_int (nomark _))
      (pss_one ps_never)
      pss_nil)
      (pss_cons (ps_for PassesOwn.never rfl (pi_or (pi_listK (K := K) rfl (pv 0)) (pi_tupK (K := K) rfl (pv 0))) (pg_name (i := 1) nd rfl (Or.inl rfl))
      (pss_one (ps_expr (pe_cd D_need_same hr pass0 (pa_cons (pe_flK (K := K) rfl (pe_ix (IxR.or (ix_LK (K := K) rfl) (ix_TK (K := K) rfl)) (pv 0) pe_int (fun _ _ => rfl)) rfl) (pa_cons (pe_flK (K := K) rfl (pv 1) rfl) pa_nil))))))
      (pss_one (ps_ret (pe_flK (K := K) rfl (pe_ix (IxR.or (ix_LK (K := K) rfl) (ix_TK (K := K) rfl)) (pv 0) pe_int (fun _ _ => rfl)) rfl))))), ?_⟩
  refine s_start [some _, none] rfl ?_
  obtain ⟨rs, eq, pr⟩ := hq.ex
  have ln := paired_len pr
  obtain ⟨a0, rs', rfl⟩ : ∃ a r, rs = a :: r := by
    cases rs with
    | nil =>
      cases pr
      exact absurd rfl hne
    | cons a r => exact ⟨a, r, rfl⟩
  have ps := pairsOf_small (ls.flatMap fun a => (fn a).map fun b => ascOf [a, b])
  obtain ⟨rm0, pl0⟩ := paired_get (0, 0) [] pr (show 0 < S.length by have := List.length_pos_iff.mpr hne; omega)
  have rm0 : RoomAt R H a0.1 a0.2 _ := rm0
  have pl0 : PlanAt C H a0.2 (ascOf ls) (tabPairs ls fn) := pl0
  obtain ⟨d0, f0⟩ := rm0.ex
  walk_at "go"
  refine v_lenQ eq ?_
  walk_at "go"
  refine if_dec (fun e => ?_) (fun _ => ?_)
  · injection e with e
    rw [List.length_map, List.length_cons] at e
    omega
  walk_at "go"
  refine e_forSeq eq (Same.refl _) (fun Q q => by walk_at "go"; exact q) (fun k σ H' => ∃ x1, σ = [some (.ref p), x1] ∧ H' = H) ⟨_, rfl, rfl⟩ (fun _ _ _ ⟨_, _, e⟩ => e ▸ Same.refl _) ?_ ?_
  · rintro k v σ H1 H2 hk ⟨x1, rfl, rfl⟩ ⟨rfl, ev⟩
    have hk' : k < S.length := by rw [← ln]; simpa using hk
    obtain ⟨rmk, plk⟩ := paired_get (0, 0) [] pr hk'
    obtain ⟨dk, fk⟩ := rmk.ex
    rw [List.getElem?_map, List.getElem?_eq_getElem (by simpa using hk)] at ev
    injection ev with ev
    have ek : (a0 :: rs')[k]'(by simpa using hk) = (a0 :: rs').getD k (0, 0) := by
      rw [List.getD_eq_getElem?_getD, List.getElem?_eq_getElem (by simpa using hk)]
      rfl
    rw [ek] at ev
    subst ev
    walk_at "go"
    refine v_ixQ eq (atI_nat (j := 0) rfl) ?_
    walk_at "go"
    refine v_fld f0 T.Room.cl T.nPl roomF_p ?_
    walk_at "go"
    refine v_fld fk T.Room.cl T.nPl roomF_p ?_
    walk_at "go"
    refine ⟨a0.2, _, true, rfl, ⟨_, _, _, _, pl0, plk, ps, ps, (decide_eq_true ⟨rfl, rfl⟩).symm⟩, fun _ => ?_, fun z => nomatch z⟩
    walk_at "go"
    exact ⟨_, rfl, rfl⟩
  · rintro σ H1 ⟨x1, rfl, rfl⟩
    walk_at "go"
    refine v_ixQ eq (atI_nat (j := 0) rfl) ?_
    walk_at "go"
    refine v_fld f0 T.Room.cl T.nPl roomF_p ?_
    walk_at "go"
    exact q _ _ (Same.refl _) pl0
abbrev stgate : Stmt := (top 35)
abbrev Ngate : List Str := ["room", "rooms", "plan", "name", "other"]
theorem scgate : FnScope Ngate ["room", "rooms"] (defScope stgate) := ⟨rfl, rfl, rfl, by decide +kernel, rfl, by decide +kernel, by decide +kernel⟩

theorem ok_gate (F : FnAt K mg "gate" stgate) (T : TxtR K mg C R O) (D_need_rooms : Def P w K mg base CX0 4 "need_rooms" ["rooms"] (spNeedRooms K C R)) (D_need_same : Def P w K mg base CX0 3 "need_same" ["plan", "other"] (calmOf (spNeedSame C O))) (D_middle_name : Def P w K mg base CX0 5 "middle_name" ["plan", "one", "two", "three"] (spMidName C)) (C_Room : CDef P w K mg base CX0 3 "Room" R (spRoom C R)) : Def P w K mg base CX0 6 "gate" ["room", "rooms"] (spGate K C R) := by
  refine F.ok scgate (fun _ _ _ _ _ _ us hl => match us, hl with | [_, _], _ => rfl) (fun vs H Q E h => ?_) (fun f cdv A outer s H vs Q E hr h => ?_)
  · obtain ⟨ra, x, p, a, ls, fn, S, rfl, _⟩ := h
    rfl
  obtain ⟨ra, x, p, a, ls, fn, S, rfl, roa, pla, hq, hne, hl, fl, sa, sS, q⟩ := h
  have hu := hu_of hr
  have nd := scgate.nd
  have ok := fl.ok
  replace D_need_rooms := D_need_rooms.mono (show 4 ≤ 5 by decide)
  replace D_need_same := D_need_same.mono (show 3 ≤ 5 by decide)
  replace C_Room := C_Room.mono (show 3 ≤ 4 by decide)
  refine ⟨_, (pss_cons (ps_set (i := 2) nd rfl (Or.inl rfl) (pe_cd D_need_rooms hr pass0 (pa_cons (pv 1) pa_nil)))
      (pss_cons (ps_expr (pe_cd D_need_same hr pass0 (pa_cons (pe_flK (K := K) rfl (pv 0) rfl) (pa_cons (pv 2) pa_nil))))
      (pss_cons (ps_set (i := 3) nd rfl (Or.inl rfl) (pe_flK (K := K) rfl (pe_ix (IxR.or (ix_LK (K := K) rfl) (ix_TK (K := K) rfl)) (pv 1) pe_int (fun _ _ => rfl)) rfl))
      (pss_cons (ps_for PassesOwn.never rfl (pi_or (pi_listK (K := K) rfl (pv 1)) (pi_tupK (K := K) rfl (pv 1))) (pg_name (i := 4) nd rfl (Or.inl rfl))
      (pss_one (ps_set (i := 3) nd rfl (Or.inl rfl) (pe_cd D_middle_name hr pass0 (pa_cons (pv 2) (pa_cons (pe_flK (K := K) rfl (pv 0) rfl) (pa_cons (pv 3) (pa_cons (pe_flK (K := K) rfl (pv 4) rfl) pa_nil))))))))
      (pss_one (ps_ret (pe_mk C_Room hr pass0 (pa_cons (pv 2) (pa_cons (pv 3) pa_nil))))))))), ?_⟩
  refine s_start [some _, some _, none, none, none] rfl ?_
  have ps := pairsOf_small (ls.flatMap fun a => (fn a).map fun b => ascOf [a, b])
  obtain ⟨na, ma, la⟩ := sa
  walk_at "go"
  refine ⟨p, ls, fn, S, rfl, hq, hne, hl, fl, fun y H1 s1 ply => ?_⟩
  obtain ⟨rs, eq, pr⟩ := (hq.same s1).ex
  have roa1 := roa.same s1
  have pla1 := pla.same s1
  have ln := paired_len pr
  obtain ⟨c0, S', rfl⟩ : ∃ a r, S = a :: r := by
    cases S with
    | nil => exact absurd rfl hne
    | cons a r => exact ⟨a, r, rfl⟩
  obtain ⟨a0, rs', rfl⟩ : ∃ a r, rs = a :: r := by
    cases rs with
    | nil => cases pr
    | cons a r => exact ⟨a, r, rfl⟩
  obtain ⟨rm0, pl0⟩ := paired_get (0, 0) [] pr (show 0 < (c0 :: S').length by simp)
  have rm0 : RoomAt R H1 a0.1 a0.2 c0 := rm0
  obtain ⟨d0, f0⟩ := rm0.ex
  obtain ⟨d1, f1⟩ := roa1.ex
  obtain ⟨nc, mc, lc⟩ := sS c0 (List.mem_cons_self ..)
  walk_at "go"
  refine v_fld f1 T.Room.cl T.nPl roomF_p ?_
  walk_at "go"
  refine ⟨x, y, true, rfl, ⟨_, _, _, _, pla1, ply, ps, ps, (decide_eq_true ⟨rfl, rfl⟩).symm⟩, fun _ => ?_, fun z => nomatch z⟩
  walk_at "go"
  refine v_ixQ eq (atI_nat (j := 0) rfl) ?_
  walk_at "go"
  refine v_fld f0 T.Room.cl T.nNm roomF_n ?_
  walk_at "go"
  refine e_forSeq eq (Same.refl _) (fun Q q => by walk_at "go"; exact q) (fun k σ H' => ∃ x4 N, σ = [some (.ref ra), some (.ref p), some (.ref y), some (.str (tx N)), x4] ∧ Same H1 H' ∧ Gate fn ls a (c0 :: (c0 :: S').take k) N) ⟨_, c0, rfl, Same.refl _, Gate.one ok nc mc⟩ (fun _ _ _ ⟨_, _, _, e, _⟩ => e) ?_ ?_
  · rintro k v σ H2 H3 hk ⟨x4, N, rfl, s2, gt⟩ ⟨rfl, ev⟩
    have hk0 : k < (a0 :: rs').length := by simpa using hk
    have hk' : k < (c0 :: S').length := by rw [← ln]; exact hk0
    obtain ⟨rmk, plk⟩ := paired_get (0, 0) [] pr hk'
    obtain ⟨dk, fk⟩ := (rmk.same s2).ex
    obtain ⟨dr, fr⟩ := (roa1.same s2).ex
    rw [List.getElem?_map, List.getElem?_eq_getElem hk0] at ev
    injection ev with ev
    have ek : (a0 :: rs')[k] = (a0 :: rs').getD k (0, 0) := by
      rw [List.getD_eq_getElem?_getD, List.getElem?_eq_getElem hk0]
      rfl
    rw [ek] at ev
    subst ev
    have hm : (c0 :: S').getD k [] ∈ c0 :: S' := by
      rw [List.getD_eq_getElem?_getD, List.getElem?_eq_getElem hk']
      exact List.getElem_mem hk'
    obtain ⟨nk, mk, lk⟩ := sS _ hm
    have lN := gt.len ok (List.mem_cons_self ..)
    walk_at "go"
    refine v_fld fr T.Room.cl T.nNm roomF_n ?_
    walk_at "go"
    refine v_fld fk T.Room.cl T.nNm roomF_n ?_
    walk_at "go"
    refine ⟨y, ls, fn, a, N, _, rfl, ply.same s2, fl, na, gt.nf, nk, ma, gt.mem, mk, by omega, by omega, by omega, fun M H4 s4 md lM => ?_⟩
    walk_at "go"
    refine ⟨_, M, rfl, s2.trans s4, ?_⟩
    have g2 := gt.step ok md
    have e : (c0 :: S').take (k + 1) = (c0 :: S').take k ++ [(c0 :: S').getD k []] := by
      rw [List.take_succ_eq_append_getElem hk', List.getD_eq_getElem?_getD, List.getElem?_eq_getElem hk']
      rfl
    rw [e]
    exact g2
  · rintro σ H2 ⟨x4, N, rfl, s2, gt⟩
    have gt : Gate fn ls a (c0 :: S') N := gt.cong fun x => by
      rw [List.length_map, ln, List.take_length]
      simp
    have lN := gt.len ok (List.mem_cons_self ..)
    walk_at "go"
    refine ⟨y, _, _, N, rfl, ply.same s2, inAsc fl.tab gt.mem, by omega, fun r H4 hr4 s4 ro => ?_⟩
    rw [joinOf_tab fl.tab (name := []) (by simp) gt.mem, show joinC fn [] N = N from (is_NF fl.ok).mpr gt.nf] at ro
    exact q N r y H4 (L2.Same.free (s1.trans s2) hr4) ((s1.trans s2).trans s4) gt ro ((ply.same s2).same s4)
abbrev stin_hull : Stmt := (top 36)
abbrev Nin_hull : List Str := ["room", "rooms"]
theorem scin_hull : FnScope Nin_hull ["room", "rooms"] (defScope stin_hull) := ⟨rfl, rfl, rfl, by decide +kernel, rfl, by decide +kernel, by decide +kernel⟩

theorem ok_in_hull (F : FnAt K mg "in_hull" stin_hull) (T : TxtR K mg C R O) (D_gate : Def P w K mg base CX0 6 "gate" ["room", "rooms"] (spGate K C R)) (M_Room_eq : MDef P w K mg base CX0 2 R "__eq__" ["self", "other"] (spRoomEq C R)) : Def P w K mg base CX0 7 "in_hull" ["room", "rooms"] (spInHull K C R) := by
  refine F.ok scin_hull (fun _ _ _ _ _ _ us hl => match us, hl with | [_, _], _ => rfl) (fun vs H Q E h => ?_) (fun f cdv A outer s H vs Q E hr h => ?_)
  · obtain ⟨ra, x, p, a, ls, fn, S, rfl, _⟩ := h
    rfl
  obtain ⟨ra, x, p, a, ls, fn, S, rfl, roa, pla, hq, hne, hl, fl, sa, sS, q⟩ := h
  have hu := hu_of hr
  have nd := scin_hull.nd
  replace M_Room_eq := M_Room_eq.mono (show 2 ≤ 6 by decide)
  refine ⟨_, (pss_one (ps_ret (pe_cmpR (op_cmpM (op := .Eq) (fun _ _ => rfl) M_Room_eq hr pass0) (pe_cd D_gate hr pass0 (pa_cons (pv 0) (pa_cons (pv 1) pa_nil))) (pv 0) (nomark _)))), ?_⟩
  refine s_start [some _, some _] rfl ?_
  have ps := pairsOf_small (ls.flatMap fun a => (fn a).map fun b => ascOf [a, b])
  obtain ⟨c0, hc0⟩ := List.exists_mem_of_ne_nil S hne
  walk_at "go"
  refine ⟨ra, x, p, a, ls, fn, S, rfl, roa, pla, hq, hne, hl, fl, sa, sS, fun N r z H1 hr1 s1 gt ro plz => ?_⟩
  have lN := gt.len fl.ok hc0
  have lc := (sS c0 hc0).2.2
  have la := sa.2.2
  obtain ⟨d1, e1⟩ := ro.ex
  obtain ⟨d2, e2⟩ := (roa.same s1).ex
  walk_at "go"
  refine v_M2 e1 e2 ⟨_, _, _, _, _, _, true, rfl, ⟨ro, roa.same s1, ⟨_, _, _, _, plz, pla.same s1, ps, ps, (decide_eq_true ⟨rfl, rfl⟩).symm⟩, by omega, by omega⟩, ?_⟩
  rw [Bool.true_and]
  walk_at "go"
  exact q N H1 s1 gt
end
end Cw
set_option Elab.async false
set_option linter.all false
set_option maxRecDepth 100000
set_option maxHeartbeats 4000000
namespace Cw
open PySem PySem.Spec L2
local macro_rules | `(tactic| walk_at "side") => `(tactic| first | omega | assumption | (dsimp only; omega) | (unfold CMul; omega) | exact ⟨by decide, by decide, by decide⟩ | exact wdiv (by first | assumption | decide | omega) (by first | assumption | decide | omega) | (simp only [List.length_cons, List.length_nil]; omega) | rfl)
local macro_rules | `(tactic| walk_at "hl") => `(tactic| first | assumption | exact upd_same | ((refine Cw.Same.at (by assumption) ?_); walk_at "hl") | ((refine Cw.Keep.at (by assumption) ?_ (by assumption)); walk_at "hl"))
local macro_rules | `(tactic| walk_at "st") => `(tactic| first
  | (with_reducible refine s_seq ?_) | (with_reducible refine g_nm ?_) | (with_reducible refine s_next ?_) | (with_reducible refine s_set ?_) | (with_reducible refine s_drop ?_) | (with_reducible refine s_ret ?_) | (with_reducible refine s_if ?_)
  | ((with_reducible refine e_varG ?_); refine ⟨_, (by with_unfolding_all rfl), ?_⟩) | (with_reducible refine e_c ?_) | (with_reducible refine e_op ?_) | (with_reducible refine e_un ?_)
  | (with_reducible refine e_cons ?_) | (with_reducible refine e_nil ?_) | (with_reducible refine e_cb ?_) | (with_reducible refine e_call ?_) | (with_reducible refine e_md ?_)
  | (with_reducible refine t_test ?_) | (with_reducible refine t_B ?_) | (with_reducible refine t_and ?_) | (with_reducible refine t_or ?_) | (with_reducible refine t_not ?_)
  | (with_reducible refine e_andV ?_) | (with_reducible refine e_orV ?_) | (with_reducible refine e_notV ?_) | (with_reducible refine e_if ?_)
  | (with_reducible refine v_I0 ?_) | ((with_reducible refine v_I ?c ?_); try (case c => walk_at "side")) | (with_reducible refine v_bl ?_)
  | ((with_reducible refine v_eq ?c ?_); (case c => with_unfolding_all rfl)) | ((with_reducible refine v_ne ?c ?_); (case c => with_unfolding_all rfl))
  | (with_reducible refine v_inti ?_) | (with_reducible refine v_intb ?_) | ((with_reducible refine v_lenG ?_); refine ⟨_, (by walk_at "hl"), ?_⟩)
  | ((with_reducible refine v_lenS ?c ?_); try (case c => walk_at "side"))
  | (with_reducible refine e_dnew ?_) | (with_reducible refine e_dget ?_) | (with_reducible refine s_dput ?_) | (with_reducible refine e_lst ?_) | (with_reducible refine e_tup ?_)
  | ((with_reducible refine v_lst ?c ?_); (case c => walk_at "side")) | ((with_reducible refine v_tup ?c ?_); (case c => walk_at "side"))
  | ((with_reducible refine v_dgetG ?_); refine ⟨_, (by assumption), ?_⟩)
  | (with_reducible refine e_sl ?_) | (with_reducible refine e_nopart ?_) | (with_reducible refine e_part ?_) | (with_reducible refine e_m1 ?_) | (with_reducible refine v_isS ?_) | (with_reducible refine v_int ?_)
  | (with_reducible refine e_lc ?_) | (with_reducible refine e_iStr ?_) | (with_reducible refine e_iEnumS ?_) | (with_reducible refine v_iEnumS ?_) | (with_reducible refine v_str ?_) | (with_reducible refine e_yes ?_) | (with_reducible refine e_fld ?_) | (with_reducible refine e_sfld ?_)
  | ((with_reducible refine v_addS ?c ?_); try (case c => walk_at "side")) | (with_reducible refine v_inS ?_) | (with_reducible refine v_notInS ?_) | (with_reducible refine v_ltS ?_)
  | ((with_reducible refine v_inLG ?_); refine ⟨_, (by walk_at "hl"), ?_⟩) | (with_reducible refine v_isiS ?_) | (with_reducible refine e_revS ?_) | ((with_reducible refine v_revS ?c ?_); try (case c => walk_at "side"))
  | ((with_reducible refine v_lenSetG ?_); refine ⟨_, (by walk_at "hl"), ?_⟩)
  | (with_reducible refine e_bm ?_) | (with_reducible refine e_bm0 ?_) | ((with_reducible refine v_tyLG ?_); refine ⟨_, (by walk_at "hl"), ?_⟩)
  | (with_reducible refine iteNT ?_) | (with_reducible refine iteNF ?_) | (with_reducible refine e_for ?_)
  | (with_reducible refine e_iL ?_) | (with_reducible refine e_iT ?_) | ((with_reducible refine v_iLG ?_); refine ⟨_, (by walk_at "hl"), ?_⟩) | (with_reducible refine e_iR1 ?_) | ((with_reducible refine v_iR1 ?c1 ?c2 ?_); try (case c1 => walk_at "side"); try (case c2 => walk_at "side"))
  | (with_reducible refine e_iR2 ?_) | ((with_reducible refine v_iR2 ?c1 ?_); try (case c1 => walk_at "side"))
  | (with_reducible refine e_pr0 ?_) | (with_reducible refine e_pr ?_) | (with_reducible refine e_disp ?_) | (with_reducible refine s_asgT ?_) | (with_reducible refine e_tryA ?_) | (with_reducible refine e_callS ?_) | (with_reducible refine e_mdS ?_) | (with_reducible refine e_par ?_) | (with_reducible refine v_par ?_) | (with_reducible refine e_par3 ?_) | (with_reducible refine v_par3 ?_) | (with_reducible refine e_iK ?_) | (with_reducible refine e_dnotin ?_)
  | (with_reducible refine iteT ?_) | (with_reducible refine iteF ?_))
local macro_rules | `(tactic| walk_at "go") => `(tactic| repeat walk_at "st")
def spFar : Sp := fun vs H Q _ => ∃ (d : Addr) (ls : List Nat) (f : Nat → List Nat) (v w : List Nat), vs = [.ref d, .str (tx v), .str (tx w)] ∧ H d = some (.dK (tabKV ls f)) ∧ Fl ls f ∧ (∀ c ∈ v, c ∈ ls) ∧ (∀ c ∈ w, c ∈ ls) ∧ v.length ≤ 4000 ∧ w.length ≤ 4000 ∧ ∀ H', Same H H' → Q (.int (nameOf f (v.reverse ++ w)).length) H'
section
variable {P : Program} {w : World} {K : PySem.W.Frag} {mg : Str → Option Value} {base : Heap}
abbrev stfar : Stmt := (top 59)
abbrev Nfar : List Str := ["_law_table", "_law_first", "_law_second"]
theorem scfar : FnScope Nfar ["_law_table", "_law_first", "_law_second"] (defScope stfar) := ⟨rfl, rfl, rfl, by decide +kernel, rfl, by decide +kernel, by decide +kernel⟩

theorem ok_far (F : FnAt K mg "_law_far" stfar) (T : Txt K mg) (D_name : Def P w K mg base CX0 3 "_law_name" ["_law_table", "_law_walk_here"] spName) : Def P w K mg base CX0 4 "_law_far" ["_law_table", "_law_first", "_law_second"] spFar := by
  refine F.ok scfar (fun _ _ _ _ _ _ us hl => match us, hl with | [_, _, _], _ => rfl) (fun vs H Q E h => ?_) (fun f cdv A outer s H vs Q E hr h => ?_)
  · obtain ⟨d, ls, f, v, w, rfl, _⟩ := h
    rfl
  obtain ⟨d, ls, fn, u, v, rfl, hd, fl, mu, mv, lu, lv, q⟩ := h
  have hu := hu_of hr
  have nd := scfar.nd
  refine ⟨_, (pss_one (ps_ret (pe_callB c_lenS (by rfl) T.len PySem.boot_len (pa_cons (pe_cd D_name hr pass0 (pa_cons (pv 0) (pa_cons (pe_op op_addS (pe_revS (pv 1)) (pv 2)) pa_nil))) pa_nil)))), ?_⟩
  refine s_start [some _, some _, some _] rfl ?_
  walk_at "go"
  · rw [List.length_reverse]
    omega
  walk_at "go"
  have m : ∀ c ∈ u.reverse ++ v, c ∈ ls := fun c hc => (List.mem_append.mp hc).elim (fun z => mu c (List.mem_reverse.mp z)) (mv c)
  refine sp_name fl hd m (by rw [List.length_append, List.length_reverse]; omega) fun H2 s2 => ?_
  have nl : (nameOf fn (u.reverse ++ v)).length ≤ _ := name_len fn _
  rw [List.length_append, List.length_reverse] at nl
  walk_at "go"
  · show (nameOf fn (u.reverse ++ v)).length ≤ 1000000
    omega
  walk_at "go"
  exact q H2 s2
end
end Cw
set_option Elab.async false
set_option linter.all false
set_option maxRecDepth 100000
set_option maxHeartbeats 4000000
/-! backs, told that its list is new -/
namespace Cw
open PySem PySem.Spec L2
local macro_rules | `(tactic| walk_at "side") => `(tactic| first | omega | assumption | (dsimp only; omega) | (unfold CMul; omega) | exact ⟨by decide, by decide, by decide⟩ | exact wdiv (by first | assumption | decide | omega) (by first | assumption | decide | omega) | (simp only [List.length_cons, List.length_nil]; omega) | rfl)
local macro_rules | `(tactic| walk_at "hl") => `(tactic| first | assumption | exact upd_same | ((refine Cw.Same.at (by assumption) ?_); walk_at "hl") | ((refine Cw.Keep.at (by assumption) ?_ (by assumption)); walk_at "hl"))
local macro_rules | `(tactic| walk_at "st") => `(tactic| first
  | (with_reducible refine s_seq ?_) | (with_reducible refine g_nm ?_) | (with_reducible refine s_next ?_) | (with_reducible refine s_set ?_) | (with_reducible refine s_drop ?_) | (with_reducible refine s_ret ?_) | (with_reducible refine s_if ?_)
  | ((with_reducible refine e_varG ?_); refine ⟨_, (by with_unfolding_all rfl), ?_⟩) | (with_reducible refine e_c ?_) | (with_reducible refine e_op ?_) | (with_reducible refine e_un ?_)
  | (with_reducible refine e_cons ?_) | (with_reducible refine e_nil ?_) | (with_reducible refine e_cb ?_) | (with_reducible refine e_call ?_) | (with_reducible refine e_md ?_)
  | (with_reducible refine t_test ?_) | (with_reducible refine t_B ?_) | (with_reducible refine t_and ?_) | (with_reducible refine t_or ?_) | (with_reducible refine t_not ?_)
  | (with_reducible refine e_andV ?_) | (with_reducible refine e_orV ?_) | (with_reducible refine e_notV ?_) | (with_reducible refine e_if ?_)
  | (with_reducible refine v_I0 ?_) | ((with_reducible refine v_I ?c ?_); try (case c => walk_at "side")) | (with_reducible refine v_bl ?_)
  | ((with_reducible refine v_eq ?c ?_); (case c => with_unfolding_all rfl)) | ((with_reducible refine v_ne ?c ?_); (case c => with_unfolding_all rfl))
  | (with_reducible refine v_inti ?_) | (with_reducible refine v_intb ?_) | ((with_reducible refine v_lenG ?_); refine ⟨_, (by walk_at "hl"), ?_⟩)
  | ((with_reducible refine v_lenS ?c ?_); try (case c => walk_at "side"))
  | (with_reducible refine e_dnew ?_) | (with_reducible refine e_dget ?_) | (with_reducible refine s_dput ?_) | (with_reducible refine e_lst ?_) | (with_reducible refine e_tup ?_)
  | ((with_reducible refine v_lst ?c ?_); (case c => walk_at "side")) | ((with_reducible refine v_tup ?c ?_); (case c => walk_at "side"))
  | ((with_reducible refine v_dgetG ?_); refine ⟨_, (by assumption), ?_⟩)
  | (with_reducible refine e_sl ?_) | (with_reducible refine e_nopart ?_) | (with_reducible refine e_part ?_) | (with_reducible refine e_m1 ?_) | (with_reducible refine v_isS ?_) | (with_reducible refine v_int ?_)
  | (with_reducible refine e_lc ?_) | (with_reducible refine e_iStr ?_) | (with_reducible refine e_iEnumS ?_) | (with_reducible refine v_iEnumS ?_) | (with_reducible refine v_str ?_) | (with_reducible refine e_yes ?_) | (with_reducible refine e_fld ?_) | (with_reducible refine e_sfld ?_)
  | ((with_reducible refine v_addS ?c ?_); try (case c => walk_at "side")) | (with_reducible refine v_inS ?_) | (with_reducible refine v_notInS ?_) | (with_reducible refine v_ltS ?_)
  | ((with_reducible refine v_inLG ?_); refine ⟨_, (by walk_at "hl"), ?_⟩) | (with_reducible refine v_isiS ?_) | (with_reducible refine e_revS ?_) | ((with_reducible refine v_revS ?c ?_); try (case c => walk_at "side"))
  | ((with_reducible refine v_lenSetG ?_); refine ⟨_, (by walk_at "hl"), ?_⟩)
  | (with_reducible refine e_bm ?_) | (with_reducible refine e_bm0 ?_) | ((with_reducible refine v_tyLG ?_); refine ⟨_, (by walk_at "hl"), ?_⟩)
  | (with_reducible refine iteNT ?_) | (with_reducible refine iteNF ?_) | (with_reducible refine e_for ?_)
  | (with_reducible refine e_iL ?_) | (with_reducible refine e_iT ?_) | ((with_reducible refine v_iLG ?_); refine ⟨_, (by walk_at "hl"), ?_⟩) | (with_reducible refine e_iR1 ?_) | ((with_reducible refine v_iR1 ?c1 ?c2 ?_); try (case c1 => walk_at "side"); try (case c2 => walk_at "side"))
  | (with_reducible refine e_iR2 ?_) | ((with_reducible refine v_iR2 ?c1 ?_); try (case c1 => walk_at "side"))
  | (with_reducible refine e_pr0 ?_) | (with_reducible refine e_pr ?_) | (with_reducible refine e_disp ?_) | (with_reducible refine s_asgT ?_) | (with_reducible refine e_tryA ?_) | (with_reducible refine e_callS ?_) | (with_reducible refine e_mdS ?_) | (with_reducible refine e_par ?_) | (with_reducible refine v_par ?_) | (with_reducible refine e_par3 ?_) | (with_reducible refine v_par3 ?_) | (with_reducible refine e_iK ?_) | (with_reducible refine e_dnotin ?_)
  | (with_reducible refine iteT ?_) | (with_reducible refine iteF ?_))
local macro_rules | `(tactic| walk_at "go") => `(tactic| repeat walk_at "st")
def spBacksF : Sp := fun vs H Q _ => ∃ (m : Addr) (ls : List Nat) (M : Nat → Nat → Int), vs = [.ref m] ∧ MarksAt H m ls M ∧ ls.length ≤ 8 ∧ 
  ∀ l H', H l = none → H' l = some (.lst ((backs ls M).map fun c => V.str (tx [c]))) → Same H H' → Q (.ref l) H'
section
variable {P : Program} {w : World} {K : PySem.W.Frag} {mg : Str → Option Value} {base : Heap}
theorem ok_backsF (F : FnAt K mg "_law_backs" stbacks) (T : TxtV K mg) : Def P w K mg base CX0 1 "_law_backs" ["_law_marks_here"] spBacksF := by
  refine F.ok scbacks (fun _ _ _ _ _ _ us hl => match us, hl with | [_], _ => rfl) (fun vs H Q E h => ?_) (fun f cdv A outer s H vs Q E hr h => ?_)
  · obtain ⟨m, ls, M, rfl, _⟩ := h
    rfl
  obtain ⟨m, ls, M, rfl, hM, hl, k⟩ := h
  have hu := hu_of hr
  have nd := scbacks.nd
  obtain ⟨A0, hm, hA⟩ := hM.ex
  refine ⟨_, (pss_one (ps_lock (ps_ret (pe_lc (own := [("_law_item", 1)]) (g := gName 1) (by rfl) nd (pi_keys (pv 0)) (blkOk_by (own := [("_law_item", 1)]) (N := Nbacks) (sc := defScope stbacks) (by decide +kernel)) (fun _ _ _ _ _ => (pg_name (i := 1) nd rfl (Or.inl rfl))) (fun _ _ _ _ _ => (pts_one (pt_cmpR op_lt (pe_callB (cr_minK (K := K) rfl rfl) (by rfl) T.min (by decide +kernel) (pa_cons (pe_lc (own := [("_law_number", 2)]) (g := gName 2) (by rfl) nd (pi_tupK (K := K) rfl (pe_dget hu (pv 0) (pv 1) (fun _ _ => rfl))) (blkOk_by (own := [("_law_number", 2)]) (N := Nbacks) (sc := lcSc [".0", "_law_item"] ["min"] ["_law_marks_here"]) (by decide +kernel)) (fun _ _ _ _ _ => (pg_name (i := 2) nd rfl (Or.inl rfl))) (fun _ _ _ _ _ => pts_nil) (fun _ _ _ _ _ => (pe_callTy c_int (by rfl) T.int (by decide +kernel) (pa_cons (pv 2) pa_nil)))) pa_nil)) pe_int (nomark _)))) (fun _ _ _ _ _ => (pv 1)))))), ?_⟩
  refine s_start [some _, none, none] rfl ?_
  refine e_lock hm trivial fun od => ?_
  have nAm : ∀ c ∈ ls, A0 c ≠ m := fun c hc => ne_of (hA c hc) hm (by intro z; cases z)
  walk_at "go"
  refine ⟨m, od, rfl, .inl ⟨_, upd_same, ?_⟩⟩
  refine vals_some (ls := ls) (it := fun c => V.str (tx [c])) (f := fun c => V.str (tx [c])) (b := fun c => decide (∃ x ∈ ls, M c x < 0)) (walk_let (g := fun c => V.ref (A0 c))) (fun H' s' => s' _ _ upd_same) (by omega) (fun c hc H1 s1 R r => ?_) (fun c hc hb H1 s1 R r => ?_) (fun D H1 hD s1 e1 => ?_)
  · have hc1 : H1 (A0 c) = some (.tup (vecV ls (M c))) := s1 _ _ (by rw [upd_ne (nAm c hc)]; exact hA c hc)
    walk_at "go"
    refine v_dget (marks_getF (s1 _ _ upd_same) hc) ?_
    walk_at "go"
    refine v_iT hc1 ?_
    refine vals_all (ls := ls) (it := fun x => V.int (M c x)) (f := fun x => V.int (M c x)) (walk_tupM (ls := ls) (f := fun x => V.int (M c x))) (fun H' s' => SqT.of (s' _ _ hc1)) (by omega) (fun y hy H5 s5 R r => ?_) (fun y hy H5 s5 R r => ?_) (fun D H5 hD s5 e5 => ?_)
    · exact r H5 (Same.refl _)
    · walk_at "go"
      exact r H5 (Same.refl _)
    walk_at "go"
    have e6 : H5 D = some (.lst ((ls.map (M c)).map V.int)) := by
      rw [e5, List.map_map]
      rfl
    refine ⟨D, _, rfl, SqL.of e6, by rw [List.length_map]; exact List.length_pos_of_mem hc, fun z hz hle => ?_⟩
    walk_at "go"
    have e7 : decide (z < 0) = decide (∃ x ∈ ls, M c x < 0) := by
      refine decide_eq_decide.mpr ⟨fun h => ?_, fun h => ?_⟩
      · obtain ⟨x, hx, e⟩ := List.mem_map.mp hz
        exact ⟨x, hx, by omega⟩
      · obtain ⟨x, hx, e⟩ := h
        have := hle (M c x) (List.mem_map.mpr ⟨x, hx, rfl⟩)
        omega
    rw [e7]
    exact r H5 s5
  · walk_at "go"
    exact r H1 (Same.refl _)
  have hmm : H1 m = some (.frz od (.dK (marksKV ls A0))) := s1 _ _ upd_same
  refine ⟨hmm, ?_⟩
  have hDm : D ≠ m := fun z => by rw [z, upd_same] at hD; cases hD
  refine k D _ (by rw [upd_ne hDm] at hD; exact hD) (by rw [upd_ne hDm]; exact e1) fun b o hb => ?_
  by_cases e : b = m
  · rw [e, upd_same, ← hb, e, hm]
  · rw [upd_ne e]
    exact s1 _ _ (by rw [upd_ne e]; exact hb)
end
section
variable {K : PySem.W.Frag} {H : Hp} {ls : List Nat} {us : List (Nat → Int)} {As : List Addr} {D0 : Addr} {σ : St} {i : Nat} {tt : TT} {te : TE} {P : Addr → Hp → Prop}
/-- [e for x in ..]: e makes a new object each time -/
theorem lc_mapF {J : It} {n : Nat} {G : Hp → Prop} {it : Nat → V} (Rel : Nat → Addr → Hp → Prop) (w : Walk J n G (fun k H x H' => H' = H ∧ x = it k)) (hG : ∀ H', Same H H' → G H') (hn : n ≤ 1000000)
    (m1 : ∀ k p H1 H2, Rel k p H1 → Same H1 H2 → Rel k p H2) (m2 : ∀ k p H1 H2 D l, Rel k p H1 → p ≠ D → H1 D = some (.lst l) → Keep D H1 H2 → Rel k p H2)
    (ht : ∀ k, k < n → ∀ H1, Same H H1 → ∀ R : Bool → Hp → Prop, (∀ H2, Same H1 H2 → R true H2) → tt ((wipe σ [i]).set i (some (it k))) H1 R)
    (he : ∀ k, k < n → ∀ H1, Same H H1 → ∀ R : VK, (∀ p H2, H1 p = none → Same H1 H2 → Rel k p H2 → R (.ref p) H2) → te ((wipe σ [i]).set i (some (it k))) H1 R)
    (q : ∀ D H' (ps : List Addr), H D = none → Same H H' → H' D = some (.lst (ps.map V.ref)) → ps.length = n → (∀ k p, ps[k]? = some p → Rel k p H') → P D H') :
    ∀ D, H D = none → ∃ W : Nat → Nat → Hp → Prop, (∃ m, W 0 m (upd H D (.lst []))) ∧ ∀ k m H, W k m H →
      (J.stop k H ∧ P D H) ∨ (J.go k H ∧ ∃ Nx : Hp → Prop, (∀ H', Nx H' → ∃ m', m' < m ∧ W (k + 1) m' H') ∧ ∀ x H', J.yld k H x H' → (gName i) x (wipe σ [i]) H' fun s2 H2 => wipe s2 [i] = wipe σ [i] ∧ tt s2 H2 fun c H3 =>
        if c = true then te s2 H3 fun y H4 => ∃ acc, H4 D = some (.lst acc) ∧ acc.length < sizeLine ∧ Nx (upd H4 D (.lst (acc ++ [y]))) else Nx H3) := by
  intro D hD
  refine lc_it w (vs := [i]) (σ := σ) (g := gName i) (tt := tt) (te := te) (Qd := fun H' => P D H') (fun k H' => Same H H' ∧ ∃ ps : List Addr, H' D = some (.lst (ps.map V.ref)) ∧ ps.length = k ∧ ∀ j p, ps[j]? = some p → p ≠ D ∧ Rel j p H')
    ⟨Same.new hD, [], upd_same, rfl, fun j p z => by simp at z⟩ (fun k H' _ p => hG H' p.1) (fun k x H1 H2 hk p y => ?_) (fun H' p => ?_)
  · obtain ⟨p1, ps, p2, p3, p4⟩ := p
    obtain ⟨rfl, rfl⟩ := y
    refine ⟨wipe1, ht k hk _ p1 _ fun H3 s3 => ?_⟩
    rw [if_pos rfl]
    refine he k hk _ (p1.trans s3) _ fun v H4 hv s4 r4 => ?_
    have e3 := s3 _ _ p2
    have e4 := s4 _ _ e3
    have nv : v ≠ D := (ne_of_none e3 hv).symm
    refine ⟨ps.map V.ref, e4, szlt (by rw [List.length_map]; omega), fun a o ha => ?_, ps ++ [v], ?_, by rw [List.length_append, p3]; rfl, fun j u hj => ?_⟩
    · rw [upd_ne (ne_of_none ha hD)]
      exact s4 _ _ (s3 _ _ (p1 _ _ ha))
    · rw [upd_same, List.map_append]
      rfl
    · by_cases c : j < ps.length
      · rw [List.getElem?_append_left c] at hj
        obtain ⟨n1, n2⟩ := p4 j u hj
        exact ⟨n1, m2 _ _ _ _ _ _ (m1 _ _ _ _ (m1 _ _ _ _ n2 s3) s4) n1 e4 Keep.put⟩
      · rw [List.getElem?_append_right (by omega)] at hj
        have hj0 : j - ps.length = 0 := by
          have := (List.getElem?_eq_some_iff.mp hj).1
          simp at this
          omega
        rw [hj0] at hj
        injection hj with hj
        subst hj
        have : j = k := by omega
        subst this
        exact ⟨nv, m2 _ _ _ _ _ _ r4 nv e4 Keep.put⟩
  · obtain ⟨p1, ps, p2, p3, p4⟩ := p
    exact q D H' ps hD p1 p2 p3 fun k p hk => (p4 k p hk).2
end
end Cw
set_option Elab.async false
set_option linter.all false
set_option maxRecDepth 100000
set_option maxHeartbeats 4000000
namespace Cw
open PySem PySem.Spec L2
local macro_rules | `(tactic| walk_at "side") => `(tactic| first | omega | assumption | (dsimp only; omega) | (unfold CMul; omega) | exact ⟨by decide, by decide, by decide⟩ | exact wdiv (by first | assumption | decide | omega) (by first | assumption | decide | omega) | (simp only [List.length_cons, List.length_nil]; omega) | rfl)
local macro_rules | `(tactic| walk_at "hl") => `(tactic| first | assumption | exact upd_same | ((refine Cw.Same.at (by assumption) ?_); walk_at "hl") | ((refine Cw.Keep.at (by assumption) ?_ (by assumption)); walk_at "hl"))
local macro_rules | `(tactic| walk_at "st") => `(tactic| first
  | (with_reducible refine s_seq ?_) | (with_reducible refine g_nm ?_) | (with_reducible refine s_next ?_) | (with_reducible refine s_set ?_) | (with_reducible refine s_drop ?_) | (with_reducible refine s_ret ?_) | (with_reducible refine s_if ?_)
  | ((with_reducible refine e_varG ?_); refine ⟨_, (by with_unfolding_all rfl), ?_⟩) | (with_reducible refine e_c ?_) | (with_reducible refine e_op ?_) | (with_reducible refine e_un ?_)
  | (with_reducible refine e_cons ?_) | (with_reducible refine e_nil ?_) | (with_reducible refine e_cb ?_) | (with_reducible refine e_call ?_) | (with_reducible refine e_md ?_)
  | (with_reducible refine t_test ?_) | (with_reducible refine t_B ?_) | (with_reducible refine t_and ?_) | (with_reducible refine t_or ?_) | (with_reducible refine t_not ?_)
  | (with_reducible refine e_andV ?_) | (with_reducible refine e_orV ?_) | (with_reducible refine e_notV ?_) | (with_reducible refine e_if ?_)
  | (with_reducible refine v_I0 ?_) | ((with_reducible refine v_I ?c ?_); try (case c => walk_at "side")) | (with_reducible refine v_bl ?_)
  | ((with_reducible refine v_eq ?c ?_); (case c => with_unfolding_all rfl)) | ((with_reducible refine v_ne ?c ?_); (case c => with_unfolding_all rfl))
  | (with_reducible refine v_inti ?_) | (with_reducible refine v_intb ?_) | ((with_reducible refine v_lenG ?_); refine ⟨_, (by walk_at "hl"), ?_⟩)
  | ((with_reducible refine v_lenS ?c ?_); try (case c => walk_at "side"))
  | (with_reducible refine e_dnew ?_) | (with_reducible refine e_dget ?_) | (with_reducible refine s_dput ?_) | (with_reducible refine e_lst ?_) | (with_reducible refine e_tup ?_)
  | ((with_reducible refine v_lst ?c ?_); (case c => walk_at "side")) | ((with_reducible refine v_tup ?c ?_); (case c => walk_at "side"))
  | ((with_reducible refine v_dgetG ?_); refine ⟨_, (by assumption), ?_⟩)
  | (with_reducible refine e_sl ?_) | (with_reducible refine e_nopart ?_) | (with_reducible refine e_part ?_) | (with_reducible refine e_m1 ?_) | (with_reducible refine v_isS ?_) | (with_reducible refine v_int ?_)
  | (with_reducible refine e_lc ?_) | (with_reducible refine e_iStr ?_) | (with_reducible refine e_iEnumS ?_) | (with_reducible refine v_iEnumS ?_) | (with_reducible refine v_str ?_) | (with_reducible refine e_yes ?_) | (with_reducible refine e_fld ?_) | (with_reducible refine e_sfld ?_)
  | ((with_reducible refine v_addS ?c ?_); try (case c => walk_at "side")) | (with_reducible refine v_inS ?_) | (with_reducible refine v_notInS ?_) | (with_reducible refine v_ltS ?_)
  | ((with_reducible refine v_inLG ?_); refine ⟨_, (by walk_at "hl"), ?_⟩) | (with_reducible refine v_isiS ?_) | (with_reducible refine e_revS ?_) | ((with_reducible refine v_revS ?c ?_); try (case c => walk_at "side"))
  | ((with_reducible refine v_lenSetG ?_); refine ⟨_, (by walk_at "hl"), ?_⟩)
  | (with_reducible refine e_bm ?_) | (with_reducible refine e_bm0 ?_) | ((with_reducible refine v_tyLG ?_); refine ⟨_, (by walk_at "hl"), ?_⟩)
  | (with_reducible refine iteNT ?_) | (with_reducible refine iteNF ?_) | (with_reducible refine e_for ?_)
  | (with_reducible refine e_iL ?_) | (with_reducible refine e_iT ?_) | ((with_reducible refine v_iLG ?_); refine ⟨_, (by walk_at "hl"), ?_⟩) | (with_reducible refine e_iR1 ?_) | ((with_reducible refine v_iR1 ?c1 ?c2 ?_); try (case c1 => walk_at "side"); try (case c2 => walk_at "side"))
  | (with_reducible refine e_iR2 ?_) | ((with_reducible refine v_iR2 ?c1 ?_); try (case c1 => walk_at "side"))
  | (with_reducible refine e_pr0 ?_) | (with_reducible refine e_pr ?_) | (with_reducible refine e_disp ?_) | (with_reducible refine s_asgT ?_) | (with_reducible refine e_tryA ?_) | (with_reducible refine e_callS ?_) | (with_reducible refine e_mdS ?_) | (with_reducible refine e_par ?_) | (with_reducible refine v_par ?_) | (with_reducible refine e_par3 ?_) | (with_reducible refine v_par3 ?_) | (with_reducible refine e_iK ?_) | (with_reducible refine e_dnotin ?_)
  | (with_reducible refine iteT ?_) | (with_reducible refine iteF ?_))
local macro_rules | `(tactic| walk_at "go") => `(tactic| repeat walk_at "st")
structure TxtL (K : PySem.W.Frag) (mg : Str → Option Value) (C R O : Addr) : Prop extends TxtR K mg C R O where
  range : mg "range" = none
  min : mg "min" = none
  sum : mg "sum" = none
local macro_rules | `(tactic| walk_at "ro") => `(tactic| first | assumption | ((apply RoomAt.go (by assumption)); walk_at "ro"))
local macro_rules | `(tactic| walk_at "pl") => `(tactic| first | assumption | ((apply PlanAt.go (by assumption)); walk_at "pl"))
local macro_rules | `(tactic| walk_at "st2") => `(tactic| first
  | (walk_at "st")
  | ((with_reducible refine v_rnameG ?_); refine ⟨_, _, _, (by walk_at "ro"), (by assumption), (by assumption), ?_⟩)
  | ((with_reducible refine v_rplanG ?_); refine ⟨_, _, _, (by walk_at "ro"), (by assumption), (by assumption), ?_⟩)
  | ((with_reducible refine v_rlenG ?_); refine ⟨_, _, (by walk_at "ro"), (by omega), ?_⟩)
  | ((with_reducible refine v_reqG ?_); refine ⟨_, _, _, _, _, (by walk_at "ro"), (by walk_at "ro"), (by walk_at "pl"), (by assumption), (by omega), (by omega), ?_⟩)
  | ((with_reducible refine v_rneG ?_); refine ⟨_, _, _, _, _, (by walk_at "ro"), (by walk_at "ro"), (by walk_at "pl"), (by assumption), (by omega), (by omega), ?_⟩)
  | ((with_reducible refine v_reqTG ?_); refine ⟨_, _, (by walk_at "ro"), ?_⟩)
  | ((with_reducible refine v_peqG ?_); refine ⟨_, _, (by walk_at "pl"), (by assumption), ?_⟩)
  | (with_reducible refine if_nI rfl ?_)
  | (with_reducible refine if_I rfl ?_)
  | ((with_reducible refine v_mdRG ?_); refine ⟨_, _, (by walk_at "ro"), (by decide +kernel), ?_⟩)
  | (with_reducible refine s_asgL ?_) | (with_reducible refine e_MN ?_)
  | (with_reducible refine e_CN ?_) | (refine ⟨rfl, rfl, ?_⟩))
local macro_rules | `(tactic| walk_at "go2") => `(tactic| repeat walk_at "st2")
theorem c_sumK {X : Cx} {K : PySem.W.Frag} (h : X.K = K) (hc : X.calm = true) : CallR X (.builtin "sum") (rSum K) := h ▸ cr_sum hc
theorem far_eq {f : Nat → List Nat} (ok : CrOk f) (a b : List Nat) : (wayC f (nameOf f a) (nameOf f b)).length = (nameOf f (a.reverse ++ b)).length := by
  have e : wayC f (nameOf f a) (nameOf f b) = nameOf f (a.reverse ++ b) := name_eq ok fun g => by
    rw [act_app, act_app, act_of_name ok, name_act ok]
  rw [e]
/-- the gate lies on the way, told by the law's own measure -/
theorem gate_far {f : Nat → List Nat} {ls a w N : List Nat} {S : List (List Nat)} (ok : CrOk f) (h : Gate f ls (nameOf f a) S N) (hw : nameOf f w ∈ S) : (nameOf f (a.reverse ++ w)).length = (nameOf f (a.reverse ++ N)).length + (nameOf f (N.reverse ++ w)).length := by
  have b := h.bt _ hw
  unfold Btw at b
  have e : nameOf f N = N := (is_NF ok).mpr h.nf
  have e1 := far_eq ok a N
  have e2 := far_eq ok N w
  rw [e] at e1 e2
  rw [← far_eq ok a w, ← e1, ← e2]
  omega
/-- no door leads out of the gate towards all -/
theorem gate_door {f : Nat → List Nat} {ls r N : List Nat} {ws : List (List Nat)} (ok : CrOk f) (h : Gate f ls r (ws.map (nameOf f)) N) {c : Nat} (hc : c ∈ ls) : ∃ w ∈ ws, ¬ c ∈ backs ls (fun c x => act f (w.reverse ++ N).reverse (unit x) c) := by
  obtain ⟨x, hx, n⟩ := h.door ok hc
  obtain ⟨w, hw, rfl⟩ := List.mem_map.mp hx
  refine ⟨w, hw, fun z => n ?_⟩
  have z := of_decide_eq_true (List.mem_filter.mp z).2
  rw [List.reverse_append, List.reverse_reverse] at z
  have z : Ng f ls (N.reverse ++ w) c := z
  exact (ng_act (fun g => by rw [act_app, act_app, name_act ok]) c).mpr z
theorem rooms_q {C R : Addr} {H : Hp} {ls : List Nat} {fn : Nat → List Nat} : ∀ {vs : List V} {S : List (List Nat)}, vs.length = S.length → (∀ j v, vs[j]? = some v → ∃ r z, v = .ref r ∧ RoomAt R H r z (S.getD j []) ∧ PlanAt C H z (ascOf ls) (tabPairs ls fn)) → ∃ rs : List (Addr × Addr), vs = rs.map (fun a => V.ref a.1) ∧ Paired (fun a s => RoomAt R H a.1 a.2 s ∧ PlanAt C H a.2 (ascOf ls) (tabPairs ls fn)) rs S
  | [], [], _, _ => ⟨[], rfl, .nil⟩
  | [], _ :: _, h, _ => by simp at h
  | _ :: _, [], h, _ => by simp at h
  | v :: vs, s :: S, h, r => by
    obtain ⟨a, z, rfl, ro, pl⟩ := r 0 v rfl
    obtain ⟨rs, e, p⟩ := rooms_q (vs := vs) (S := S) (by simpa using h) fun j u hj => r (j + 1) u hj
    exact ⟨(a, z) :: rs, by rw [e]; rfl, .cons ⟨ro, pl⟩ p⟩
section
variable {K : PySem.W.Frag} {H : Hp} {Q : VK} {p q : Addr}
theorem dp_lists : ∀ {As : List Addr} {Ls : List (List Nat)}, Paired (fun a l => H a = some (.lst (l.map fun c => V.str (tx [c])))) As Ls → DpAll K H (As.map V.ref) (Ls.map fun l => PyData.list ((l.map fun c => tx [c]).map PyData.str))
  | _, _, .nil => .nil
  | _, _, .cons h t => .cons (.lst (SqL.of (by rw [h, List.map_map]; rfl)) (dp_strs _)) (dp_lists t)
theorem lists_dep : ∀ Ls : List (List Nat), PyData.depthAll (Ls.map fun l => PyData.list ((l.map fun c => tx [c]).map PyData.str)) ≤ 2
  | [] => by decide
  | l :: r => Nat.max_le.mpr ⟨by
      have := dep_strs (l.map fun c => tx [c])
      show PyData.depth (.list _) ≤ 2
      simp only [PyData.depth]
      omega, lists_dep r⟩
theorem lists_lay : ∀ {Ls : List (List Nat)}, (∀ l ∈ Ls, ∀ c ∈ l, c < 1000) → PyData.canLayAll0 (Ls.map fun l => PyData.list ((l.map fun c => tx [c]).map PyData.str)) = true
  | [], _ => rfl
  | l :: r, h => by
    have h1 : SeqAt.shaped (.list ((l.map fun c => tx [c]).map PyData.str)) = true := shaped_strs _ fun x hx => by
      obtain ⟨c, hc, rfl⟩ := List.mem_map.mp hx
      exact ok_tx fun d hd => by rw [List.mem_singleton.mp hd]; exact h l (List.mem_cons_self ..) c hc
    have h2 : (PyData.list ((l.map fun c => tx [c]).map PyData.str)).canLay0 = true := by
      simp [SeqAt.shaped] at h1
      simp [h1]
    have h3 := lists_lay (Ls := r) fun l hl => h l (List.mem_cons_of_mem _ hl)
    show PyData.canLayAll0 (_ :: _) = true
    simp only [PyData.canLayAll0, h2, h3, Bool.and_self]
theorem v_eqNilL {As : List Addr} {Ls : List (List Nat)} (e : H p = some (.lst (As.map V.ref))) (pr : Paired (fun a l => H a = some (.lst (l.map fun c => V.str (tx [c])))) As Ls) (h : ∀ l ∈ Ls, ∀ c ∈ l, c < 1000) (hq : H q = some (.lst [])) (k : Q (.bl Ls.isEmpty) H) : rEqD K (.ref p) (.ref q) H Q := by
  have h1 := lists_dep Ls
  have h2 : (PyData.list (Ls.map fun l => PyData.list ((l.map fun c => tx [c]).map PyData.str))).depth ≤ 64 := by simp only [PyData.depth]; omega
  have h3 : (PyData.list (Ls.map fun l => PyData.list ((l.map fun c => tx [c]).map PyData.str))).canLay0 = true := by simp only [PyData.canLay0]; exact lists_lay h
  refine ⟨_, .list [], .lst (SqL.of e) (dp_lists pr), .lst (SqL.of hq) .nil, (fun d h2 h3 => by simp [SeqAt.shaped, h2, h3] : ∀ d : PyData, d.depth ≤ 64 → d.canLay0 = true → SeqAt.shaped d = true) _ h2 h3, shaped_nil, ?_⟩
  rw [eqv_nil, List.isEmpty_map]
  exact k
end
theorem walk_txs {K : PySem.W.Frag} {a : Addr} {ws : List (List Nat)} : Walk (Itl K a) ws.length (fun H => SqL K H a (ws.map fun l => V.str (tx l))) (fun k H x H' => H' = H ∧ x = V.str (tx (ws.getD k []))) := by
  have w := walk_list (K := K) (a := a) (xs := ws.map fun l => V.str (tx l))
  rw [List.length_map] at w
  refine w.mono (fun _ z => z) fun i H x H' hi _ y => ?_
  obtain ⟨rfl, e⟩ := y
  refine ⟨rfl, ?_⟩
  rw [List.getElem?_map, List.getElem?_eq_getElem hi] at e
  injection e with e
  rw [List.getD_eq_getElem?_getD, List.getElem?_eq_getElem hi]
  exact e.symm
theorem walk_ints {K : PySem.W.Frag} {a : Addr} {ns : List Int} : Walk (Itl K a) ns.length (fun H => SqL K H a (ns.map V.int)) (fun k H x H' => H' = H ∧ x = V.int (ns.getD k 0)) := by
  have w := walk_list (K := K) (a := a) (xs := ns.map V.int)
  rw [List.length_map] at w
  refine w.mono (fun _ z => z) fun i H x H' hi _ y => ?_
  obtain ⟨rfl, e⟩ := y
  refine ⟨rfl, ?_⟩
  rw [List.getElem?_map, List.getElem?_eq_getElem hi] at e
  injection e with e
  rw [List.getD_eq_getElem?_getD, List.getElem?_eq_getElem hi]
  exact e.symm
theorem paired_idx {α β γ : Type} {r : α → β → Prop} {g : γ → β} {d : γ} : ∀ {as : List α} {ws : List γ}, as.length = ws.length → (∀ k p, as[k]? = some p → r p (g (ws.getD k d))) → Paired r as (ws.map g)
  | [], [], _, _ => .nil
  | [], _ :: _, h, _ => by simp at h
  | _ :: _, [], h, _ => by simp at h
  | a :: as, w :: ws, h, q => .cons (q 0 a rfl) (paired_idx (d := d) (by simpa using h) fun k p hk => q (k + 1) p hk)
theorem let_lt : ∀ c ∈ LET, c < 1000 := by decide +kernel
theorem v_notInL {K : PySem.W.Frag} {H : Hp} {Q : VK} {c : Nat} {l : List Nat} {p : Addr} (h : H p = some (.lst (l.map fun c => V.str (tx [c])))) (q : Q (.bl (!decide (c ∈ l))) H) : rIn K true (.str (tx [c])) (.ref p) H Q := by
  have e : (l.map fun c => V.str (tx [c])) = ((l.map fun c => [c]).map fun l => V.str (tx l)) := by rw [List.map_map]; rfl
  rw [e] at h
  refine ⟨p, _, rfl, .inl (SqL.of h), rfl, flat_tx _, ?_⟩
  rw [inV_tx]
  have e2 : decide ([c] ∈ l.map fun c => [c]) = decide (c ∈ l) := decide_eq_decide.mpr ⟨fun z => by
    obtain ⟨d, hd, e⟩ := List.mem_map.mp z
    injection e with e _
    exact e ▸ hd, fun z => List.mem_map.mpr ⟨c, z, rfl⟩⟩
  rw [e2]
  exact q
def rowB (ls N w : List Nat) : List Nat := backs ls fun c x => act (fun _ => []) (w.reverse ++ N).reverse (unit x) c
def spPlainRight : Sp := fun vs H Q _ => ∃ (d q : Addr) (st : List Nat) (ws : List (List Nat)) (ls : List Nat), vs = [.ref d, .str (tx st), .ref q] ∧ H d = some (.dK (tabKV ls fun _ => [])) ∧ Fl ls (fun _ => []) ∧ (∀ c ∈ st, c ∈ ls) ∧ st.length ≤ 300 ∧ H q = some (.lst (ws.map fun l => V.str (tx l))) ∧ (∀ w ∈ ws, (∀ c ∈ w, c ∈ ls) ∧ w.length ≤ 300) ∧ ws ≠ [] ∧ ws.length ≤ 100 ∧ ∀ H', Same H H' → Q (.bl true) H'
section
variable {P : Program} {w : World} {K : PySem.W.Frag} {mg : Str → Option Value} {base : Heap} {C R O e0 : Addr}
abbrev stplain_right : Stmt := (top 61)
abbrev Nplain_right : List Str := ["_law_bare", "_law_start", "_law_walks", "_law_apart", "_law_told", "_law_walk_here", "_law_parts_of", "_law_first_doors", "_law_part", "_law_door", "_law_row"]
theorem scplain_right : FnScope Nplain_right ["_law_bare", "_law_start", "_law_walks"] (defScope stplain_right) := ⟨rfl, rfl, rfl, by decide +kernel, rfl, by decide +kernel, by decide +kernel⟩

theorem ok_plain_right (F : FnAt K mg "_law_plain_right" stplain_right) (T : TxtL K mg C R O) (kt : ∀ H : Hp, SeqO K H e0 []) (D_gate : Def P w K mg base CX0 6 "gate" ["room", "rooms"] (spGate K C R)) (D_far : Def P w K mg base CX0 4 "_law_far" ["_law_table", "_law_first", "_law_second"] spFar) (D_marks : Def P w K mg base CX0 2 "_law_marks" ["_law_table", "_law_walk_here"] spMarks) (D_backs : Def P w K mg base CX0 1 "_law_backs" ["_law_marks_here"] spBacksF)
    (C_Room : CDef P w K mg base CX0 3 "Room" R (spRoom C R)) (C_Plan_1 : CDefN P w K mg base CX0 3 "Plan" C (spPlan K C) 1 [] [.pos 0, .dfl 0] [.ref e0]) : Def P w K mg base CX0 7 "_law_plain_right" ["_law_bare", "_law_start", "_law_walks"] spPlainRight := by
  refine F.ok scplain_right (fun _ _ _ _ _ _ us hl => match us, hl with | [_, _, _], _ => rfl) (fun vs H Q E h => ?_) (fun f cdv A outer s H vs Q E hr h => ?_)
  · obtain ⟨d, q, st, ws, ls, rfl, _⟩ := h
    rfl
  obtain ⟨d, q, st, ws, ls, rfl, hd, fl, mst, lst, hq, hws, hne, hl, k⟩ := h
  have hu := hu_of hr
  have nd := scplain_right.nd
  have ok := fl.ok
  have tab := fl.tab
  have l8 := tab.len
  have clR := T.Room.cl
  have nNm := T.nNm
  have nPl := T.nPl
  replace D_gate := D_gate.mono (show 6 ≤ 6 by decide)
  replace D_far := D_far.mono (show 4 ≤ 6 by decide)
  replace D_marks := D_marks.mono (show 2 ≤ 6 by decide)
  replace D_backs := D_backs.mono (show 1 ≤ 6 by decide)
  replace C_Room := C_Room.mono (show 3 ≤ 5 by decide)
  replace C_Plan_1 := C_Plan_1.mono (show 3 ≤ 5 by decide)
  refine ⟨_, (pss_cons (ps_set (i := 3) nd rfl (Or.inr rfl) (pe_mkN C_Plan_1 hr pass0 (pa_cons (pe_joinD rfl (pe_tx [] (by decide +kernel)) (pv 0)) pa_nil) pk_nil))
      (pss_cons (ps_set (i := 4) nd rfl (Or.inr rfl) (pe_cd D_gate hr pass0 (pa_cons (pe_mk C_Room hr pass0 (pa_cons (pv 3) (pa_cons (pv 1) pa_nil))) (pa_cons (pe_lc (own := [("_law_walk_here", 5)]) (g := gName 5) (by rfl) nd (pi_listK (K := K) rfl (pv 2)) (blkOk_by (own := [("_law_walk_here", 5)]) (N := Nplain_right) (sc := defScope stplain_right) (by decide +kernel)) (fun _ _ _ _ _ => (pg_name (i := 5) nd rfl (Or.inl rfl))) (fun _ _ _ _ _ => pts_nil) (fun _ _ _ _ _ => (pe_mk C_Room hr pass0 (pa_cons (pv 3) (pa_cons (pv 5) pa_nil))))) pa_nil))))
      (pss_cons (ps_for PassesOwn.never rfl (pi_listK (K := K) rfl (pv 2)) (pg_name (i := 5) nd rfl (Or.inl rfl))
      (pss_cons (ps_set (i := 6) nd rfl (Or.inl rfl) (pe_lst (pa_cons (pe_cd D_far hr pass0 (pa_cons (pv 0) (pa_cons (pv 1) (pa_cons (pe_flK (K := K) rfl (pv 4) rfl) pa_nil)))) (pa_cons (pe_cd D_far hr pass0 (pa_cons (pv 0) (pa_cons (pe_flK (K := K) rfl (pv 4) rfl) (pa_cons (pv 5) pa_nil)))) pa_nil))))
        (pss_one (ps_if (pt_cmpR op_ne (pe_cd D_far hr pass0 (pa_cons (pv 0) (pa_cons (pv 1) (pa_cons (pv 5) pa_nil)))) (pe_callB (c_sumK (K := K) rfl rfl) (by rfl) T.sum (by decide +kernel) (pa_cons (pe_lc (own := [("_law_part", 8)]) (g := gName 8) (by rfl) nd (pi_listK (K := K) rfl (pv 6)) (blkOk_by (own := [("_law_part", 8)]) (N := Nplain_right) (sc := defScope stplain_right) (by decide +kernel)) (fun _ _ _ _ _ => (pg_name (i := 8) nd rfl (Or.inl rfl))) (fun _ _ _ _ _ => pts_nil) (fun _ _ _ _ _ => (pe_callTy c_int (by rfl) T.int (by decide +kernel) (pa_cons (pv 8) pa_nil)))) pa_nil)) (nomark _))
        (pss_one (ps_ret pe_bl))
        pss_nil))))
      (pss_cons (ps_set (i := 7) nd rfl (Or.inr rfl) (pe_lc (own := [("_law_walk_here", 5)]) (g := gName 5) (by rfl) nd (pi_listK (K := K) rfl (pv 2)) (blkOk_by (own := [("_law_walk_here", 5)]) (N := Nplain_right) (sc := defScope stplain_right) (by decide +kernel)) (fun _ _ _ _ _ => (pg_name (i := 5) nd rfl (Or.inl rfl))) (fun _ _ _ _ _ => pts_nil) (fun _ _ _ _ _ => (pe_cd D_backs hr pass0 (pa_cons (pe_cd D_marks hr pass0 (pa_cons (pv 0) (pa_cons (pe_op op_addS (pe_revS (pv 5)) (pe_flK (K := K) rfl (pv 4) rfl)) pa_nil))) pa_nil)))))
      (pss_one (ps_lock (ps_ret (pe_cmpR (op_eqDK (K := K) rfl hr.units) (pe_lc (own := [("_law_door", 9)]) (g := gName 9) (by rfl) nd (pi_keys (pv 0)) (blkOk_by (own := [("_law_door", 9)]) (N := Nplain_right) (sc := defScope stplain_right) (by decide +kernel)) (fun _ _ _ _ _ => (pg_name (i := 9) nd rfl (Or.inr rfl))) (fun _ _ _ _ _ => (pts_one (pt_cmpR (op_eqDK (K := K) rfl hr.units) (pe_lc (own := [("_law_row", 10)]) (g := gName 10) (by rfl) nd (pi_listK (K := K) rfl (pv 7)) (blkOk_by (own := [("_law_row", 10)]) (N := Nplain_right) (sc := { kind := .function, names := [(".0", .local), ("_law_door", .cell), ("_law_first_doors", .cell)], isGenerator := false, isCoroutine := false }) (by decide +kernel)) (fun _ _ _ _ _ => (pg_name (i := 10) nd rfl (Or.inl rfl))) (fun _ _ _ _ _ => (pts_one (pt_cmpR (op_notInLK (K := K) rfl) (pv 9) (pv 10) (by rfl)))) (fun _ _ _ _ _ => (pv 10))) (pe_lst pa_nil) (nomark _)))) (fun _ _ _ _ _ => (pv 9))) (pe_lst pa_nil) (nomark _))))))))), ?_⟩
  refine s_start [some _, some _, some _, none, none, none, none, none, none, none, none] rfl ?_
  walk_at "go2"
  refine v_joinD (g := fun c => V.str (tx [])) hd (by omega) ?_
  walk_at "go2"
  refine ⟨ls, e0, [], rfl, ⟨kt _, by decide, fun _ z => (nomatch z), tab.lt, tab.nd, tab.len⟩, fun z H1 hz s1 plz _ => ?_⟩
  have plz : PlanAt C H1 z (ascOf ls) (tabPairs ls fun _ => []) := by
    rw [tabPairs_plain]
    have e : prsOf [] = [] := by decide +kernel
    rw [e] at plz
    exact plz
  walk_at "go2"
  refine sp_room fl plz mst (by omega) fun r0 H2 hr0 s2 ro0 => ?_
  have hq2 := s2 _ _ (s1 _ _ hq)
  have pl2 := plz.same s2
  walk_at "go2"
  refine lc_mapA (fun j v H' => ∃ r, v = .ref r ∧ RoomAt R H' r z (nameOf (fun _ => []) (ws.getD j []))) walk_txs (fun H' s' => SqL.of (s' _ _ hq2)) (by omega) ?_ ?_ ?_ ?_ ?_
  · rintro j v Ha Hb ⟨r, rfl, ro⟩ sb
    exact ⟨r, rfl, ro.same sb⟩
  · rintro j v Ha Hb D l ⟨r, rfl, ro⟩ eD kD
    exact ⟨r, rfl, ro.lst eD kD⟩
  · intro j hj Ha sa R' rr
    walk_at "go2"
    exact rr Ha (Same.refl _)
  · intro j hj Ha sa R' rr
    obtain ⟨mj, lj⟩ := hws (ws.getD j []) (by rw [List.getD_eq_getElem?_getD, List.getElem?_eq_getElem hj]; exact List.getElem_mem hj)
    walk_at "go2"
    refine sp_room fl (pl2.same sa) mj (by omega) fun r Hb hrb sb rob => ?_
    exact rr _ Hb sb ⟨r, rfl, rob⟩
  intro rsA H3 vs hrs s3 e3 lv rel
  have pl3 := pl2.same s3
  obtain ⟨rs, ers, prs⟩ := rooms_q (C := C) (R := R) (H := H3) (ls := ls) (fn := fun _ => []) (S := ws.map (nameOf fun _ => [])) (vs := vs) (by rw [List.length_map]; exact lv) fun j v hj => by
    obtain ⟨r, e, ro⟩ := rel j v hj
    have hjl : j < ws.length := by
      have := (List.getElem?_eq_some_iff.mp hj).1
      omega
    refine ⟨r, z, e, ?_, pl3⟩
    rw [List.getD_eq_getElem?_getD, List.getElem?_map, List.getElem?_eq_getElem hjl]
    rw [List.getD_eq_getElem?_getD, List.getElem?_eq_getElem hjl] at ro
    exact ro
  rw [ers] at e3
  have small : ∀ w : List Nat, (∀ c ∈ w, c ∈ ls) → w.length ≤ 300 → Small (fun _ => []) ls (nameOf (fun _ => []) w) := fun w h1 h2 => ⟨name_NF ok _, fun c hc => h1 c (name_mem hc), Nat.le_trans (name_len _ w) (Nat.le_trans h2 (by decide))⟩
  walk_at "go2"
  refine ⟨r0, z, rsA, nameOf (fun _ => []) st, ls, fun _ => [], ws.map (nameOf fun _ => []), rfl, ro0.same s3, pl3, ⟨rs, .inl e3, prs⟩, by simpa using hne, by rw [List.length_map]; omega, fl, small st mst lst, (fun x hx => ?_), fun N rN y H4 hrN s4 gt roN plN => ?_⟩
  · obtain ⟨w, hw, rfl⟩ := List.mem_map.mp hx
    exact small w (hws w hw).1 (hws w hw).2
  have hq4 := s4 _ _ (s3 _ _ hq2)
  have d4 := s4 _ _ (s3 _ _ (s2 _ _ (s1 _ _ hd)))
  have s04 := (((s1.trans s2).trans s3).trans s4)
  obtain ⟨w0, hw0⟩ := List.exists_mem_of_ne_nil ws hne
  have lN0 := gt.len ok (List.mem_map.mpr ⟨w0, hw0, rfl⟩)
  have lNb : N.length ≤ 900 := by
    have h1 : (nameOf (fun _ => []) st).length ≤ 300 := Nat.le_trans (name_len _ st) lst
    have h2 : (nameOf (fun _ => []) w0).length ≤ 300 := Nat.le_trans (name_len _ w0) (hws w0 hw0).2
    omega
  have mN := gt.mem
  clear lN0
  walk_at "go2"
  refine for_it walk_txs (fun j σ H' => ∃ x5 x6, σ = [some (.ref d), some (.str (tx st)), some (.ref q), some (.ref z), some (.ref rN), x5, x6, none, none, none, none] ∧ Same H4 H') ⟨_, _, rfl, Same.refl _⟩ (fun j σ H' _ ⟨_, _, _, e⟩ => SqL.of (e _ _ hq4)) ?_ ?_
  · rintro j v σ H5 H6 hj ⟨x5, x6, rfl, s5⟩ ⟨rfl, rfl⟩
    have hm : ws.getD j [] ∈ ws := by rw [List.getD_eq_getElem?_getD, List.getElem?_eq_getElem hj]; exact List.getElem_mem hj
    obtain ⟨mj, lj⟩ := hws _ hm
    have fars := gate_far ok gt (List.mem_map.mpr ⟨_, hm, rfl⟩)
    generalize ws.getD j [] = wj at *
    have roN5 := roN.same s5
    walk_at "go2"
    refine ⟨d, ls, fun _ => [], st, N, rfl, s5 _ _ d4, fl, mst, mN, by omega, by omega, fun H7 s7 => ?_⟩
    have roN7 := roN5.same s7
    walk_at "go2"
    refine ⟨d, ls, fun _ => [], N, wj, rfl, s7 _ _ (s5 _ _ d4), fl, mN, mj, by omega, by omega, fun H8 s8 => ?_⟩
    walk_at "go2"
    intro p9 H9 hp9 s9 e9
    walk_at "go2"
    refine ⟨d, ls, fun _ => [], st, wj, rfl, s9 _ _ (s8 _ _ (s7 _ _ (s5 _ _ d4))), fl, mst, mj, by omega, by omega, fun H10 s10 => ?_⟩
    have e10 := s10 _ _ e9
    have s410 := (((s5.trans s7).trans s8).trans s9).trans s10
    walk_at "go2"
    generalize hA : (nameOf (fun _ => []) (st.reverse ++ N)).length = fa at *
    generalize hB : (nameOf (fun _ => []) (N.reverse ++ wj)).length = fb at *
    have e10 : H10 p9 = some (.lst ([(fa : Int), (fb : Int)].map V.int)) := e10
    refine lc_gen (n := 2) (it := fun k => V.int ([(fa : Int), (fb : Int)].getD k 0)) (b := fun _ => true) (f := fun k => V.int ([(fa : Int), (fb : Int)].getD k 0)) (walk_ints (ns := [(fa : Int), (fb : Int)])) (fun H' s' => SqL.of (s' _ _ e10)) (by decide) (fun k hk H1 s1 R' r => ?_) (fun k hk hb H1 s1 R' r => ?_) (fun D H11 hD s11 e11 => ?_)
    · walk_at "go2"
      exact r H1 (Same.refl _)
    · walk_at "go2"
      exact r H1 (Same.refl _)
    have e11 : H11 D = some (.lst ([(fa : Int), (fb : Int)].map V.int)) := e11
    walk_at "go2"
    refine ⟨D, [(fa : Int), (fb : Int)], rfl, SqL.of e11, ?_⟩
    walk_at "go2"
    refine if_nI (congrArg V.int (by show _ = (fa : Int) + ((fb : Int) + 0); omega)) ?_
    walk_at "go2"
    exact ⟨_, _, rfl, s410.trans s11⟩
  rintro σ H5 ⟨x5, x6, rfl, s5⟩
  have hq5 := s5 _ _ hq4
  walk_at "go2"
  refine lc_mapF (fun j p H' => H' p = some (.lst ((rowB ls N (ws.getD j [])).map fun c => V.str (tx [c])))) walk_txs (fun H' s' => SqL.of (s' _ _ hq5)) (by omega) ?_ ?_ ?_ ?_ ?_
  · intro j p Ha Hb e sb
    exact sb _ _ e
  · intro j p Ha Hb D l e n eD kD
    exact kD _ _ e n
  · intro j hj Ha sa R' rr
    walk_at "go2"
    exact rr Ha (Same.refl _)
  · intro j hj Ha sa R' rr
    have hm : ws.getD j [] ∈ ws := by rw [List.getD_eq_getElem?_getD, List.getElem?_eq_getElem hj]; exact List.getElem_mem hj
    obtain ⟨mj, lj⟩ := hws _ hm
    generalize ws.getD j [] = wj at *
    have roNa := (roN.same s5).same sa
    have mem : ∀ c ∈ wj.reverse ++ N, c ∈ ls := fun c hc => (List.mem_append.mp hc).elim (fun z => mj c (List.mem_reverse.mp z)) (mN c)
    walk_at "go2"
    · rw [List.length_reverse]
      omega
    walk_at "go2"
    refine ⟨d, ls, fun _ => [], _, rfl, sa _ _ (s5 _ _ d4), tab, mem, fun m Hb mk sb => ?_⟩
    walk_at "go2"
    refine ⟨m, ls, _, rfl, mk, by omega, fun l Hc hl e sc => ?_⟩
    exact rr _ Hc (L2.Same.free sb hl) (sb.trans sc) e
  intro fdA H6 ps hfd s6 e6 l6 rel6
  have d6 := s6 _ _ (s5 _ _ d4)
  have nfd : fdA ≠ d := (ne_of_none (s5 _ _ d4) hfd).symm
  refine e_lock d6 trivial fun od => ?_
  have keepL : Keep d H6 (upd H6 d (.frz od (.dK (tabKV ls fun _ => [])))) := Keep.put
  have dL : upd H6 d (.frz od (.dK (tabKV ls fun _ => []))) d = some (.frz od (.dK (tabKV ls fun _ => []))) := upd_same
  have eL := keepL _ _ e6 nfd
  have prL : Paired (fun a l => upd H6 d (.frz od (.dK (tabKV ls fun _ => []))) a = some (.lst (l.map fun c => V.str (tx [c])))) ps (ws.map (rowB ls N)) := by
    refine paired_idx (d := []) l6 fun k p hk => ?_
    exact keepL _ _ (rel6 k p hk) (ne_of (rel6 k p hk) d6 (by intro z; cases z))
  have backL : Same H6 (upd (upd H6 d (.frz od (.dK (tabKV ls fun _ => [])))) d (.dK (tabKV ls fun _ => []))) := fun b o hb => by
    by_cases e : b = d
    · rw [e, upd_same, ← hb, e, d6]
    · rw [upd_ne e, upd_ne e]
      exact hb
  generalize upd H6 d (.frz od (.dK (tabKV ls fun _ => []))) = HL at keepL dL eL prL backL ⊢
  walk_at "go2"
  refine ⟨d, od, rfl, .inl ⟨_, dL, ?_⟩⟩
  refine vals_some (ls := ls) (it := fun c => V.str (tx [c])) (f := fun c => V.str (tx [c])) (b := fun _ => false) walk_let (fun H' s' => s' _ _ dL) (by omega) (fun e he H7 s7 Rk r => ?_) (fun e he hb => nomatch hb) (fun D H7 hD s7 e7 => ?_)
  · have eL7 := s7 _ _ eL
    have pr7 : Paired (fun a l => H7 a = some (.lst (l.map fun c => V.str (tx [c])))) ps (ws.map (rowB ls N)) := paired_imp (fun _ _ z => s7 _ _ z) prL
    have wr := walk_refs (K := K) (As := ps) (us := ws.map fun _ => fun _ => (0 : Int)) (D0 := fdA) (by rw [List.length_map]; exact l6)
    rw [List.length_map] at wr
    walk_at "go2"
    refine lc_gen (n := ws.length) (it := fun k => V.ref (ps.getD k 0)) (b := fun k => !decide (e ∈ (ws.map (rowB ls N)).getD k [])) (f := fun k => V.ref (ps.getD k 0)) wr (fun H' s' => SqL.of (s' _ _ eL7)) (by omega) (fun j hj H8 s8 R' r' => ?_) (fun j hj hb H8 s8 R' r' => ?_) (fun D H8 hD s8 e8 => ?_)
    · have hp : H7 (ps.getD j 0) = some (.lst (((ws.map (rowB ls N)).getD j []).map fun c => V.str (tx [c]))) := paired_get 0 [] pr7 (by rw [List.length_map]; exact hj)
      walk_at "go2"
      refine v_notInL (s8 _ _ hp) ?_
      walk_at "go2"
      exact r' H8 (Same.refl _)
    · walk_at "go2"
      exact r' H8 (Same.refl _)
    walk_at "go2"
    intro q9 H9 hq9 s9 e9
    have pk := paired_pick 0 [] (paired_imp (fun a l z => s9 _ _ (s8 _ _ z)) pr7 : Paired (fun a l => H9 a = some (.lst (l.map fun c => V.str (tx [c])))) ps (ws.map (rowB ls N))) ((List.range ws.length).filter fun k => !decide (e ∈ (ws.map (rowB ls N)).getD k [])) fun k hk => by rw [List.length_map]; exact List.mem_range.mp (List.mem_filter.mp hk).1
    refine v_eqNilL (As := ((List.range ws.length).filter fun k => !decide (e ∈ (ws.map (rowB ls N)).getD k [])).map fun k => ps.getD k 0) (by rw [s9 _ _ e8, List.map_map]; rfl) pk (fun l hl c hc => ?_) e9 ?_
    · obtain ⟨k, hk, rfl⟩ := List.mem_map.mp hl
      have hk' := List.mem_range.mp (List.mem_filter.mp hk).1
      rw [List.getD_eq_getElem?_getD, List.getElem?_map, List.getElem?_eq_getElem hk'] at hc
      exact let_lt _ (tab.lt c (List.mem_filter.mp hc).1)
    have ne : ((((List.range ws.length).filter fun k => !decide (e ∈ (ws.map (rowB ls N)).getD k [])).map fun k => (ws.map (rowB ls N)).getD k []).isEmpty) = false := by
      obtain ⟨w1, hw1, nw⟩ := gate_door ok gt he
      obtain ⟨k, hk, ek⟩ := List.getElem_of_mem hw1
      rw [List.isEmpty_map, List.isEmpty_eq_false_iff_exists_mem]
      refine ⟨k, List.mem_filter.mpr ⟨List.mem_range.mpr hk, ?_⟩⟩
      rw [List.getD_eq_getElem?_getD, List.getElem?_map, List.getElem?_eq_getElem hk, ek]
      simp only [Bool.not_eq_true', decide_eq_false_iff_not]
      exact nw
    rw [ne]
    walk_at "go2"
    exact r H9 (s8.trans s9)
  walk_at "go2"
  intro q9 H9 hq9 s9 e9
  have e7 : H7 D = some (.lst []) := by
    rw [e7, show (ls.filter fun _ => false) = [] from List.filter_eq_nil_iff.mpr fun _ _ h => nomatch h]
    rfl
  refine ⟨.list [], .list [], .lst (SqL.of (s9 _ _ e7)) .nil, .lst (SqL.of e9) .nil, shaped_nil, shaped_nil, ?_⟩
  rw [eqv_nil]
  refine ⟨s9 _ _ (s7 _ _ dL), ?_⟩
  refine k _ fun b o hb => ?_
  have h6 := s6 _ _ (s5 _ _ (s04 _ _ hb))
  by_cases e : b = d
  · rw [e, upd_same, ← h6, e, d6]
  · rw [upd_ne e]
    exact s9 _ _ (s7 _ _ (keepL _ _ h6 e))
end
end Cw
set_option Elab.async false
set_option linter.all false
set_option maxRecDepth 100000
set_option maxHeartbeats 4000000
/-! xs != ys of lists: their lengths differ, or they hold the same objects -/
namespace Cw
open PySem PySem.Spec L2
def rNeL (K : PySem.W.Frag) : R2 := fun x y H Q => ∃ a b xs ys, x = .ref a ∧ y = .ref b ∧ SqL K H a xs ∧ SqL K H b ys ∧ ((¬ xs.length = ys.length ∧ Q (.bl true) H) ∨ ((∃ As : List Addr, xs = As.map V.ref ∧ ys = As.map V.ref) ∧ Q (.bl false) H))
theorem vals_refs : ∀ {As : List Addr} {us : List Value}, Vals (As.map V.ref) us → us = As.map Value.ref
  | [], _, .nil => rfl
  | a :: As, _, .cons h t => by
    cases (show _ = Value.ref a from h)
    rw [vals_refs t]
    rfl
theorem op_neL {X : Cx} {K : PySem.W.Frag} (h : X.K = K) (hu : X.A.units < cLine) : OpR X (compareOp .NotEq) (rNeL K) := by
  subst h
  intro pins s σ H x y v u Q I rx ry h
  obtain ⟨a, b, xs, ys, rfl, rfl, ha, hb, h⟩ := h
  cases (show v = Value.ref a from rx)
  cases (show u = Value.ref b from ry)
  obtain ⟨us, r1, p1, _⟩ := I.list ha
  obtain ⟨ws, r2, p2, _⟩ := I.list hb
  have l1 := r1.length
  have l2 := r2.length
  rcases h with ⟨hn, q⟩ | ⟨⟨As, rfl, rfl⟩, q⟩
  · exact SeqAt.RcNeAt.lists_lengths p1.isList p2.isList (by rw [List.size_toArray, List.size_toArray, ← l1, ← l2]; simpa using hn) hu X.prog X.w _ _ ⟨.bl true, H, I, rfl, q⟩
  · obtain rfl := vals_refs r1
    obtain rfl := vals_refs r2
    refine SeqAt.RcNeAt.lists (e := fun _ => true) p1.isList p2.isList rfl hu (fun j h1 h2 => SeqAt.EqAt.same _) X.prog X.w _ _ ?_
    rw [show ((List.range (As.map Value.ref).toArray.size).all fun _ => true) = true from List.all_eq_true.mpr fun _ _ => rfl]
    exact ⟨.bl false, H, I, rfl, q⟩
theorem v_neL {K : PySem.W.Frag} {H : Hp} {Q : VK} {p q : Addr} {xs ys : List V} (h1 : H p = some (.lst xs)) (h2 : H q = some (.lst ys)) (n : ¬ xs.length = ys.length) (k : Q (.bl true) H) : rNeL K (.ref p) (.ref q) H Q := ⟨p, q, xs, ys, rfl, rfl, SqL.of h1, SqL.of h2, .inl ⟨n, k⟩⟩
theorem v_neLsame {K : PySem.W.Frag} {H : Hp} {Q : VK} {p q : Addr} {As : List Addr} (h1 : H p = some (.lst (As.map V.ref))) (h2 : H q = some (.lst (As.map V.ref))) (k : Q (.bl false) H) : rNeL K (.ref p) (.ref q) H Q := ⟨p, q, _, _, rfl, rfl, SqL.of h1, SqL.of h2, .inr ⟨⟨As, rfl, rfl⟩, k⟩⟩
end Cw
set_option Elab.async false
set_option linter.all false
set_option maxRecDepth 100000
set_option maxHeartbeats 4000000
/-! a list of any values, shuffled -/
namespace Cw
open PySem PySem.Spec L2
local macro_rules | `(tactic| walk_at "side") => `(tactic| first | omega | assumption | (dsimp only; omega) | (unfold CMul; omega) | exact ⟨by decide, by decide, by decide⟩ | exact wdiv (by first | assumption | decide | omega) (by first | assumption | decide | omega) | (simp only [List.length_cons, List.length_nil]; omega) | rfl)
local macro_rules | `(tactic| walk_at "hl") => `(tactic| first | assumption | exact upd_same | ((refine Cw.Same.at (by assumption) ?_); walk_at "hl") | ((refine Cw.Keep.at (by assumption) ?_ (by assumption)); walk_at "hl"))
local macro_rules | `(tactic| walk_at "st") => `(tactic| first
  | (with_reducible refine s_seq ?_) | (with_reducible refine g_nm ?_) | (with_reducible refine s_next ?_) | (with_reducible refine s_set ?_) | (with_reducible refine s_drop ?_) | (with_reducible refine s_ret ?_) | (with_reducible refine s_if ?_)
  | ((with_reducible refine e_varG ?_); refine ⟨_, (by with_unfolding_all rfl), ?_⟩) | (with_reducible refine e_c ?_) | (with_reducible refine e_op ?_) | (with_reducible refine e_un ?_)
  | (with_reducible refine e_cons ?_) | (with_reducible refine e_nil ?_) | (with_reducible refine e_cb ?_) | (with_reducible refine e_call ?_) | (with_reducible refine e_md ?_)
  | (with_reducible refine t_test ?_) | (with_reducible refine t_B ?_) | (with_reducible refine t_and ?_) | (with_reducible refine t_or ?_) | (with_reducible refine t_not ?_)
  | (with_reducible refine e_andV ?_) | (with_reducible refine e_orV ?_) | (with_reducible refine e_notV ?_) | (with_reducible refine e_if ?_)
  | (with_reducible refine v_I0 ?_) | ((with_reducible refine v_I ?c ?_); try (case c => walk_at "side")) | (with_reducible refine v_bl ?_)
  | ((with_reducible refine v_eq ?c ?_); (case c => with_unfolding_all rfl)) | ((with_reducible refine v_ne ?c ?_); (case c => with_unfolding_all rfl))
  | (with_reducible refine v_inti ?_) | (with_reducible refine v_intb ?_) | ((with_reducible refine v_lenG ?_); refine ⟨_, (by walk_at "hl"), ?_⟩)
  | ((with_reducible refine v_lenS ?c ?_); try (case c => walk_at "side"))
  | (with_reducible refine e_dnew ?_) | (with_reducible refine e_dget ?_) | (with_reducible refine s_dput ?_) | (with_reducible refine e_lst ?_) | (with_reducible refine e_tup ?_)
  | ((with_reducible refine v_lst ?c ?_); (case c => walk_at "side")) | ((with_reducible refine v_tup ?c ?_); (case c => walk_at "side"))
  | ((with_reducible refine v_dgetG ?_); refine ⟨_, (by assumption), ?_⟩)
  | (with_reducible refine e_sl ?_) | (with_reducible refine e_nopart ?_) | (with_reducible refine e_part ?_) | (with_reducible refine e_m1 ?_) | (with_reducible refine v_isS ?_) | (with_reducible refine v_int ?_)
  | (with_reducible refine e_lc ?_) | (with_reducible refine e_iStr ?_) | (with_reducible refine e_iEnumS ?_) | (with_reducible refine v_iEnumS ?_) | (with_reducible refine v_str ?_) | (with_reducible refine e_yes ?_) | (with_reducible refine e_fld ?_) | (with_reducible refine e_sfld ?_)
  | ((with_reducible refine v_addS ?c ?_); try (case c => walk_at "side")) | (with_reducible refine v_inS ?_) | (with_reducible refine v_notInS ?_) | (with_reducible refine v_ltS ?_)
  | ((with_reducible refine v_inLG ?_); refine ⟨_, (by walk_at "hl"), ?_⟩) | (with_reducible refine v_isiS ?_) | (with_reducible refine e_revS ?_) | ((with_reducible refine v_revS ?c ?_); try (case c => walk_at "side"))
  | ((with_reducible refine v_lenSetG ?_); refine ⟨_, (by walk_at "hl"), ?_⟩)
  | (with_reducible refine e_bm ?_) | (with_reducible refine e_bm0 ?_) | ((with_reducible refine v_tyLG ?_); refine ⟨_, (by walk_at "hl"), ?_⟩)
  | (with_reducible refine iteNT ?_) | (with_reducible refine iteNF ?_) | (with_reducible refine e_for ?_)
  | (with_reducible refine e_iL ?_) | (with_reducible refine e_iT ?_) | ((with_reducible refine v_iLG ?_); refine ⟨_, (by walk_at "hl"), ?_⟩) | (with_reducible refine e_iR1 ?_) | ((with_reducible refine v_iR1 ?c1 ?c2 ?_); try (case c1 => walk_at "side"); try (case c2 => walk_at "side"))
  | (with_reducible refine e_iR2 ?_) | ((with_reducible refine v_iR2 ?c1 ?_); try (case c1 => walk_at "side"))
  | (with_reducible refine e_pr0 ?_) | (with_reducible refine e_pr ?_) | (with_reducible refine e_disp ?_) | (with_reducible refine s_asgT ?_) | (with_reducible refine e_tryA ?_) | (with_reducible refine e_callS ?_) | (with_reducible refine e_mdS ?_) | (with_reducible refine e_par ?_) | (with_reducible refine v_par ?_) | (with_reducible refine e_par3 ?_) | (with_reducible refine v_par3 ?_) | (with_reducible refine e_iK ?_) | (with_reducible refine e_dnotin ?_)
  | (with_reducible refine iteT ?_) | (with_reducible refine iteF ?_))
local macro_rules | `(tactic| walk_at "go") => `(tactic| repeat walk_at "st")
def spShuffledV : Sp := fun vs H Q _ => ∃ (g : Pen) (n : Nat) (q : Addr) (ls : List V), vs = [.ref g.p, .ref q] ∧ H q = some (.lst ls) ∧ ls.length ≤ 1000 ∧ PenAt g H n ∧ n < 950000 ∧
  ∀ (l : Addr) (ys : List V) (H' : Hp), H l = none → ys.Perm ls → H' l = some (.lst ys) → PenAt g H' (n + ls.length) → Keep g.p H H' → Q (.ref l) H'
theorem erase_permV : ∀ {xs : List V} {i : Nat} (ys : List V) (h : i < xs.length), ((ys ++ [xs[i]]) ++ xs.eraseIdx i).Perm (ys ++ xs) := by
  intro xs i ys h
  rw [List.append_assoc]
  refine .append_left _ ?_
  exact erase_perm _ _ h
section
variable {P : Program} {w : World} {K : PySem.W.Frag} {mg : Str → Option Value} {base : Heap}
abbrev stshuffledV : Stmt := (top 49)
abbrev NshuffledV : List Str := ["_law_pen_here", "_law_items", "_law_left", "_law_found"]
theorem scshuffledV : FnScope NshuffledV ["_law_pen_here", "_law_items"] (defScope stshuffledV) := ⟨rfl, rfl, rfl, by decide +kernel, rfl, by decide +kernel, by decide +kernel⟩

theorem ok_shuffledV (F : FnAt K mg "_law_shuffled" stshuffledV) (T : Txt K mg) (D_draw : Def P w K mg base CX0 1 "_law_draw" ["_law_pen_here", "_law_number"] spDraw) : Def P w K mg base CX0 2 "_law_shuffled" ["_law_pen_here", "_law_items"] spShuffledV := by
  refine F.ok scshuffledV (fun _ _ _ _ _ _ us hl => match us, hl with | [_, _], _ => rfl) (fun vs H Q E h => ?_) (fun f cdv A outer s H vs Q E hr h => ?_)
  · obtain ⟨g, n, q, xs, rfl, _⟩ := h
    rfl
  obtain ⟨g, n, q, ls, rfl, hq, h1, hp, hn, k⟩ := h
  have hu := hu_of hr
  have nd := scshuffledV.nd
  refine ⟨_, (pss_cons (ps_par (i := 2) (j := 3) (by rfl) nd rfl rfl (by decide) rfl rfl (pa_cons (pe_callTy (c_listK (K := K) rfl) (by rfl) T.list (by decide +kernel) (pa_cons (pv 1) pa_nil)) (pa_cons (pe_lst pa_nil) pa_nil)) (by rfl))
      (pss_cutS (ps_while PassesOwn.never (pt_cmpR (op_neL (K := K) rfl (Nat.lt_of_le_of_lt (Nat.le_add_right _ 64) hr.units)) (pv 2) (pe_lst pa_nil) (nomark _))
      (pss_one (ps_expr (pe_appK (K := K) rfl (pv 3) (pe_popK (K := K) rfl (pv 2) (pe_cd D_draw hr pass0 (pa_cons (pv 0) (pa_cons (pe_callB (c_lenK (K := K) rfl) (by rfl) T.len PySem.boot_len (pa_cons (pv 2) pa_nil)) pa_nil))))))))
      (pss_one (ps_ret (pv 3))))), ?_⟩
  refine s_start [some _, some _, none, none] rfl ?_
  walk_at "go"
  refine v_list (SqL.of hq) fun a H1 ha s1 e1 => ?_
  walk_at "go"
  intro b H2 hb s2 e2
  walk_at "go"
  have hab : a ≠ b := ne_of_none e1 hb
  refine s_cut (fun σ H' => ∃ ys : List V, σ = [some (.ref g.p), some (.ref q), some (.ref a), some (.ref b)] ∧ ys.Perm ls ∧ H' b = some (.lst ys) ∧ PenAt g H' (n + ls.length) ∧ Keep g.p H H') ?_ ?_
  · refine s_while (fun m σ H' => ∃ xs ys : List V, m = xs.length ∧ σ = [some (.ref g.p), some (.ref q), some (.ref a), some (.ref b)] ∧ (ys ++ xs).Perm ls ∧ H' a = some (.lst xs) ∧ H' b = some (.lst ys) ∧ PenAt g H' (n + ys.length) ∧ Keep g.p H H') ls.length ⟨ls, [], rfl, rfl, .refl _, s2 _ _ e1, e2, hp.same (s1.trans s2), Keep.of (s1.trans s2)⟩ ?_
    rintro m σ H3 ⟨xs, ys, rfl, rfl, pm, ea, eb, p3, k3⟩
    have hl := pm.length_eq
    rw [List.length_append] at hl
    walk_at "go"
    intro e H4 he s4 e4
    have ea4 := s4 _ _ ea
    have eb4 := s4 _ _ eb
    cases xs with
    | nil =>
      refine v_neLsame (As := []) ea4 e4 ?_
      walk_at "go"
      refine ⟨ys, rfl, by simpa using pm, eb4, (p3.same s4).mono (by omega), fun c o hc nc => s4 _ _ (k3 _ _ hc nc)⟩
    | cons x0 xr =>
      refine v_neL ea4 e4 (by simp) ?_
      walk_at "go"
      refine v_turn ?_
      walk_at "go"
      refine ⟨g, _, n + ys.length, rfl, ?_, ?_, p3.same s4, by omega, fun z H5 z0 z1 p5 k5 => ?_⟩
      · rw [List.length_cons]; omega
      · omega
      have nag : a ≠ g.p := (hp.p_ne ha).symm
      have nbg : b ≠ g.p := ((hp.same s1).p_ne hb).symm
      have hz : z.toNat < (x0 :: xr).length := by omega
      walk_at "go"
      refine v_pop (k5 _ _ ea4 nag) z0 (by omega) (by omega) (y := (x0 :: xr)[z.toNat]) (by rw [List.getElem?_eq_getElem hz]) fun H6 k6 e6 => ?_
      walk_at "go"
      have eb6 := k6 _ _ (k5 _ _ eb4 nbg) hab.symm
      refine v_app eb6 (by omega) fun H7 k7 e7 => ?_
      walk_at "go"
      refine ⟨xr.length, by simp, (x0 :: xr).eraseIdx z.toNat, ys ++ [(x0 :: xr)[z.toNat]], ?_, rfl, ?_, ?_, ?_, ?_, ?_⟩
      · rw [List.length_eraseIdx_of_lt hz]
        rfl
      · exact (erase_permV _ hz).trans pm
      · rw [k7 _ _ e6 hab]
      · rw [e7]
      · have q6 := p5.keep k6 (hp.p_ne ha) (hp.cl_ne ha)
        have q7 := q6.keep k7 ((hp.same s1).p_ne hb) ((hp.same s1).cl_ne hb)
        rw [List.length_append]
        exact q7
      · intro c o hc nc
        exact k7 _ _ (k6 _ _ (k5 _ _ (s4 _ _ (k3 _ _ hc nc)) nc) (ne_of_none hc ha)) (ne_of_none (s1 _ _ hc) hb)
  rintro σ H3 ⟨ys, rfl, pm, eb, p3, k3⟩
  walk_at "go"
  exact k b ys H3 (L2.Same.free s1 hb) pm eb p3 k3
end
end Cw
set_option Elab.async false
set_option linter.all false
set_option maxRecDepth 100000
set_option maxHeartbeats 4000000
namespace Cw
open PySem PySem.Spec L2
local macro_rules | `(tactic| walk_at "side") => `(tactic| first | omega | assumption | (dsimp only; omega) | (unfold CMul; omega) | exact ⟨by decide, by decide, by decide⟩ | exact wdiv (by first | assumption | decide | omega) (by first | assumption | decide | omega) | (simp only [List.length_cons, List.length_nil]; omega) | rfl)
local macro_rules | `(tactic| walk_at "hl") => `(tactic| first | assumption | exact upd_same | ((refine Cw.Same.at (by assumption) ?_); walk_at "hl") | ((refine Cw.Keep.at (by assumption) ?_ (by assumption)); walk_at "hl"))
local macro_rules | `(tactic| walk_at "st") => `(tactic| first
  | (with_reducible refine s_seq ?_) | (with_reducible refine g_nm ?_) | (with_reducible refine s_next ?_) | (with_reducible refine s_set ?_) | (with_reducible refine s_drop ?_) | (with_reducible refine s_ret ?_) | (with_reducible refine s_if ?_)
  | ((with_reducible refine e_varG ?_); refine ⟨_, (by with_unfolding_all rfl), ?_⟩) | (with_reducible refine e_c ?_) | (with_reducible refine e_op ?_) | (with_reducible refine e_un ?_)
  | (with_reducible refine e_cons ?_) | (with_reducible refine e_nil ?_) | (with_reducible refine e_cb ?_) | (with_reducible refine e_call ?_) | (with_reducible refine e_md ?_)
  | (with_reducible refine t_test ?_) | (with_reducible refine t_B ?_) | (with_reducible refine t_and ?_) | (with_reducible refine t_or ?_) | (with_reducible refine t_not ?_)
  | (with_reducible refine e_andV ?_) | (with_reducible refine e_orV ?_) | (with_reducible refine e_notV ?_) | (with_reducible refine e_if ?_)
  | (with_reducible refine v_I0 ?_) | ((with_reducible refine v_I ?c ?_); try (case c => walk_at "side")) | (with_reducible refine v_bl ?_)
  | ((with_reducible refine v_eq ?c ?_); (case c => with_unfolding_all rfl)) | ((with_reducible refine v_ne ?c ?_); (case c => with_unfolding_all rfl))
  | (with_reducible refine v_inti ?_) | (with_reducible refine v_intb ?_) | ((with_reducible refine v_lenG ?_); refine ⟨_, (by walk_at "hl"), ?_⟩)
  | ((with_reducible refine v_lenS ?c ?_); try (case c => walk_at "side"))
  | (with_reducible refine e_dnew ?_) | (with_reducible refine e_dget ?_) | (with_reducible refine s_dput ?_) | (with_reducible refine e_lst ?_) | (with_reducible refine e_tup ?_)
  | ((with_reducible refine v_lst ?c ?_); (case c => walk_at "side")) | ((with_reducible refine v_tup ?c ?_); (case c => walk_at "side"))
  | ((with_reducible refine v_dgetG ?_); refine ⟨_, (by assumption), ?_⟩)
  | (with_reducible refine e_sl ?_) | (with_reducible refine e_nopart ?_) | (with_reducible refine e_part ?_) | (with_reducible refine e_m1 ?_) | (with_reducible refine v_isS ?_) | (with_reducible refine v_int ?_)
  | (with_reducible refine e_lc ?_) | (with_reducible refine e_iStr ?_) | (with_reducible refine e_iEnumS ?_) | (with_reducible refine v_iEnumS ?_) | (with_reducible refine v_str ?_) | (with_reducible refine e_yes ?_) | (with_reducible refine e_fld ?_) | (with_reducible refine e_sfld ?_)
  | ((with_reducible refine v_addS ?c ?_); try (case c => walk_at "side")) | (with_reducible refine v_inS ?_) | (with_reducible refine v_notInS ?_) | (with_reducible refine v_ltS ?_)
  | ((with_reducible refine v_inLG ?_); refine ⟨_, (by walk_at "hl"), ?_⟩) | (with_reducible refine v_isiS ?_) | (with_reducible refine e_revS ?_) | ((with_reducible refine v_revS ?c ?_); try (case c => walk_at "side"))
  | ((with_reducible refine v_lenSetG ?_); refine ⟨_, (by walk_at "hl"), ?_⟩)
  | (with_reducible refine e_bm ?_) | (with_reducible refine e_bm0 ?_) | ((with_reducible refine v_tyLG ?_); refine ⟨_, (by walk_at "hl"), ?_⟩)
  | (with_reducible refine iteNT ?_) | (with_reducible refine iteNF ?_) | (with_reducible refine e_for ?_)
  | (with_reducible refine e_iL ?_) | (with_reducible refine e_iT ?_) | ((with_reducible refine v_iLG ?_); refine ⟨_, (by walk_at "hl"), ?_⟩) | (with_reducible refine e_iR1 ?_) | ((with_reducible refine v_iR1 ?c1 ?c2 ?_); try (case c1 => walk_at "side"); try (case c2 => walk_at "side"))
  | (with_reducible refine e_iR2 ?_) | ((with_reducible refine v_iR2 ?c1 ?_); try (case c1 => walk_at "side"))
  | (with_reducible refine e_pr0 ?_) | (with_reducible refine e_pr ?_) | (with_reducible refine e_disp ?_) | (with_reducible refine s_asgT ?_) | (with_reducible refine e_tryA ?_) | (with_reducible refine e_callS ?_) | (with_reducible refine e_mdS ?_) | (with_reducible refine e_par ?_) | (with_reducible refine v_par ?_) | (with_reducible refine e_par3 ?_) | (with_reducible refine v_par3 ?_) | (with_reducible refine e_iK ?_) | (with_reducible refine e_dnotin ?_)
  | (with_reducible refine iteT ?_) | (with_reducible refine iteF ?_))
local macro_rules | `(tactic| walk_at "go") => `(tactic| repeat walk_at "st")
local macro_rules | `(tactic| walk_at "ro") => `(tactic| first | assumption | ((apply RoomAt.go (by assumption)); walk_at "ro"))
local macro_rules | `(tactic| walk_at "pl") => `(tactic| first | assumption | ((apply PlanAt.go (by assumption)); walk_at "pl"))
local macro_rules | `(tactic| walk_at "st2") => `(tactic| first
  | (walk_at "st")
  | ((with_reducible refine v_rnameG ?_); refine ⟨_, _, _, (by walk_at "ro"), (by assumption), (by assumption), ?_⟩)
  | ((with_reducible refine v_rplanG ?_); refine ⟨_, _, _, (by walk_at "ro"), (by assumption), (by assumption), ?_⟩)
  | ((with_reducible refine v_rlenG ?_); refine ⟨_, _, (by walk_at "ro"), (by omega), ?_⟩)
  | ((with_reducible refine v_reqG ?_); refine ⟨_, _, _, _, _, (by walk_at "ro"), (by walk_at "ro"), (by walk_at "pl"), (by assumption), (by omega), (by omega), ?_⟩)
  | ((with_reducible refine v_rneG ?_); refine ⟨_, _, _, _, _, (by walk_at "ro"), (by walk_at "ro"), (by walk_at "pl"), (by assumption), (by omega), (by omega), ?_⟩)
  | ((with_reducible refine v_reqTG ?_); refine ⟨_, _, (by walk_at "ro"), ?_⟩)
  | ((with_reducible refine v_peqG ?_); refine ⟨_, _, (by walk_at "pl"), (by assumption), ?_⟩)
  | (with_reducible refine if_nI rfl ?_)
  | (with_reducible refine if_I rfl ?_)
  | ((with_reducible refine v_mdRG ?_); refine ⟨_, _, (by walk_at "ro"), (by decide +kernel), ?_⟩)
  | (with_reducible refine s_asgL ?_) | (with_reducible refine e_MN ?_)
  | (with_reducible refine e_CN ?_) | (refine ⟨rfl, rfl, ?_⟩))
local macro_rules | `(tactic| walk_at "go2") => `(tactic| repeat walk_at "st2")
theorem if_two {b : Bool} {m n : Int} {σ : L2.St} {H : Hp} {Q : VK} (q : ∀ z : Int, z = m ∨ z = n → Q (.int z) H) : if b = true then tC (.int m) σ H Q else tC (.int n) σ H Q := by
  cases b
  · exact q n (.inr rfl)
  · exact q m (.inl rfl)
theorem v_slAnyQ {H : Hp} {Q : VK} {l : List Nat} {i : Int} (hl : l.length ≤ 1000000) (q : ∀ n, Q (.str (tx (l.take n))) H) : rSlS (.str (tx l)) none (some i) H Q := by
  refine ⟨tx l, rfl, by rw [tx_len]; exact szl hl, ?_⟩
  have e : cutS (tx l) none (some i) = tx (l.take (HT.sIx (tx l).length (tx l).length (some i))) := by
    unfold cutS
    show (⟨((l.toArray.toList.drop 0).take (_ - 0)).toArray⟩ : Str) = _
    simp
  rw [e]
  exact q _
theorem cut_first (xs : List V) (n : Nat) : cutV xs none (some (n : Int)) = xs.take n := by
  unfold cutV
  rw [HT.sIx_none, HT.sIx_nat, List.drop_zero, Nat.sub_zero, List.take_eq_take_iff]
  omega
/-- what is behind a list's elements, put in another order -/
theorem perm_inv {α β : Type} {g : α → β} : ∀ {ys zs : List β}, ys.Perm zs → ∀ xs : List α, zs = xs.map g → ∃ xs' : List α, xs'.Perm xs ∧ ys = xs'.map g := by
  intro ys zs h
  induction h with
  | nil =>
    intro xs e
    cases xs with
    | nil => exact ⟨[], .nil, rfl⟩
    | cons _ _ => simp at e
  | cons a h ih =>
    intro xs e
    cases xs with
    | nil => simp at e
    | cons x xs =>
      rw [List.map_cons] at e
      injection e with e1 e2
      obtain ⟨xs', p, e3⟩ := ih xs e2
      exact ⟨x :: xs', p.cons x, by rw [List.map_cons, e1, e3]⟩
  | swap a b l =>
    intro xs e
    match xs, e with
    | [], e => simp at e
    | [_], e => simp at e
    | x :: y :: xs, e =>
      rw [List.map_cons, List.map_cons] at e
      injection e with e1 e2
      injection e2 with e2 e3
      exact ⟨y :: x :: xs, .swap .., by rw [List.map_cons, List.map_cons, e1, e2, e3]⟩
  | trans h1 h2 ih1 ih2 =>
    intro xs e
    obtain ⟨ys', p, e2⟩ := ih2 xs e
    obtain ⟨zs', p2, e3⟩ := ih1 ys' e2
    exact ⟨zs', p2.trans p, e3⟩
theorem paired_zip {α β : Type} {r : α → β → Prop} : ∀ {as : List α} {bs : List β}, Paired r as bs → ∃ zs : List (α × β), zs.map Prod.fst = as ∧ zs.map Prod.snd = bs ∧ ∀ z ∈ zs, r z.1 z.2
  | _, _, .nil => ⟨[], rfl, rfl, fun _ z => nomatch z⟩
  | a :: _, b :: _, .cons h t => by
    obtain ⟨zs, e1, e2, e3⟩ := paired_zip t
    refine ⟨(a, b) :: zs, by rw [List.map_cons, e1], by rw [List.map_cons, e2], fun z hz => ?_⟩
    rcases List.mem_cons.mp hz with rfl | hz
    · exact h
    · exact e3 z hz
theorem paired_of_zip {α β : Type} {r : α → β → Prop} : ∀ {zs : List (α × β)}, (∀ z ∈ zs, r z.1 z.2) → Paired r (zs.map Prod.fst) (zs.map Prod.snd)
  | [], _ => .nil
  | z :: zs, h => .cons (h z (List.mem_cons_self ..)) (paired_of_zip fun y hy => h y (List.mem_cons_of_mem _ hy))
theorem paired_perm {α β γ : Type} {r : α → β → Prop} {g : α → γ} {as : List α} {bs : List β} {ys : List γ} (h : Paired r as bs) (p : ys.Perm (as.map g)) : ∃ as' bs', ys = as'.map g ∧ Paired r as' bs' ∧ bs'.Perm bs := by
  obtain ⟨zs, rfl, rfl, h3⟩ := paired_zip h
  rw [List.map_map] at p
  obtain ⟨zs', p2, rfl⟩ := perm_inv p zs rfl
  exact ⟨zs'.map Prod.fst, zs'.map Prod.snd, by rw [List.map_map], paired_of_zip fun z hz => h3 z (p2.mem_iff.mp hz), p2.map _⟩
/-- the kinds at a room that lead away from another one -/
def rowF (fn : Nat → List Nat) (ls N w : List Nat) : List Nat := backs ls fun c x => act fn (w.reverse ++ N).reverse (unit x) c
section
variable {H : Hp} {Q : VK} {C R : Addr} {ls : List Nat} {fn : Nat → List Nat} {E : XK}
theorem v_eqR {M N : List Nat} {r r' x y : Addr} (h1 : RoomAt R H r x M) (h2 : RoomAt R H r' y N) (p1 : PlanAt C H x (ascOf ls) (tabPairs ls fn)) (p2 : PlanAt C H y (ascOf ls) (tabPairs ls fn)) (l : M.length ≤ 2000) (l2 : N.length ≤ 2000) (q : Q (.bl (decide (M = N))) H) : rM2 R (spRoomEq C R) E (.ref r) (.ref r') H Q := by
  obtain ⟨d1, e1⟩ := h1.ex
  obtain ⟨d2, e2⟩ := h2.ex
  have ps := pairsOf_small (ls.flatMap fun a => (fn a).map fun b => ascOf [a, b])
  refine v_M2 e1 e2 ⟨_, _, _, _, _, _, true, rfl, ⟨h1, h2, ⟨_, _, _, _, p1, p2, ps, ps, (decide_eq_true ⟨rfl, rfl⟩).symm⟩, by omega, by omega⟩, ?_⟩
  rw [Bool.true_and]
  exact q
theorem v_sameR {M : List Nat} {r r' x y : Addr} (fl : Fl ls fn) (h1 : RoomAt R H r x M) (h2 : RoomAt R H r' y M) (p1 : PlanAt C H x (ascOf ls) (tabPairs ls fn)) (p2 : PlanAt C H y (ascOf ls) (tabPairs ls fn)) (l : M.length ≤ 2000) (q : Q (.bl true) H) : rM2 R (spRoomEq C R) E (.ref r) (.ref r') H Q := by
  obtain ⟨d1, e1⟩ := h1.ex
  obtain ⟨d2, e2⟩ := h2.ex
  have ps := pairsOf_small (ls.flatMap fun a => (fn a).map fun b => ascOf [a, b])
  refine v_M2 e1 e2 ⟨_, _, _, _, _, _, true, rfl, ⟨h1, h2, ⟨_, _, _, _, p1, p2, ps, ps, (decide_eq_true ⟨rfl, rfl⟩).symm⟩, by omega, by omega⟩, ?_⟩
  rw [Bool.true_and, decide_eq_true rfl]
  exact q
end
section
variable {P : Program} {w : World} {K : PySem.W.Frag} {mg : Str → Option Value} {base : Heap} {C R O e0 : Addr}
abbrev stlaw : Stmt := (top 62)
abbrev Nlaw : List Str := ["_law_script", "_law_pen_here", "_law_again", "_law_table", "_law_floor_here", "_law_begun_here", "_law_walks", "_law_number", "_law_k", "_law_floors", "_law_rooms_here", "_law_kept", "_law_starts", "_law_start", "_law_here", "_law_told", "_law_walk_here", "_law_parts_of", "_law_first_doors", "_law_door", "_law_part", "_law_row"]
theorem sclaw : FnScope Nlaw ["_law_script"] (defScope stlaw) := ⟨rfl, rfl, rfl, by decide +kernel, rfl, by decide +kernel, by decide +kernel⟩

theorem ok_law {f : Addr} {fd : FuncData} (F : Fun K "law" "law" stlaw f fd) (T : TxtL K mg C R O) (kt : ∀ H : Hp, SeqO K H e0 []) (D_pen : Def P w K mg base CX0 1 "_law_pen" ["_law_script"] (spPen K)) (D_draw : Def P w K mg base CX0 1 "_law_draw" ["_law_pen_here", "_law_number"] spDraw) (D_pick : Def P w K mg base CX0 2 "_law_pick" ["_law_pen_here", "_law_items"] spPick) (D_shuffled : Def P w K mg base CX0 2 "_law_shuffled" ["_law_pen_here", "_law_items"] spShuffledV) (D_floor : Def P w K mg base CX0 3 "_law_floor" ["_law_pen_here", "_law_number"] spFloor) (D_made : Def P w K mg base CX0 5 "_law_made" ["_law_pen_here", "_law_table"] (spMade C)) (D_walk : Def P w K mg base CX0 3 "_law_walk" ["_law_pen_here", "_law_table", "_law_number"] spWalk)
    (D_begun : Def P w K mg base CX0 4 "_law_begun" ["_law_pen_here", "_law_table", "_law_number", "_law_size"] spBegun) (D_plain : Def P w K mg base CX0 1 "_law_plain" ["_law_table"] spPlain) (D_marks : Def P w K mg base CX0 2 "_law_marks" ["_law_table", "_law_walk_here"] spMarks) (D_backs : Def P w K mg base CX0 1 "_law_backs" ["_law_marks_here"] spBacksF) (D_far : Def P w K mg base CX0 4 "_law_far" ["_law_table", "_law_first", "_law_second"] spFar) (D_gate : Def P w K mg base CX0 6 "gate" ["room", "rooms"] (spGate K C R)) (D_gate_0_rooms_room : DefN P w K mg base CX0 6 "gate" (spGate K C R) 0 ["rooms", "room"] [.kw 1, .kw 0] []) (D_in_hull : Def P w K mg base CX0 7 "in_hull" ["room", "rooms"] (spInHull K C R)) (D_in_hull_0_room_rooms : DefN P w K mg base CX0 7 "in_hull" (spInHull K C R) 0 ["room", "rooms"] [.kw 0, .kw 1] []) (D_plain_right : Def P w K mg base CX0 7 "_law_plain_right" ["_law_bare", "_law_start", "_law_walks"] spPlainRight)
    (C_Room : CDef P w K mg base CX0 3 "Room" R (spRoom C R)) (M_Room_eq : MDef P w K mg base CX0 2 R "__eq__" ["self", "other"] (spRoomEq C R)) : FnOk P w K mg base CX0 8 f fd ["_law_script"] (spLaw K) := by
  refine F.ok sclaw (fun vs H Q E h => ?_) (fun cdv A outer s H vs Q E hr h => ?_)
  · obtain ⟨a, ns, rfl, _⟩ := h
    rfl
  obtain ⟨sc, ns, rfl, ha, hn, k⟩ := h
  have hu := hu_of hr
  have nd := sclaw.nd
  replace D_pen := D_pen.mono (show 1 ≤ 7 by decide)
  replace D_draw := D_draw.mono (show 1 ≤ 7 by decide)
  replace D_pick := D_pick.mono (show 2 ≤ 7 by decide)
  replace D_shuffled := D_shuffled.mono (show 2 ≤ 7 by decide)
  replace D_floor := D_floor.mono (show 3 ≤ 7 by decide)
  replace D_made := D_made.mono (show 5 ≤ 7 by decide)
  replace D_walk := D_walk.mono (show 3 ≤ 7 by decide)
  replace D_begun := D_begun.mono (show 4 ≤ 7 by decide)
  replace D_plain := D_plain.mono (show 1 ≤ 7 by decide)
  replace D_marks := D_marks.mono (show 2 ≤ 7 by decide)
  replace D_backs := D_backs.mono (show 1 ≤ 7 by decide)
  replace D_far := D_far.mono (show 4 ≤ 7 by decide)
  replace D_gate := D_gate.mono (show 6 ≤ 7 by decide)
  replace D_gate_0_rooms_room := D_gate_0_rooms_room.mono (show 6 ≤ 7 by decide)
  replace C_Room := C_Room.mono (show 3 ≤ 6 by decide)
  replace M_Room_eq := M_Room_eq.mono (show 2 ≤ 7 by decide)
  have clR := T.Room.cl
  have nNm := T.nNm
  have nPl := T.nPl
  refine ⟨_, (pss_cons (ps_set (i := 1) nd rfl (Or.inr rfl) (pe_cd D_pen hr pass0 (pa_cons (pv 0) pa_nil)))
      (pss_cons (ps_for PassesOwn.never rfl (pi_range1 (by rfl) T.range (pa_cons (pe_op op_add pe_int (pe_callB (call_min2 rfl) (by rfl) T.min (by decide +kernel) (pa_cons pe_int (pa_cons (pe_callB (c_lenK (K := K) rfl) (by rfl) T.len PySem.boot_len (pa_cons (pv 0) pa_nil)) pa_nil)))) pa_nil)) (pg_name (i := 2) nd rfl (Or.inl rfl))
      (pss_cons (ps_set (i := 3) nd rfl (Or.inr rfl) (pe_cd D_floor hr pass0 (pa_cons (pv 1) (pa_cons pe_int pa_nil))))
        (pss_cons (ps_par (i := 4) (j := 5) (by rfl) nd rfl rfl (by decide) rfl rfl (pa_cons (pe_cd D_made hr pass0 (pa_cons (pv 1) (pa_cons (pv 3) pa_nil))) (pa_cons (pe_cd D_begun hr pass0 (pa_cons (pv 1) (pa_cons (pv 3) (pa_cons pe_int (pa_cons pe_int pa_nil))))) pa_nil)) (by rfl))
        (pss_cons (ps_par (i := 6) (j := 7) (by rfl) nd rfl rfl (by decide) rfl rfl (pa_cons (pe_lst pa_nil) (pa_cons (pe_op op_add pe_int (pe_cd D_draw hr pass0 (pa_cons (pv 1) (pa_cons (pe_ifExp (pt_cmpR op_lt (pe_callB c_lenS (by rfl) T.len PySem.boot_len (pa_cons (pv 5) pa_nil)) pe_int (nomark _)) pe_int pe_int) pa_nil)))) pa_nil)) (by rfl))
        (pss_cons (ps_for PassesOwn.never rfl (pi_range1 (by rfl) T.range (pa_cons (pv 7) pa_nil)) (pg_name (i := 8) nd rfl (Or.inl rfl))
        (pss_one (ps_expr (pe_appK (K := K) rfl (pv 6) (pe_op op_addS (pe_cd D_pick hr pass0 (pa_cons (pv 1) (pa_cons (pe_lst (pa_cons (pe_tx [] (by decide +kernel)) (pa_cons (pv 5) (pa_cons (pv 5) pa_nil)))) pa_nil))) (pe_cd D_walk hr pass0 (pa_cons (pv 1) (pa_cons (pv 3) (pa_cons pe_int pa_nil)))))))))
        (pss_cons (ps_expr (pe_appK (K := K) rfl (pv 6) (pe_cd D_pick hr pass0 (pa_cons (pv 1) (pa_cons (pv 6) pa_nil)))))
        (pss_cons (ps_set (i := 9) nd rfl (Or.inr rfl) (pe_lst (pa_cons (pv 4) (pa_cons (pe_cd D_made hr pass0 (pa_cons (pv 1) (pa_cons (pv 3) pa_nil))) pa_nil))))
        (pss_cons (ps_setLc (i := 10) (own := [("_law_walk_here", 16)]) (g := gName 16) (by rfl) nd rfl rfl (sw_true rfl rfl rfl (by decide +kernel)) (pi_listK (K := K) rfl (pv 6)) (blkOk_by (own := [("_law_walk_here", 16)]) (N := Nlaw) (sc := defScope stlaw) (by decide +kernel)) (fun _ _ _ _ _ => (pg_name (i := 16) nd rfl (Or.inl rfl))) (fun _ _ _ _ _ => pts_nil) (fun _ _ _ _ _ => (pe_mk C_Room hr pass0 (pa_cons (pe_cd D_pick hr pass0 (pa_cons (pv 1) (pa_cons (pv 9) pa_nil))) (pa_cons (pv 16) pa_nil)))))
        (pss_cons (ps_set (i := 11) nd rfl (Or.inl rfl) (pe_callTy (c_listK (K := K) rfl) (by rfl) T.list (by decide +kernel) (pa_cons (pv 10) pa_nil)))
        (pss_cons (ps_set (i := 12) nd rfl (Or.inl rfl) (pe_lst (pa_cons (pe_op op_addS (pv 5) (pe_cd D_walk hr pass0 (pa_cons (pv 1) (pa_cons (pv 3) (pa_cons pe_int pa_nil))))) (pa_cons (pe_slice sl_S (pe_cd D_pick hr pass0 (pa_cons (pv 1) (pa_cons (pv 6) pa_nil))) po_none (po_some (pe_un un_neg pe_int))) (pa_cons (pe_cd D_walk hr pass0 (pa_cons (pv 1) (pa_cons (pv 3) (pa_cons pe_int pa_nil)))) pa_nil)))))
        (pss_cons (ps_set (i := 13) nd rfl (Or.inl rfl) (pe_cd D_pick hr pass0 (pa_cons (pv 1) (pa_cons (pv 12) pa_nil))))
        (pss_cons (ps_set (i := 14) nd rfl (Or.inl rfl) (pe_mk C_Room hr pass0 (pa_cons (pv 4) (pa_cons (pv 13) pa_nil))))
        (pss_cons (ps_set (i := 15) nd rfl (Or.inr rfl) (pe_cd D_gate hr pass0 (pa_cons (pv 14) (pa_cons (pv 10) pa_nil))))
        (pss_cons (ps_for PassesOwn.never rfl (pi_listK (K := K) rfl (pv 6)) (pg_name (i := 16) nd rfl (Or.inl rfl))
        (pss_cons (ps_set (i := 17) nd rfl (Or.inl rfl) (pe_lst (pa_cons (pe_cd D_far hr pass0 (pa_cons (pv 3) (pa_cons (pv 13) (pa_cons (pe_flK (K := K) rfl (pv 15) rfl) pa_nil)))) (pa_cons (pe_cd D_far hr pass0 (pa_cons (pv 3) (pa_cons (pe_flK (K := K) rfl (pv 15) rfl) (pa_cons (pv 16) pa_nil)))) pa_nil))))
          (pss_one (ps_if (pt_cmpR op_ne (pe_cd D_far hr pass0 (pa_cons (pv 3) (pa_cons (pv 13) (pa_cons (pv 16) pa_nil)))) (pe_callB (c_sumK (K := K) rfl rfl) (by rfl) T.sum (by decide +kernel) (pa_cons (pe_lc (own := [("_law_part", 20)]) (g := gName 20) (by rfl) nd (pi_listK (K := K) rfl (pv 17)) (blkOk_by (own := [("_law_part", 20)]) (N := Nlaw) (sc := defScope stlaw) (by decide +kernel)) (fun _ _ _ _ _ => (pg_name (i := 20) nd rfl (Or.inl rfl))) (fun _ _ _ _ _ => pts_nil) (fun _ _ _ _ _ => (pe_callTy c_int (by rfl) T.int (by decide +kernel) (pa_cons (pv 20) pa_nil)))) pa_nil)) (nomark _))
          (pss_one (ps_ret pe_bl))
          pss_nil))))
        (pss_cons (ps_setLc (i := 18) (own := [("_law_walk_here", 16)]) (g := gName 16) (by rfl) nd rfl rfl (sw_true rfl rfl rfl (by decide +kernel)) (pi_listK (K := K) rfl (pv 6)) (blkOk_by (own := [("_law_walk_here", 16)]) (N := Nlaw) (sc := defScope stlaw) (by decide +kernel)) (fun _ _ _ _ _ => (pg_name (i := 16) nd rfl (Or.inl rfl))) (fun _ _ _ _ _ => pts_nil) (fun _ _ _ _ _ => (pe_cd D_backs hr pass0 (pa_cons (pe_cd D_marks hr pass0 (pa_cons (pv 3) (pa_cons (pe_op op_addS (pe_revS (pv 16)) (pe_flK (K := K) rfl (pv 15) rfl)) pa_nil))) pa_nil))))
        (pss_cons (ps_lock (ps_for PassesOwn.never rfl (pi_keys (pv 3)) (pg_name (i := 19) nd rfl (Or.inr rfl))
        (pss_one (ps_if (pt_cmpR (op_eqDK (K := K) rfl hr.units) (pe_lc (own := [("_law_row", 21)]) (g := gName 21) (by rfl) nd (pi_listK (K := K) rfl (pv 18)) (blkOk_by (own := [("_law_row", 21)]) (N := Nlaw) (sc := defScope stlaw) (by decide +kernel)) (fun _ _ _ _ _ => (pg_name (i := 21) nd rfl (Or.inl rfl))) (fun _ _ _ _ _ => (pts_one (pt_cmpR (op_notInLK (K := K) rfl) (pv 19) (pv 21) (by rfl)))) (fun _ _ _ _ _ => (pv 21))) (pe_lst pa_nil) (nomark _))
          (pss_one (ps_ret pe_bl))
          pss_nil))))
        (pss_cons (ps_if (pt_not (pt_cmpR (op_cmpM (op := .Eq) (fun _ _ => rfl) M_Room_eq hr pass0) (pe_fN0 D_gate_0_rooms_room hr pass0 (pk_cons (pe_callTy (c_tupleK (K := K) rfl) (by rfl) T.tuple (by decide +kernel) (pa_cons (pe_cd D_shuffled hr pass0 (pa_cons (pv 1) (pa_cons (pv 10) pa_nil))) pa_nil)) (pk_cons (pv 14) pk_nil))) (pv 15) (nomark _)))
        (pss_one (ps_ret pe_bl))
        pss_nil)
        (pss_cons (ps_if (PW.pt (pw_or (pt_not (pt_cmpR (op_cmpM (op := .Eq) (fun _ _ => rfl) M_Room_eq hr pass0) (pe_cd D_gate hr pass0 (pa_cons (pv 15) (pa_cons (pv 10) pa_nil))) (pv 15) (nomark _))) (pw_or1 (pt_cmpR op_notBl (pe_fN0 D_in_hull_0_room_rooms hr pass0 (pk_cons (pv 15) (pk_cons (pv 10) pk_nil))) pe_bl (nomark _)))))
        (pss_one (ps_ret pe_bl))
        pss_nil)
        (pss_cons (ps_if (PW.pt (pw_or (pt_cmpR op_ne (pe_cd D_in_hull hr pass0 (pa_cons (pv 14) (pa_cons (pv 10) pa_nil))) (pe_cmpR (op_cmpM (op := .Eq) (fun _ _ => rfl) M_Room_eq hr pass0) (pv 14) (pv 15) (nomark _)) (nomark _)) (pw_or1 (pt_cmpR (op_neL (K := K) rfl (Nat.lt_of_le_of_lt (Nat.le_add_right _ 64) hr.units)) (pv 10) (pv 11) (nomark _)))))
        (pss_one (ps_ret pe_bl))
        pss_nil)
        (pss_one (ps_if (PW.pt (pw_or (pt_not (pt_val (pe_cd D_plain_right hr pass0 (pa_cons (pe_cd D_plain hr pass0 (pa_cons (pv 3) pa_nil)) (pa_cons (pv 13) (pa_cons (pe_slice (sl_LK (K := K) rfl) (pv 6) po_none (po_some pe_int)) pa_nil)))))) (pw_or1 (pt_not (pt_cmpR (op_cmpM (op := .Eq) (fun _ _ => rfl) M_Room_eq hr pass0) (pe_cd D_gate hr pass0 (pa_cons (pv 14) (pa_cons (pv 10) pa_nil))) (pv 15) (nomark _))))))
        (pss_one (ps_ret pe_bl))
        pss_nil)))))))))))))))))))))
      (pss_one (ps_ret pe_bl)))), ?_⟩
  refine s_start [some _, none, none, none, none, none, none, none, none, none, none, none, none, none, none, none, none, none, none, none, none, none] rfl ?_
  walk_at "go"
  refine ⟨sc, ns, rfl, ha, hn, fun g H1 p1 s1 hg => ?_⟩
  walk_at "go"
  refine ⟨sc, _, rfl, .inl (sqL_same ha s1), ?_⟩
  walk_at "go"
  refine ⟨_, _, rfl, ?_⟩
  walk_at "go"
  have hm : (3 + (if ((ns.map V.int).length : Int) < 3 then ((ns.map V.int).length : Int) else 3)).toNat ≤ 6 := by split <;> omega
  refine for_it (walk_rI (fun i => ((i : Nat) : Int)) (fun k => Int.zero_add _)) (fun i σ H' => ∃ x2 x3 x4 x5 x6 x7 x8 x9 x10 x11 x12 x13 x14 x15 x16 x17 x18 x19, σ = [some (.ref sc), some (.ref g.p), x2, x3, x4, x5, x6, x7, x8, x9, x10, x11, x12, x13, x14, x15, x16, x17, x18, x19, none, none] ∧ PenAt g H' (5000 * i)) ⟨_, _, _, _, _, _, _, _, _, _, _, _, _, _, _, _, _, _, rfl, p1⟩ (fun _ _ _ _ _ => trivial) ?_ ?_
  · rintro i v σ H2 H3 hi ⟨x2, x3, x4, x5, x6, x7, x8, x9, x10, x11, x12, x13, x14, x15, x16, x17, x18, x19, rfl, p3⟩ ⟨rfl, rfl⟩
    refine g_nm ?_
    refine s_hide fun Dn hDn => ?_
    walk_at "go"
    refine ⟨g, 5000 * i, 6, rfl, by omega, by omega, p3, by omega, fun d ls rel H4 hd flr e4 p4 k4 => ?_⟩
    have fl := flr.fl
    have ndp : d ≠ g.p := by
      obtain ⟨a, b, h1, _⟩ := p3.ex
      exact (ne_of_none h1 hd).symm
    generalize crossBy ls rel = fn at fl e4
    have tab := fl.tab
    have ok := fl.ok
    have l8 := tab.len
    walk_at "go"
    refine ⟨g, _, d, ls, fn, rfl, p4, by omega, ndp, e4, tab, fun x H5 hx k5 p5 pl5 of5 => ?_⟩
    have e5 := k5 _ _ e4 ndp
    clear e4 p4 k4
    walk_at "go"
    refine ⟨g, _, d, ls, fn, 12, 90, rfl, p5, by omega, ndp, e5, tab, fl.pos, by omega, by omega, fun w0 H6 m0 l0 p6 k6 => ?_⟩
    have l0 : w0.length ≤ 90 := l0
    have d6 := k6 _ _ e5 ndp
    have pl6 := pl5.pen p5 k6
    clear e5 p5 pl5 of5
    walk_at "go"
    intro wa H7 hwa s7 e7
    have p7 := p6.same s7
    have hwp := p6.p_ne hwa
    have hwc := p6.cl_ne hwa
    have k7 : Keep g.p H6 H7 := Keep.of s7
    walk_at "go"
    refine if_two fun z hz => ?_
    walk_at "go"
    refine ⟨g, z, _, rfl, by omega, by omega, p7, by omega, fun y' H8 y0 y1 p8 k8 => ?_⟩
    have e8 := k8 _ _ e7 hwp.symm
    have k8 := k7.trans k8
    clear p7 e7 s7 k7
    walk_at "go"
    refine for_it (walk_rI (fun i => ((i : Nat) : Int)) (fun k => Int.zero_add _)) (fun j σ H' => ∃ x8 ws, σ = [some (.ref sc), some (.ref g.p), some (.int (i : Nat)), some (.ref d), some (.ref x), some (.str (tx w0)), some (.ref wa), some (.int (1 + y')), x8, x9, x10, x11, x12, x13, x14, x15, x16, x17, x18, x19, none, none] ∧ H' wa = some (.lst (ws.map fun l => V.str (tx l))) ∧ ws.length = j ∧ (∀ l ∈ ws, (∀ c ∈ l, c ∈ ls) ∧ l.length ≤ 110) ∧ PenAt g H' (5000 * i + 1000 + 300 * j) ∧ Keep g.p H6 H') ⟨_, [], rfl, e8, rfl, (fun _ z => nomatch z), p8.mono (by omega), k8⟩ (fun _ _ _ _ _ => trivial) ?_ ?_
    · rintro j v σ H9 H10 hj ⟨x8, ws, rfl, eW, lw, mw, p10, k10⟩ ⟨rfl, rfl⟩
      have hj8 : j < 8 := by omega
      have d10 := k10 _ _ d6 ndp
      walk_at "go"
      intro q1 H11 hq1 s11 e11
      have p11 := p10.same s11
      refine ⟨g, _, q1, _, rfl, e11, by simp, by simp, p11, by omega, (p10.p_ne hq1).symm, fun v H12 hv p12 k12 => ?_⟩
      obtain ⟨l, rfl, ml, ll⟩ : ∃ l : List Nat, v = .str (tx l) ∧ (∀ c ∈ l, c ∈ ls) ∧ l.length ≤ 90 := by
        simp only [List.mem_cons, List.not_mem_nil, or_false] at hv
        rcases hv with rfl | rfl | rfl
        · exact ⟨[], rfl, (fun _ z => nomatch z), by simp⟩
        · exact ⟨w0, rfl, m0, l0⟩
        · exact ⟨w0, rfl, m0, l0⟩
      have k12 := (Keep.of s11).trans k12
      have d12 := k12 _ _ d10 ndp
      walk_at "go"
      refine ⟨g, _, d, ls, fn, 13, rfl, p12, by omega, ndp, d12, tab, fl.pos, by omega, fun w5 H13 m5 l5 p13 k13 => ?_⟩
      have l5 : w5.length ≤ 13 := l5
      refine v_addS (by omega) ?_
      have k13 := k12.trans k13
      have eD := k13 _ _ eW hwp.symm
      walk_at "go"
      refine v_app eD (by rw [List.length_map]; omega) fun H14 k14 e14 => ?_
      refine ⟨_, ws ++ [l ++ w5], rfl, ?_, ?_, ?_, ?_, ?_⟩
      · rw [e14, List.map_append]
        rfl
      · rw [List.length_append, lw]
        rfl
      · intro y hy
        rcases List.mem_append.mp hy with z | z
        · exact mw y z
        · rw [List.mem_singleton.mp z]
          exact ⟨fun c hc => (List.mem_append.mp hc).elim (ml c) (m5 c), by rw [List.length_append]; omega⟩
      · exact (p13.keep k14 hwp hwc).mono (by omega)
      · intro b o hb nb
        exact k14 _ _ (k13 _ _ (k10 _ _ hb nb) nb) (ne_of_none hb hwa)
    rintro σ H9 ⟨x8, ws, rfl, eW, lw, mw, p9, k9⟩
    have lw1 : 0 < ws.length ∧ ws.length ≤ 8 := by omega
    walk_at "go"
    refine ⟨g, _, wa, _, rfl, eW, by rw [List.length_map]; omega, by rw [List.length_map]; omega, p9, by omega, hwp.symm, fun v H10 hv p10 k10 => ?_⟩
    obtain ⟨la, hla, rfl⟩ := List.mem_map.mp hv
    walk_at "go"
    refine v_app (k10 _ _ eW hwp.symm) (by rw [List.length_map]; omega) fun H11 k11 e11 => ?_
    have e11 : H11 wa = some (.lst ((ws ++ [la]).map fun l => V.str (tx l))) := by rw [e11, List.map_append]; rfl
    have mw : ∀ l ∈ ws ++ [la], (∀ c ∈ l, c ∈ ls) ∧ l.length ≤ 110 := fun l hl => by
      rcases List.mem_append.mp hl with z | z
      · exact mw l z
      · rw [List.mem_singleton.mp z]
        exact mw la hla
    have lW : 1 < (ws ++ [la]).length ∧ (ws ++ [la]).length ≤ 9 := by rw [List.length_append, List.length_singleton]; omega
    have p11 := (p10.keep k11 hwp hwc).mono (show _ ≤ 5000 * i + 3500 by omega)
    have k11 : Keep g.p H6 H11 := fun b o hb nb => k11 _ _ (k10 _ _ (k9 _ _ hb nb) nb) (ne_of_none hb hwa)
    generalize ws ++ [la] = WS at e11 mw lW
    clear eW p9 k9 p10 k10 hla hv lw lw1
    have d11 := k11 _ _ d6 ndp
    have pl11 := pl6.pen p6 k11
    walk_at "go"
    refine ⟨g, _, d, ls, fn, rfl, p11, by omega, ndp, d11, tab, fun x' H12 hx' k12 p12 pl12' _ => ?_⟩
    have e12 := k12 _ _ e11 hwp.symm
    have d12 := k12 _ _ d11 ndp
    have pl12 := pl11.pen p11 k12
    walk_at "go"
    intro fa H13 hfa s13 e13
    have fap := p12.p_ne hfa
    have fac := p12.cl_ne hfa
    have e13w := s13 _ _ e12
    have d13 := s13 _ _ d12
    have pl13 := pl12.same s13
    have pl13' := pl12'.same s13
    have p13 := p12.same s13
    clear e11 d11 pl11 k11 p11 e12 d12 pl12 pl12' p12 k12 s13 p8 k8 e8
    walk_at "go"
    intro rr hrr
    have rrp := p13.p_ne hrr
    have rrc := p13.cl_ne hrr
    have nfr : fa ≠ rr := ne_of_none e13 hrr
    refine lc_it walk_txs (fun j H' => ∃ rs : List (Addr × Addr), H' rr = some (.lst (rs.map fun a => V.ref a.1)) ∧ rs.length = j ∧ Paired (fun a s => RoomAt R H' a.1 a.2 s ∧ PlanAt C H' a.2 (ascOf ls) (tabPairs ls fn)) rs ((WS.take j).map (nameOf fn)) ∧ PenAt g H' (5000 * i + 3900 + 2 * j) ∧ Keep g.p H13 H') ⟨[], upd_same, rfl, .nil, (p13.same (Same.new hrr)).mono (by omega), Keep.of (Same.new hrr)⟩ (fun j H' _ ⟨_, _, _, _, _, e⟩ => SqL.of (e _ _ e13w hwp.symm)) ?_ ?_
    · rintro j v H14 H15 hj ⟨rs, e14, lr, pr, p14, k14⟩ ⟨rfl, rfl⟩
      have hm : WS.getD j [] ∈ WS := by rw [List.getD_eq_getElem?_getD, List.getElem?_eq_getElem hj]; exact List.getElem_mem hj
      obtain ⟨mj, lj⟩ := mw _ hm
      have et : WS.take (j + 1) = WS.take j ++ [WS.getD j []] := by
        rw [List.take_succ_eq_append_getElem hj, List.getD_eq_getElem?_getD, List.getElem?_eq_getElem hj]
        rfl
      generalize WS.getD j [] = wj at *
      have hj9 : j < 9 := by omega
      have fa14 := k14 _ _ e13 fap.symm
      walk_at "go"
      refine ⟨rfl, ?_⟩
      walk_at "go"
      refine ⟨g, _, fa, _, rfl, fa14, by simp, by simp, p14, by omega, fap.symm, fun v H16 hv p16 k16 => ?_⟩
      have k1316 := k14.trans k16
      obtain ⟨y, rfl, ply⟩ : ∃ y, v = .ref y ∧ PlanAt C H16 y (ascOf ls) (tabPairs ls fn) := by
        simp only [List.mem_cons, List.not_mem_nil, or_false] at hv
        rcases hv with rfl | rfl
        · exact ⟨x, rfl, pl13.pen p13 k1316⟩
        · exact ⟨x', rfl, pl13'.pen p13 k1316⟩
      walk_at "go"
      refine sp_room fl ply mj (by omega) fun r H17 hr17 s17 ro17 => ?_
      have eD : H17 rr = some (.lst (rs.map fun a => V.ref a.1)) := s17 _ _ (k16 _ _ e14 rrp.symm)
      refine ⟨_, eD, szlt (by rw [List.length_map]; omega), rs ++ [(r, y)], ?_, ?_, ?_, ?_, ?_⟩
      · rw [upd_same, List.map_append]
        rfl
      · rw [List.length_append, lr]
        rfl
      · rw [et, List.map_append]
        refine paired_snoc ⟨ro17.lst eD Keep.put, (ply.same s17).lst eD Keep.put⟩ (paired_imp (fun a b z => ⟨((z.1.pen p14 k16).same s17).lst eD Keep.put, ((z.2.pen p14 k16).same s17).lst eD Keep.put⟩) pr)
      · exact ((p16.same s17).keep Keep.put rrp rrc).mono (by omega)
      · intro b o hb nb
        rw [upd_ne (ne_of_none hb hrr)]
        exact s17 _ _ (k1316 _ _ hb nb)
    rintro H14 ⟨rs, e14, lr, pr, p14, k14⟩
    rw [List.take_length] at pr
    walk_at "go"
    refine v_list (SqL.of e14) fun ka H15 hka s15 e15 => ?_
    have k15 : Keep g.p H13 H15 := k14.trans (Keep.of s15)
    have p15 := p14.same s15
    have r15 := s15 _ _ e14
    have pr15 : Paired (fun a s => RoomAt R H15 a.1 a.2 s ∧ PlanAt C H15 a.2 (ascOf ls) (tabPairs ls fn)) rs (WS.map (nameOf fn)) := paired_imp (fun a b z => ⟨z.1.same s15, z.2.same s15⟩) pr
    have nkp : ka ≠ g.p := (p14.p_ne hka).symm
    clear e14 p14 k14 pr
    have d15 := k15 _ _ d13 ndp
    walk_at "go"
    refine ⟨g, _, d, ls, fn, 12, rfl, p15, by omega, ndp, d15, tab, fl.pos, by omega, fun u1 H16 mu1 lu1 p16 k16 => ?_⟩
    have lu1 : u1.length ≤ 12 := lu1
    refine v_addS (by omega) ?_
    have w16 := k16 _ _ (k15 _ _ e13w hwp.symm) hwp.symm
    walk_at "go"
    refine ⟨g, _, wa, _, rfl, w16, by rw [List.length_map]; omega, by rw [List.length_map]; omega, p16, by omega, hwp.symm, fun v H17 hv p17 k17 => ?_⟩
    obtain ⟨l2, hl2, rfl⟩ := List.mem_map.mp hv
    obtain ⟨ml2, ll2⟩ := mw l2 hl2
    walk_at "go"
    refine ⟨_, rfl, _, rfl, ?_⟩
    refine v_slAnyQ (l := l2) (by omega) fun n2 => ?_
    have k1517 := k16.trans k17
    have d17 := k1517 _ _ d15 ndp
    walk_at "go"
    refine ⟨g, _, d, ls, fn, 25, rfl, p17, by omega, ndp, d17, tab, fl.pos, by omega, fun u3 H18 mu3 lu3 p18 k18 => ?_⟩
    have lu3 : u3.length ≤ 25 := lu3
    walk_at "go"
    intro sa H19 hsa s19 e19
    have sap := p18.p_ne hsa
    walk_at "go"
    refine ⟨g, _, sa, _, rfl, e19, by simp, by simp, p18.same s19, by omega, sap.symm, fun v H20 hv p20 k20 => ?_⟩
    obtain ⟨st, rfl, mst, lst⟩ : ∃ l : List Nat, v = .str (tx l) ∧ (∀ c ∈ l, c ∈ ls) ∧ l.length ≤ 110 := by
      simp only [List.mem_cons, List.not_mem_nil, or_false] at hv
      rcases hv with rfl | rfl | rfl
      · exact ⟨w0 ++ u1, rfl, (fun c hc => (List.mem_append.mp hc).elim (m0 c) (mu1 c)), by rw [List.length_append]; omega⟩
      · exact ⟨_, rfl, (fun c hc => ml2 c (List.mem_of_mem_take hc)), by rw [List.length_take]; omega⟩
      · exact ⟨u3, rfl, mu3, by omega⟩
    have k1520 : Keep g.p H15 H20 := (k1517.trans k18).trans ((Keep.of s19).trans k20)
    have k1320 := k15.trans k1520
    have d20 := k1520 _ _ d15 ndp
    have w20 := k1320 _ _ e13w hwp.symm
    have r20 := k1520 _ _ r15 rrp.symm
    have c20 := k1520 _ _ e15 nkp
    have pr20 : Paired (fun a s => RoomAt R H20 a.1 a.2 s ∧ PlanAt C H20 a.2 (ascOf ls) (tabPairs ls fn)) rs (WS.map (nameOf fn)) := paired_imp (fun a b z => ⟨z.1.pen p15 k1520, z.2.pen p15 k1520⟩) pr15
    have pl20 := pl13.pen p13 k1320
    clear k16 k17 k18 k20 s19 e19 p16 p17 p18 w16 d17 k1517 pr15 r15 e15 d15 hl2 ml2 ll2 mu1 lu1 mu3 lu3
    walk_at "go2"
    refine sp_room fl pl20 mst (by omega) fun r0 H21 hr21 s21 ro21 => ?_
    have small : ∀ w : List Nat, (∀ c ∈ w, c ∈ ls) → w.length ≤ 300 → Small fn ls (nameOf fn w) := fun w h1 h2 => ⟨name_NF ok _, fun c hc => h1 c (name_mem hc), Nat.le_trans (name_len _ w) (Nat.le_trans h2 (by decide))⟩
    have smalls : ∀ s ∈ WS.map (nameOf fn), Small fn ls s := fun s hs => by
      obtain ⟨w, hw, rfl⟩ := List.mem_map.mp hs
      exact small w (mw w hw).1 (Nat.le_trans (mw w hw).2 (by decide))
    have hneW : WS.map (nameOf fn) ≠ [] := fun z => by
      have := congrArg List.length z
      rw [List.length_map] at this
      simp at this
      rw [this] at lW
      simp at lW
    have rq21 : RoomsQ K C R H21 rr ls fn (WS.map (nameOf fn)) := RoomsQ.same ⟨rs, .inl r20, pr20⟩ s21
    walk_at "go2"
    refine ⟨r0, x, rr, nameOf fn st, ls, fn, WS.map (nameOf fn), rfl, ro21, pl20.same s21, rq21, hneW, by rw [List.length_map]; omega, fl, small st mst (by omega), smalls, fun N rN y H22 hrN s22 gt roN plN => ?_⟩
    have s2022 := s21.trans s22
    have d22 := s2022 _ _ d20
    have w22 := s2022 _ _ w20
    have r22 := s2022 _ _ r20
    have c22 := s2022 _ _ c20
    have p22 := p20.same s2022
    have rq22 := rq21.same s22
    have ro22 := ro21.same s22
    have pl22 := pl20.same s2022
    have pr22 : Paired (fun a s => RoomAt R H22 a.1 a.2 s ∧ PlanAt C H22 a.2 (ascOf ls) (tabPairs ls fn)) rs (WS.map (nameOf fn)) := paired_imp (fun a b z => ⟨z.1.same s2022, z.2.same s2022⟩) pr20
    clear d20 w20 r20 c20 p20 rq21 ro21 pl20 s21 s22 s2022 pr20 k1520 k1320 pl13 pl13' d13 e13w e13 k15 p15
    have lNb : N.length ≤ 330 := by
      obtain ⟨c0, hc0⟩ := List.exists_mem_of_ne_nil _ hneW
      have h0 := gt.len ok hc0
      obtain ⟨w9, hw9, rfl⟩ := List.mem_map.mp hc0
      have h1 : (nameOf fn st).length ≤ 110 := Nat.le_trans (name_len _ st) lst
      have h2 : (nameOf fn w9).length ≤ 110 := Nat.le_trans (name_len _ w9) (mw w9 hw9).2
      omega
    have mN := gt.mem
    walk_at "go2"
    refine for_it walk_txs (fun j σ H' => ∃ x16 x17, σ = [some (.ref sc), some (.ref g.p), some (.int (i : Nat)), some (.ref d), some (.ref x), some (.str (tx w0)), some (.ref wa), some (.int (1 + y')), x8, some (.ref fa), some (.ref rr), some (.ref ka), some (.ref sa), some (.str (tx st)), some (.ref r0), some (.ref rN), x16, x17, x18, x19, none, none] ∧ Same H22 H') ⟨_, _, rfl, Same.refl _⟩ (fun j σ H' _ ⟨_, _, _, e⟩ => SqL.of (e _ _ w22)) ?_ ?_
    · rintro j v σ H23 H24 hj ⟨x16, x17, rfl, s24⟩ ⟨rfl, rfl⟩
      have hm : WS.getD j [] ∈ WS := by rw [List.getD_eq_getElem?_getD, List.getElem?_eq_getElem hj]; exact List.getElem_mem hj
      obtain ⟨mj, lj⟩ := mw _ hm
      have fars := gate_far ok gt (List.mem_map.mpr ⟨_, hm, rfl⟩)
      generalize WS.getD j [] = wj at *
      have roN5 := (roN.same s24)
      walk_at "go2"
      refine ⟨d, ls, fn, st, N, rfl, s24 _ _ d22, fl, mst, mN, by omega, by omega, fun H7 s7 => ?_⟩
      have roN7 := roN5.same s7
      walk_at "go2"
      refine ⟨d, ls, fn, N, wj, rfl, s7 _ _ (s24 _ _ d22), fl, mN, mj, by omega, by omega, fun H8 s8 => ?_⟩
      walk_at "go2"
      intro p9 H9 hp9 s9 e9
      walk_at "go2"
      refine ⟨d, ls, fn, st, wj, rfl, s9 _ _ (s8 _ _ (s7 _ _ (s24 _ _ d22))), fl, mst, mj, by omega, by omega, fun H10 s10 => ?_⟩
      have e10 := s10 _ _ e9
      have s410 := (((s24.trans s7).trans s8).trans s9).trans s10
      walk_at "go2"
      generalize hA : (nameOf fn (st.reverse ++ N)).length = fA at *
      generalize hB : (nameOf fn (N.reverse ++ wj)).length = fB at *
      have e10 : H10 p9 = some (.lst ([(fA : Int), (fB : Int)].map V.int)) := e10
      refine lc_gen (n := 2) (it := fun k => V.int ([(fA : Int), (fB : Int)].getD k 0)) (b := fun _ => true) (f := fun k => V.int ([(fA : Int), (fB : Int)].getD k 0)) (walk_ints (ns := [(fA : Int), (fB : Int)])) (fun H' s' => SqL.of (s' _ _ e10)) (by decide) (fun k hk H1 s1 R' r => ?_) (fun k hk hb H1 s1 R' r => ?_) (fun D H11 hD s11 e11 => ?_)
      · walk_at "go2"
        exact r H1 (Same.refl _)
      · walk_at "go2"
        exact r H1 (Same.refl _)
      have e11 : H11 D = some (.lst ([(fA : Int), (fB : Int)].map V.int)) := e11
      walk_at "go2"
      refine ⟨D, [(fA : Int), (fB : Int)], rfl, SqL.of e11, ?_⟩
      walk_at "go2"
      refine if_nI (congrArg V.int (by show _ = (fA : Int) + ((fB : Int) + 0); omega)) ?_
      walk_at "go2"
      exact ⟨_, _, rfl, s410.trans s11⟩
    rintro σ H23 ⟨x16, x17, rfl, s23⟩
    have w23 := s23 _ _ w22
    walk_at "go2"
    refine lc_mapF (fun j p H' => H' p = some (.lst ((backs ls fun c x => act fn ((WS.getD j []).reverse ++ N).reverse (unit x) c).map fun c => V.str (tx [c])))) walk_txs (fun H' s' => SqL.of (s' _ _ w23)) (by omega) ?_ ?_ ?_ ?_ ?_
    · intro j p Ha Hb e sb
      exact sb _ _ e
    · intro j p Ha Hb D l e n eD kD
      exact kD _ _ e n
    · intro j hj Ha sa' R' rr'
      walk_at "go2"
      exact rr' Ha (Same.refl _)
    · intro j hj Ha sa' R' rr'
      have hm : WS.getD j [] ∈ WS := by rw [List.getD_eq_getElem?_getD, List.getElem?_eq_getElem hj]; exact List.getElem_mem hj
      obtain ⟨mj, lj⟩ := mw _ hm
      generalize WS.getD j [] = wj at *
      have roNa := (roN.same s23).same sa'
      have mem : ∀ c ∈ wj.reverse ++ N, c ∈ ls := fun c hc => (List.mem_append.mp hc).elim (fun z => mj c (List.mem_reverse.mp z)) (mN c)
      walk_at "go2"
      · rw [List.length_reverse]
        omega
      walk_at "go2"
      refine ⟨d, ls, fn, _, rfl, sa' _ _ (s23 _ _ d22), tab, mem, fun m Hb mk sb => ?_⟩
      walk_at "go2"
      refine ⟨m, ls, _, rfl, mk, by omega, fun l Hc hl e sc => ?_⟩
      exact rr' _ Hc (L2.Same.free sb hl) (sb.trans sc) e
    intro fdA H24 ps hfd s24 e24 l24 rel24
    have d24 := s24 _ _ (s23 _ _ d22)
    have nfd : fdA ≠ d := (ne_of_none (s23 _ _ d22) hfd).symm
    walk_at "go2"
    refine e_lock d24 trivial fun od => ?_
    have keepL : Keep d H24 (upd H24 d (.frz od (.dK (tabKV ls fn)))) := Keep.put
    have dL : upd H24 d (.frz od (.dK (tabKV ls fn))) d = some (.frz od (.dK (tabKV ls fn))) := upd_same
    have eL := keepL _ _ e24 nfd
    have prL : Paired (fun a l => upd H24 d (.frz od (.dK (tabKV ls fn))) a = some (.lst (l.map fun c => V.str (tx [c])))) ps (WS.map fun w => backs ls fun c x => act fn (w.reverse ++ N).reverse (unit x) c) := by
      refine paired_idx (d := []) l24 fun k p hk => ?_
      exact keepL _ _ (rel24 k p hk) (ne_of (rel24 k p hk) d24 (by intro z; cases z))
    generalize hL : upd H24 d (.frz od (.dK (tabKV ls fn))) = HL at keepL dL eL prL ⊢
    walk_at "go2"
    refine ⟨d, od, rfl, .inl ⟨_, dL, ?_⟩⟩
    refine for_it walk_let (fun j σ H' => ∃ x19, σ = [some (.ref sc), some (.ref g.p), some (.int (i : Nat)), some (.ref d), some (.ref x), some (.str (tx w0)), some (.ref wa), some (.int (1 + y')), x8, some (.ref fa), some (.ref rr), some (.ref ka), some (.ref sa), some (.str (tx st)), some (.ref r0), some (.ref rN), x16, x17, some (.ref fdA), x19, none, none] ∧ Same HL H') ⟨_, rfl, Same.refl _⟩ (fun j σ H' _ ⟨_, _, e⟩ => e _ _ dL) ?_ ?_
    · rintro j v σ H25 H26 hj ⟨x19, rfl, s26⟩ ⟨rfl, hv⟩
      have he : ls.getD j 0 ∈ ls := by rw [List.getD_eq_getElem?_getD, List.getElem?_eq_getElem hj]; exact List.getElem_mem hj
      obtain ⟨e, hc⟩ : ∃ c, ls.getD j 0 = c := ⟨_, rfl⟩
      obtain rfl : v = V.str (tx [e]) := by rw [← hc]; exact hv
      rw [hc] at he
      clear hv hc
      have eL7 := s26 _ _ eL
      have prL : Paired (fun a l => HL a = some (.lst (l.map fun c => V.str (tx [c])))) ps (WS.map (rowF fn ls N)) := prL
      have pr7 := (paired_imp (fun _ _ z => s26 _ _ z) prL : Paired (fun a l => _ = some (.lst (l.map fun c => V.str (tx [c])))) ps (WS.map (rowF fn ls N)))
      have wr := walk_refs (K := K) (As := ps) (us := WS.map fun _ => fun _ => (0 : Int)) (D0 := fdA) (by rw [List.length_map]; exact l24)
      rw [List.length_map] at wr
      walk_at "go2"
      refine lc_gen (n := WS.length) (it := fun k => V.ref (ps.getD k 0)) (b := fun k => !decide (e ∈ (WS.map (rowF fn ls N)).getD k [])) (f := fun k => V.ref (ps.getD k 0)) wr (fun H' s' => SqL.of (s' _ _ eL7)) (by omega) (fun j hj H8 s8 R' r' => ?_) (fun j hj hb H8 s8 R' r' => ?_) (fun D H8 hD s8 e8 => ?_)
      · have hp := paired_get 0 [] pr7 (k := j) (by rw [List.length_map]; exact hj)
        walk_at "go2"
        refine v_notInL (s8 _ _ hp) ?_
        walk_at "go2"
        exact r' H8 (Same.refl _)
      · walk_at "go2"
        exact r' H8 (Same.refl _)
      walk_at "go2"
      intro q9 H9 hq9 s9 e9
      have pk := paired_pick 0 [] (paired_imp (fun a l z => s9 _ _ (s8 _ _ z)) pr7 : Paired (fun a l => H9 a = some (.lst (l.map fun c => V.str (tx [c])))) ps (WS.map (rowF fn ls N))) ((List.range WS.length).filter fun k => !decide (e ∈ (WS.map (rowF fn ls N)).getD k [])) fun k hk => by rw [List.length_map]; exact List.mem_range.mp (List.mem_filter.mp hk).1
      refine v_eqNilL (As := ((List.range WS.length).filter fun k => !decide (e ∈ (WS.map (rowF fn ls N)).getD k [])).map fun k => ps.getD k 0) (by rw [s9 _ _ e8, List.map_map]; rfl) pk (fun l hl c hc => ?_) e9 ?_
      · obtain ⟨k, hk, rfl⟩ := List.mem_map.mp hl
        have hk' := List.mem_range.mp (List.mem_filter.mp hk).1
        rw [List.getD_eq_getElem?_getD, List.getElem?_map, List.getElem?_eq_getElem hk'] at hc
        exact let_lt _ (tab.lt c (List.mem_filter.mp hc).1)
      have ne : ((((List.range WS.length).filter fun k => !decide (e ∈ (WS.map (rowF fn ls N)).getD k [])).map fun k => (WS.map (rowF fn ls N)).getD k []).isEmpty) = false := by
        obtain ⟨w1, hw1, nw⟩ := gate_door ok gt he
        obtain ⟨k, hk, ek⟩ := List.getElem_of_mem hw1
        rw [List.isEmpty_map, List.isEmpty_eq_false_iff_exists_mem]
        refine ⟨k, List.mem_filter.mpr ⟨List.mem_range.mpr hk, ?_⟩⟩
        rw [List.getD_eq_getElem?_getD, List.getElem?_map, List.getElem?_eq_getElem hk, ek]
        simp only [Bool.not_eq_true', decide_eq_false_iff_not]
        exact nw
      rw [ne]
      walk_at "go2"
      exact ⟨_, rfl, (s26.trans s8).trans s9⟩
    rintro σ H25 ⟨x19, rfl, s25⟩
    walk_at "go2"
    refine ⟨s25 _ _ dL, ?_⟩
    have s24b : Same H24 (upd H25 d (.dK (tabKV ls fn))) := fun b o hb => by
      by_cases e : b = d
      · rw [e, upd_same, ← hb, e, d24]
      · rw [upd_ne e]
        exact s25 _ _ (keepL _ _ hb e)
    generalize upd H25 d (.dK (tabKV ls fn)) = H26 at s24b ⊢
    have s26 := (s23.trans s24).trans s24b
    have d26 := s26 _ _ d22
    have w26 := s26 _ _ w22
    have r26 := s26 _ _ r22
    have c26 := s26 _ _ c22
    have p26 := p22.same s26
    have rq26 := rq22.same s26
    have ro26 := ro22.same s26
    have pl26 := pl22.same s26
    have roN26 := roN.same s26
    have plN26 := plN.same s26
    have pr26 : Paired (fun a s => RoomAt R H26 a.1 a.2 s ∧ PlanAt C H26 a.2 (ascOf ls) (tabPairs ls fn)) rs (WS.map (nameOf fn)) := paired_imp (fun a b z => ⟨z.1.same s26, z.2.same s26⟩) pr22
    clear d22 w22 r22 c22 p22 rq22 ro22 pl22 roN plN s23 s24 s24b s25 keepL dL eL prL d24 e24 rel24 l24 s26
    have lWS : (rs.map fun a => V.ref a.1).length ≤ 9 := by
      rw [List.length_map, paired_len pr26, List.length_map]
      exact lW.2
    clear pr22
    walk_at "go2"
    refine ⟨g, _, rr, _, rfl, r26, by omega, p26, by omega, fun l ys H27 hl pm e27 p27 k27 => ?_⟩
    obtain ⟨rs2, S2, rfl, pr2, pmS⟩ : ∃ (rs2 : List (Addr × Addr)) (S2 : List (List Nat)), ys = rs2.map (fun a => V.ref a.1) ∧ Paired (fun a s => RoomAt R H27 a.1 a.2 s ∧ PlanAt C H27 a.2 (ascOf ls) (tabPairs ls fn)) rs2 S2 ∧ S2.Perm (WS.map (nameOf fn)) := paired_perm (paired_imp (fun a b z => ⟨z.1.pen p26 k27, z.2.pen p26 k27⟩) pr26) pm
    walk_at "go2"
    refine v_tuple e27 fun tq H28 htq s28 e28 => ?_
    have k28 := k27.trans (Keep.of s28)
    have rq28 : RoomsQ K C R H28 tq ls fn S2 := ⟨rs2, .inr (.inl e28), paired_imp (fun a b z => ⟨z.1.same s28, z.2.same s28⟩) pr2⟩
    have ro28 := ro26.pen p26 k28
    have pl28 := pl26.pen p26 k28
    have roN28 := roN26.pen p26 k28
    have plN28 := plN26.pen p26 k28
    have r28 := k28 _ _ r26 rrp.symm
    have c28 := k28 _ _ c26 nkp
    have d28 := k28 _ _ d26 ndp
    have w28 := k28 _ _ w26 hwp.symm
    have rqA28 : RoomsQ K C R H28 rr ls fn (WS.map (nameOf fn)) := ⟨rs, .inl r28, paired_imp (fun a b z => ⟨z.1.pen p26 k28, z.2.pen p26 k28⟩) pr26⟩
    have p28 := p27.same s28
    have hS2 : ∀ x, x ∈ S2 ↔ x ∈ WS.map (nameOf fn) := fun x => pmS.mem_iff
    have neS2 : S2 ≠ [] := fun z => hneW (by rw [z] at pmS; exact List.nil_perm.mp pmS)
    have lS2 : S2.length ≤ 1000 := by rw [pmS.length_eq, List.length_map]; omega
    have lW1 : (WS.map (nameOf fn)).length ≤ 1000 := by rw [List.length_map]; omega
    have smS := small st mst (by omega)
    have smN : Small fn ls N := ⟨gt.nf, gt.mem, by omega⟩
    have lst' : (nameOf fn st).length ≤ 2000 := Nat.le_trans (name_len _ st) (by omega)
    clear rq26 ro26 pl26 roN26 plN26 r26 c26 d26 w26 pr26 pr2 e27 k27 p27 k28 p26 s28 e28
    walk_at "go2"
    refine ⟨r0, x, tq, nameOf fn st, ls, fn, S2, rfl, ro28, pl28, rq28, neS2, lS2, fl, smS, (fun s hs => smalls s ((hS2 s).mp hs)), fun N2 r2 y2 H29 hr2 s29 gt2 ro2 pl2 => ?_⟩
    have e2 : N2 = N := gt2.uniq ok gt hS2
    rw [e2] at ro2
    have ro29 := ro28.same s29
    have pl29 := pl28.same s29
    have roN29 := roN28.same s29
    have plN29 := plN28.same s29
    have rq29 := rqA28.same s29
    walk_at "go2"
    refine v_sameR fl ro2 roN29 pl2 plN29 (by omega) ?_
    clear ro2 pl2 gt2 e2 ro28 pl28 roN28 plN28 rq28
    walk_at "go2"
    refine ⟨rN, y, rr, N, ls, fn, WS.map (nameOf fn), rfl, roN29, plN29, rq29, hneW, lW1, fl, smN, smalls, fun N3 r3 y3 H30 hr3 s30 gt3 ro3 pl3 => ?_⟩
    have e3 : N3 = N := gt.self ok gt3
    rw [e3] at ro3
    walk_at "go2"
    refine v_sameR fl ro3 (roN29.same s30) pl3 (plN29.same s30) (by omega) ?_
    clear ro3 pl3 gt3 e3
    walk_at "go2"
    refine ⟨rN, y, rr, N, ls, fn, WS.map (nameOf fn), rfl, roN29.same s30, plN29.same s30, rq29.same s30, hneW, lW1, fl, smN, smalls, fun N4 H31 s31 gt4 => ?_⟩
    rw [gt.self ok gt4, decide_eq_true rfl]
    have s2931 := s30.trans s31
    have ro31 := ro29.same s2931
    have pl31 := pl29.same s2931
    have roN31 := roN29.same s2931
    have plN31 := plN29.same s2931
    have rq31 := rq29.same s2931
    clear gt4 ro29 pl29 roN29 plN29 rq29
    walk_at "go2"
    refine ⟨true, true, rfl, rfl, ?_⟩
    walk_at "go2"
    refine ⟨r0, x, rr, nameOf fn st, ls, fn, WS.map (nameOf fn), rfl, ro31, pl31, rq31, hneW, lW1, fl, smS, smalls, fun N5 H32 s32 gt5 => ?_⟩
    rw [gt5.uniq ok gt fun _ => Iff.rfl]
    walk_at "go2"
    refine v_eqR (ro31.same s32) (roN31.same s32) (pl31.same s32) (plN31.same s32) lst' (by omega) ?_
    rw [show decide (nameOf fn st = N) = decide (N = nameOf fn st) from decide_eq_decide.mpr eq_comm]
    walk_at "go2"
    have s2932 := s2931.trans s32
    have r32 := s2932 _ _ (s29 _ _ r28)
    have c32 := s2932 _ _ (s29 _ _ c28)
    refine v_neLsame (As := rs.map fun a => a.1) (by rw [r32, List.map_map]; rfl) (by rw [c32, List.map_map]; rfl) ?_
    walk_at "go2"
    refine ⟨d, ls, fn, rfl, s2932 _ _ (s29 _ _ d28), tab, fun pb H33 hpb s33 e33 => ?_⟩
    have ro33 := (ro31.same s32).same s33
    have pl33 := (pl31.same s32).same s33
    have roN33 := (roN31.same s32).same s33
    have plN33 := (plN31.same s32).same s33
    have rq33 := (rq31.same s32).same s33
    have w33 := s33 _ _ (s2932 _ _ (s29 _ _ w28))
    have p33 := (p28.same s29).same (s2932.trans s33)
    clear r32 c32 s2932 s33 s32 s2931 s31 s30 s29 r28 c28 d28 w28 p28 ro31 pl31 roN31 plN31 rq31 gt5
    walk_at "go2"
    refine v_slL (SqL.of w33) fun tk H34 htk s34 e34 => ?_
    have e34 : H34 tk = some (.lst ((WS.take 3).map fun l => V.str (tx l))) := by
      rw [e34, List.map_take, show (3 : Int) = ((3 : Nat) : Int) from rfl, cut_first]
    walk_at "go2"
    refine ⟨pb, tk, st, WS.take 3, ls, rfl, s34 _ _ e33, fl.plain, mst, by omega, e34, fun w hw => ⟨(mw w (List.mem_of_mem_take hw)).1, Nat.le_trans (mw w (List.mem_of_mem_take hw)).2 (by decide)⟩, (fun z => ?_), by rw [List.length_take]; omega, fun H35 s35 => ?_⟩
    · have := congrArg List.length z
      rw [List.length_take, List.length_nil] at this
      omega
    have s3435 := s34.trans s35
    walk_at "go2"
    refine ⟨r0, x, rr, nameOf fn st, ls, fn, WS.map (nameOf fn), rfl, ro33.same s3435, pl33.same s3435, rq33.same s3435, hneW, lW1, fl, smS, smalls, fun N6 r6 y6 H36 hr6 s36 gt6 ro6 pl6 => ?_⟩
    rw [gt6.uniq ok gt fun _ => Iff.rfl] at ro6
    have roN36 := (roN33.same s3435).same s36
    have plN36 := (plN33.same s3435).same s36
    have p36 := (p33.same s3435).same s36
    walk_at "go2"
    refine v_sameR fl ro6 roN36 pl6 plN36 (by omega) ?_
    walk_at "go2"
    exact hDn _ _ ⟨_, _, _, _, _, _, _, _, _, _, _, _, _, _, _, _, _, _, rfl, p36.mono (by omega)⟩
  · rintro σ H2 ⟨x2, x3, x4, x5, x6, x7, x8, x9, x10, x11, x12, x13, x14, x15, x16, x17, x18, x19, rfl, p2⟩
    walk_at "go"
    exact k H2
end
end Cw
set_option Elab.async false
set_option linter.all false
set_option maxRecDepth 100000
set_option maxHeartbeats 4000000
/-! what the top has left, one lemma a kind -/
namespace Cw
open PySem PySem.Spec L2
section
variable {K : PySem.W.Frag} {h : Heap} {mg : Str → Option Value} {x m qual : Str} {st : Stmt} {f C T : Addr} {oc kV dc pm cd ct oc2 : Value} {od an od2 : Option Addr} {sl sl2 : Array (Option Value)}
theorem glob_mk {v : Value} (X : K.In h) (G : h.Ns mainGlobals mg) (a : PySem.W.nsIn K mainGlobals x = some (some v)) : mg x = some v := PySem.W.mg_of X G a
theorem fnAt_mk (X : K.In h) (G : h.Ns mainGlobals mg) (a : PySem.W.nsIn K mainGlobals x = some (some (.ref f))) (l : K.lookup f = some ⟨oc, od, .func (PySem.W.fnOf x x (defArgs st) (defBody st) (defScope st) .none kV dc pm an cd ct), sl⟩)
    (c : PySem.W.codeIn K cd x = true) (k : PySem.W.keepIn K (.ref f) = true) : FnAt K mg x st := ⟨f, _, PySem.W.mg_of X G a, fun_mk (st := st) l c k⟩
theorem mAt_mk (a : PySem.W.findIn K (.ref C) m = some (some (.ref f))) (i : PySem.W.isFn K (.ref f) = true) (l : K.lookup f = some ⟨oc, od, .func (PySem.W.fnOf m qual (defArgs st) (defBody st) (defScope st) .none kV dc pm an cd ct), sl⟩)
    (c : PySem.W.codeIn K cd qual = true) (k : PySem.W.keepIn K (.ref f) = true) : MAt K C m qual st := ⟨f, _, a, i, fun_mk (st := st) l c k⟩
theorem mAtD_mk {arr : Array Value} {n : Nat} {dvs : List V} (a : PySem.W.findIn K (.ref C) m = some (some (.ref f))) (i : PySem.W.isFn K (.ref f) = true) (l : K.lookup f = some ⟨oc, od, .func (PySem.W.fnOf m qual (defArgs st) (defBody st) (defScope st) (.ref T) kV dc pm an cd ct), sl⟩)
    (c : PySem.W.codeIn K cd qual = true) (k : PySem.W.keepIn K (.ref f) = true) (t : K.lookup T = some ⟨oc2, od2, .seq arr n, sl2⟩) (hv : Vals dvs arr.toList) (hd : dvs ≠ []) : MAtD K C m qual st dvs :=
  ⟨f, _, a, i, ⟨⟨oc, od, .ref T, kV, dc, pm, an, cd, ct, sl, rfl, l, c, .inr ⟨hd, T, _, arr.toList, n, rfl, t, rfl, hv⟩, .inl rfl⟩, k⟩⟩
theorem cls_mk (X : K.In h) (G : h.Ns mainGlobals mg) (a : PySem.W.nsIn K mainGlobals x = some (some (.ref C))) (pg : PySem.W.plainGet K C Str.empty = true) (hd : PySem.W.hasDictIn K C = true) (po : PySem.W.plainOver K C = true)
    (sa : PySem.W.findIn K (.ref C) "__setattr__" = some (some (.builtin "object.__setattr__"))) (mk : PySem.W.makesIn K C = true) (kc : PySem.W.keepIn K (.ref C) = true)
    (ha : PySem.W.findIn K (.ref C) "__class__" = some (some (.builtin "object.__class__"))) (hn : PySem.W.specialIn K (.builtin "object.__class__") "__get__" = some (some (.builtin "getset_descriptor.__get__"))) (ht : PySem.W.takesIn K (.builtin "object.__class__") = some true)
    (hm : PySem.W.mroIn K C (.type "object") = some true) (ob : PySem.W.subIn K (.ref C) (.type "object") = some true) (ne : PySem.W.findIn K (.ref C) "__ne__" = some (some (.builtin "object.__ne__"))) : ClsF K mg x C :=
  ⟨PySem.W.mg_of X G a, ⟨pg, hd, po, sa⟩, mk, kc, ha, hn, ht, hm, ob, ne⟩
theorem exc_mk (X : K.In h) (G : h.Ns mainGlobals mg) (a : PySem.W.nsIn K mainGlobals x = some (some (.ref C))) (e : PySem.W.excIn K C [.type "ValueError", .type "Exception", .type "BaseException", .type "object"] "ValueError.__new__" = true) (k : PySem.W.keepIn K (.ref C) = true) (ty : PySem.W.typeIn K (.ref C) = some (.type "type"))
    (hg : PySem.W.findIn K (.ref C) "__getattribute__" = some (some (.builtin "BaseException.__getattribute__"))) (hk : PySem.W.findIn K (.ref C) "__getattr__" = some none) (hs : PySem.W.subIn K (.ref C) (.type "BaseException") = some true) (hd : PySem.W.hasDictIn K C = true)
    (ha : PySem.W.findIn K (.ref C) "__class__" = some (some (.builtin "object.__class__"))) (hn : PySem.W.specialIn K (.builtin "object.__class__") "__get__" = some (some (.builtin "getset_descriptor.__get__"))) (ht : PySem.W.takesIn K (.builtin "object.__class__") = some true) (hm : PySem.W.mroIn K C (.type "object") = some true) : ExcF K mg x C :=
  ⟨PySem.W.mg_of X G a, e, k, ty, ⟨hg, hk, hs, hd, ha, hn, ht, hm⟩⟩
theorem fun1_mk (X : K.In h) (G : h.Ns mainGlobals mg) {fa : Addr} (hm : mg x = some (.ref fa)) (a : PySem.W.nsIn K mainGlobals x = some (some (.ref f))) (l : K.lookup f = some ⟨oc, od, .func (PySem.W.fnOf x x (defArgs st) (defBody st) (defScope st) .none kV dc pm an cd ct), sl⟩)
    (c : PySem.W.codeIn K cd x = true) (k : PySem.W.keepIn K (.ref f) = true) : Fun K x x st fa (PySem.W.fnOf x x (defArgs st) (defBody st) (defScope st) .none kV dc pm an cd ct) := by
  have e := hm.symm.trans (PySem.W.mg_of X G a)
  cases e
  exact fun_mk (st := st) l c k
end
/-- the law's end: its def's promise -/
theorem end_walk {l : PySem.W.OpenLaw} {q : Program} {loose : List Str} {XP : (Str → Option Value) → Heap → Prop} {YP : World → Heap → Prop} {d : DefRec} {K : Params → PySem.W.Frag} {k : Nat} {x : Str} {sp : PySem.W.Frag → Sp} (hn : l.most = some 63) (hdf : d.params.defaults = []) (hr : Room k callerA)
    (hY : ∀ (w : World) (h : Heap), YP w h → (K w.params).In h)
    (hsp : ∀ (K : PySem.W.Frag) (H : Hp) (a : Addr) (ns : List Int), ns.length ≤ 63 → Only H → SqL K H a (ns.map V.int) → sp K [.ref a] H (fun v _ => v = .bl true) fun _ _ _ => False)
    (F : ∀ (w : World) (mg : Str → Option Value) (fa : Addr) (h : Heap), (K w.params).In h → h.Ns mainGlobals mg → mg d.name = some (.ref fa) →
      ∃ fd : FuncData, (∀ (s : Shared) (u : Value), BindsTo s fd ⟨[u], []⟩ [(x, u)]) ∧ ∀ base : Heap, (K w.params).In base → base.Ns mainGlobals mg → FnOk l.prog w (K w.params) mg base CX0 k fa fd [x] (sp (K w.params))) :
    PySem.W.WalkO q loose XP YP l.row.toRowW d [] (fun f vs => PySem.call f vs) := L2.walk_ofK (n := 63) hn (by decide) hdf hr hY F hsp fun _ _ _ _ z => z
end Cw
set_option Elab.async false
set_option linter.all false
set_option maxRecDepth 100000
set_option maxHeartbeats 4000000
namespace Cw
open PySem PySem.Spec L2
theorem end19 {w : World} {K : PySem.W.Frag} {mg : Str → Option Value} {C R O fa e0 : Addr} {fd : FuncData} {t1 t2 t3 : Tok} {dd0 : Option Addr} {n0 : Nat} {sl0 : Array (Option Value)}
    (c_Plan : ClsF K mg "Plan" C)
    (c_Room : ClsF K mg "Room" R)
    (e_OtherPlan : ExcF K mg "OtherPlan" O)
    (F_stepped : FnAt K mg "stepped" ststepped)
    (F_joined : FnAt K mg "joined" stjoined)
    (F_turned_back : FnAt K mg "turned_back" stturned_back)
    (F_way_from : FnAt K mg "way_from" stway_from)
    (F_still_free : FnAt K mg "still_free" ststill_free)
    (F_first_kinds : FnAt K mg "first_kinds" stfirst_kinds)
    (F_without_first : FnAt K mg "without_first" stwithout_first)
    (F_in_both : FnAt K mg "in_both" stin_both)
    (F_shared_begin : FnAt K mg "shared_begin" stshared_begin)
    (F_middle_name : FnAt K mg "middle_name" stmiddle_name)
    (F_is_list : FnAt K mg "is_list" stis_list)
    (F_is_kind : FnAt K mg "is_kind" stis_kind)
    (F_need_kind : FnAt K mg "need_kind" stneed_kind)
    (F_need_way : FnAt K mg "need_way" stneed_way)
    (F_need_same : FnAt K mg "need_same" stneed_same)
    (F_are_letters : FnAt K mg "are_letters" stare_letters)
    (F_ascending : FnAt K mg "ascending" stascending)
    (F_checked_pairs : FnAt K mg "checked_pairs" stchecked_pairs)
    (F_need_few : FnAt K mg "need_few" stneed_few)
    (F_crossing_table : FnAt K mg "crossing_table" stcrossing_table)
    (F_need_rooms : FnAt K mg "need_rooms" stneed_rooms)
    (F_gate : FnAt K mg "gate" stgate)
    (F_in_hull : FnAt K mg "in_hull" stin_hull)
    (F_pen : FnAt K mg "_law_pen" stpen)
    (F_draw : FnAt K mg "_law_draw" stdraw)
    (F_pick : FnAt K mg "_law_pick" stpick)
    (F_shuffled : FnAt K mg "_law_shuffled" stshuffled)
    (F_floor : FnAt K mg "_law_floor" stfloor)
    (F_made : FnAt K mg "_law_made" stmade)
    (F_walk : FnAt K mg "_law_walk" stwalk)
    (F_begun : FnAt K mg "_law_begun" stbegun)
    (F_units : FnAt K mg "_law_units" stunits)
    (F_through : FnAt K mg "_law_through" stthrough)
    (F_marks : FnAt K mg "_law_marks" stmarks)
    (F_backs : FnAt K mg "_law_backs" stbacks)
    (F_name : FnAt K mg "_law_name" stname)
    (F_plain : FnAt K mg "_law_plain" stplain)
    (F_far : FnAt K mg "_law_far" stfar)
    (F_plain_right : FnAt K mg "_law_plain_right" stplain_right)
    (F_law : Fun K "law" "law" stlaw fa fd)
    (F_Plan_eq : MAt K C "__eq__" "Plan.__eq__" stPlan_eq)
    (F_Plan_init : MAtD K C "__init__" "Plan.__init__" stPlan_init [.ref e0])
    (F_Room_init : MAtD K R "__init__" "Room.__init__" stRoom_init [.str (tx [])])
    (F_Room_eq : MAt K R "__eq__" "Room.__eq__" stRoom_eq)
    (z_len : mg "len" = none)
    (z_int : mg "int" = none)
    (z_list : mg "list" = none)
    (z_isinstance : mg "isinstance" = none)
    (z_str : mg "str" = none)
    (z_all : mg "all" = none)
    (z_set : mg "set" = none)
    (z_tuple : mg "tuple" = none)
    (z_enumerate : mg "enumerate" = none)
    (z_range : mg "range" = none)
    (z_min : mg "min" = none)
    (z_dict : mg "dict" = none)
    (z_sum : mg "sum" = none)
    (n_C_kinds : NoAttr K C "kinds")
    (n_C_pairs : NoAttr K C "pairs")
    (n_C_own_crossing : NoAttr K C "own_crossing")
    (n_R_plan : NoAttr K R "plan")
    (n_R_name : NoAttr K R "name")
    (g_LETTERS : mg "LETTERS" = some (.str (tx LET) t1))
    (g_MOST_KINDS : mg "MOST_KINDS" = some (.int 8 t2))
    (g_MOST_LETTERS : mg "MOST_LETTERS" = some (.int 2000 t3))
    (ke0 : K.lookup e0 = some ⟨.type "tuple", dd0, .seq #[] n0, sl0⟩) (base : Heap) : FnOk PySem.Challenge.pw_crosswalls_k19_whole_gates w K mg base CX0 8 fa fd ["_law_script"] (spLaw K) := by
  have T : Txt K mg := ⟨z_len, z_int, z_list⟩
  have TP : TxtP K mg C := ⟨z_len, z_int, z_list, z_isinstance, z_str, z_all, z_set, z_tuple, ⟨_, g_LETTERS⟩, ⟨_, g_MOST_KINDS⟩, c_Plan, n_C_kinds, n_C_pairs, n_C_own_crossing⟩
  have TR : TxtR K mg C R O := ⟨TP, z_enumerate, ⟨_, g_MOST_LETTERS⟩, c_Room, n_R_plan, n_R_name, e_OtherPlan⟩
  have TH : TxtH K mg := ⟨T, z_range⟩
  have TV : TxtV K mg := ⟨TH, z_tuple, z_min, z_dict⟩
  have TL : TxtL K mg C R O := ⟨TR, z_range, z_min, z_sum⟩
  have kt : ∀ H : Hp, SeqO K H e0 [] := fun H => .inr (.inr ⟨rfl, _, n0, ke0, rfl, rfl⟩)
  have D_draw := ok_draw (P := PySem.Challenge.pw_crosswalls_k19_whole_gates) (w := w) (base := base) F_draw T
  have D_pen := ok_pen (P := PySem.Challenge.pw_crosswalls_k19_whole_gates) (w := w) (base := base) F_pen T
  have D_are := ok_are_letters (P := PySem.Challenge.pw_crosswalls_k19_whole_gates) (w := w) (base := base) F_are_letters TP
  have D_asc := ok_ascending (P := PySem.Challenge.pw_crosswalls_k19_whole_gates) (w := w) (base := base) F_ascending TP
  have D_isl := ok_is_list (P := PySem.Challenge.pw_crosswalls_k19_whole_gates) (w := w) (base := base) F_is_list TP
  have D_few := ok_need_few (P := PySem.Challenge.pw_crosswalls_k19_whole_gates) (w := w) (base := base) F_need_few TP
  have D_chk := ok_checked_pairs F_checked_pairs TP D_isl D_are D_asc
  have D_tab := ok_crossing_table (P := PySem.Challenge.pw_crosswalls_k19_whole_gates) (w := w) (base := base) F_crossing_table TP
  have X_Plan := ok_Plan F_Plan_init rfl TP D_are D_asc D_chk D_few D_tab
  have M_Plan_eq := ok_Plan_eq (P := PySem.Challenge.pw_crosswalls_k19_whole_gates) (w := w) (mg := mg) (base := base) F_Plan_eq TP
  have D_st := ok_stepped (P := PySem.Challenge.pw_crosswalls_k19_whole_gates) (w := w) (base := base) F_stepped TP
  have D_jo := ok_joined F_joined D_st
  have D_tb := ok_turned_back F_turned_back D_jo
  have D_wf := ok_way_from F_way_from D_jo D_tb
  have D_ns := ok_need_same F_need_same TR M_Plan_eq
  have D_sf := ok_still_free (P := PySem.Challenge.pw_crosswalls_k19_whole_gates) (w := w) (base := base) F_still_free TP
  have D_fk := ok_first_kinds F_first_kinds TP D_sf
  have D_nw := ok_need_way (P := PySem.Challenge.pw_crosswalls_k19_whole_gates) (w := w) (base := base) F_need_way TR
  have X_Room := ok_Room F_Room_init rfl TR D_nw D_jo
  have M_eq := ok_Room_eq F_Room_eq TR M_Plan_eq
  have D_pick := ok_pick F_pick T D_draw
  have D_shuf := ok_shuffled F_shuffled T D_draw
  have D_floor := ok_floor F_floor TH D_draw D_pick
  have D_made := ok_made F_made TR D_draw D_shuf X_Plan.cdef
  have D_walk := ok_walk F_walk TH D_draw D_pick
  have D_begun := ok_begun F_begun D_draw D_walk
  have D_units := ok_units (P := PySem.Challenge.pw_crosswalls_k19_whole_gates) (w := w) (base := base) F_units TV
  have D_through := ok_through (P := PySem.Challenge.pw_crosswalls_k19_whole_gates) (w := w) (base := base) F_through TV
  have D_marks := ok_marks F_marks D_units D_through
  have D_backs0 := ok_backs (P := PySem.Challenge.pw_crosswalls_k19_whole_gates) (w := w) (base := base) F_backs TV
  have D_backs := ok_backsF (P := PySem.Challenge.pw_crosswalls_k19_whole_gates) (w := w) (base := base) F_backs TV
  have D_name := ok_name F_name D_marks D_through D_backs0
  have D_far := ok_far F_far T D_name
  have D_plain := ok_plain (P := PySem.Challenge.pw_crosswalls_k19_whole_gates) (w := w) (base := base) F_plain TV
  have D_shufV := ok_shuffledV F_shuffled T D_draw
  have D_wi := (ok_without_first (P := PySem.Challenge.pw_crosswalls_k19_whole_gates) (w := w) (base := base) F_without_first).mono (show 1 ≤ 2 by decide)
  have D_ib := ok_in_both (P := PySem.Challenge.pw_crosswalls_k19_whole_gates) (w := w) (mg := mg) (base := base) F_in_both
  have D_sb := ok_shared_begin F_shared_begin D_wi D_ib D_fk
  have D_mn := ok_middle_name F_middle_name D_jo D_wf D_sb
  have D_nr := ok_need_rooms F_need_rooms TR D_ns.calm
  have D_ga := ok_gate F_gate TR D_nr D_ns.calm D_mn X_Room.cdef
  have D_ih := ok_in_hull F_in_hull TR D_ga M_eq
  have D_gak := D_ga.kw F_gate 0 ["rooms", "room"] [.kw 1, .kw 0] fun kV doc pm an cdv ct us ws l1 l2 => by
    match us, l1, ws, l2 with
    | [], _, [_, _], _ => rfl
  have D_ihk := D_ih.kw F_in_hull 0 ["room", "rooms"] [.kw 0, .kw 1] fun kV doc pm an cdv ct us ws l1 l2 => by
    match us, l1, ws, l2 with
    | [], _, [_, _], _ => rfl
  have C_Plan_1 := X_Plan.kw 1 [] [.pos 0, .dfl 0] (by simp) fun T kV doc pm an cdv ct us its ws l1 l2 l3 => by
    match us, l1, its, l2, ws, l3 with
    | [_, _], _, [_], _, [], _ => exact ⟨_, rfl, rfl⟩
  have D_pr := ok_plain_right F_plain_right TL kt D_ga D_far D_marks D_backs X_Room.cdef C_Plan_1
  exact ok_law F_law TL kt D_pen D_draw D_pick D_shufV D_floor D_made D_walk D_begun D_plain D_marks D_backs D_far D_ga D_gak D_ih D_ihk D_pr X_Room.cdef M_eq
end Cw
set_option Elab.async false
set_option linter.all false
set_option maxRecDepth 100000
open PySem PySem.W PyProof.Rows
set_option maxRecDepth 100000 in
set_option maxHeartbeats 0 in
theorem PySem.Challenge.cw_crosswalls_k19_whole_gates_holds : PySem.Challenge.rw_crosswalls_k19_whole_gates.Holds := by
  refine Cw.headOf ?_
  k_fill
  refine Cw.end_walk (l := PySem.Challenge.rw_crosswalls_k19_whole_gates) (k := 8) (x := "_law_script") (sp := Cw.spLaw) rfl rfl ⟨rfl, by decide, by decide⟩ (fun w h Y => PySem.W.kIn_of Y) (fun _ _ a ns hl _ hS => ⟨a, ns, rfl, hS, hl, fun _ => rfl⟩) ?F
  case F =>
    intro w mg fa h KX G hmg
    refine' ⟨_, fun s v => ?b, fun base _ _ => ?h⟩
    case h =>
      refine' Cw.end19 ?c_Plan ?c_Room ?e_OtherPlan ?F_stepped ?F_joined ?F_turned_back ?F_way_from ?F_still_free ?F_first_kinds ?F_without_first ?F_in_both ?F_shared_begin ?F_middle_name ?F_is_list ?F_is_kind ?F_need_kind ?F_need_way ?F_need_same ?F_are_letters ?F_ascending ?F_checked_pairs ?F_need_few ?F_crossing_table ?F_need_rooms ?F_gate ?F_in_hull ?F_pen ?F_draw ?F_pick ?F_shuffled ?F_floor ?F_made ?F_walk ?F_begun ?F_units ?F_through ?F_marks ?F_backs ?F_name ?F_plain ?F_far ?F_plain_right ?F_law ?F_Plan_eq ?F_Plan_init ?F_Room_init ?F_Room_eq ?z_len ?z_int ?z_list ?z_isinstance ?z_str ?z_all ?z_set ?z_tuple ?z_enumerate ?z_range ?z_min ?z_dict ?z_sum ?n_C_kinds ?n_C_pairs ?n_C_own_crossing ?n_R_plan ?n_R_name ?g_LETTERS ?g_MOST_KINDS ?g_MOST_LETTERS ?ke0 base
      case c_Plan => refine' Cw.cls_mk KX G ?a ?pg ?hd ?po ?sa ?mk ?kc ?ha ?hn ?ht ?hm ?ob ?ne; (case a => k_is); (case pg => k_is); (case hd => k_is); (case po => k_is); (case sa => k_is); (case mk => k_is); (case kc => k_is); (case ha => k_is); (case hn => k_is); (case ht => k_is); (case hm => k_is); (case ob => k_is); (case ne => k_is)
      case c_Room => refine' Cw.cls_mk KX G ?a ?pg ?hd ?po ?sa ?mk ?kc ?ha ?hn ?ht ?hm ?ob ?ne; (case a => k_is); (case pg => k_is); (case hd => k_is); (case po => k_is); (case sa => k_is); (case mk => k_is); (case kc => k_is); (case ha => k_is); (case hn => k_is); (case ht => k_is); (case hm => k_is); (case ob => k_is); (case ne => k_is)
      case e_OtherPlan => refine' Cw.exc_mk KX G ?a ?e ?k ?ty ?hg ?hk ?hs ?hd ?ha ?hn ?ht ?hm; (case a => k_is); (case k => k_is); (case ty => k_is); (case hg => k_is); (case hk => k_is); (case hs => k_is); (case hd => k_is); (case ha => k_is); (case hn => k_is); (case ht => k_is); (case hm => k_is); (case e => k_exc)
      case F_stepped => refine' Cw.fnAt_mk KX G ?a ?l ?c ?k; (case a => k_is); (case l => k_is); (case c => k_is); (case k => k_is)
      case F_joined => refine' Cw.fnAt_mk KX G ?a ?l ?c ?k; (case a => k_is); (case l => k_is); (case c => k_is); (case k => k_is)
      case F_turned_back => refine' Cw.fnAt_mk KX G ?a ?l ?c ?k; (case a => k_is); (case l => k_is); (case c => k_is); (case k => k_is)
      case F_way_from => refine' Cw.fnAt_mk KX G ?a ?l ?c ?k; (case a => k_is); (case l => k_is); (case c => k_is); (case k => k_is)
      case F_still_free => refine' Cw.fnAt_mk KX G ?a ?l ?c ?k; (case a => k_is); (case l => k_is); (case c => k_is); (case k => k_is)
      case F_first_kinds => refine' Cw.fnAt_mk KX G ?a ?l ?c ?k; (case a => k_is); (case l => k_is); (case c => k_is); (case k => k_is)
      case F_without_first => refine' Cw.fnAt_mk KX G ?a ?l ?c ?k; (case a => k_is); (case l => k_is); (case c => k_is); (case k => k_is)
      case F_in_both => refine' Cw.fnAt_mk KX G ?a ?l ?c ?k; (case a => k_is); (case l => k_is); (case c => k_is); (case k => k_is)
      case F_shared_begin => refine' Cw.fnAt_mk KX G ?a ?l ?c ?k; (case a => k_is); (case l => k_is); (case c => k_is); (case k => k_is)
      case F_middle_name => refine' Cw.fnAt_mk KX G ?a ?l ?c ?k; (case a => k_is); (case l => k_is); (case c => k_is); (case k => k_is)
      case F_is_list => refine' Cw.fnAt_mk KX G ?a ?l ?c ?k; (case a => k_is); (case l => k_is); (case c => k_is); (case k => k_is)
      case F_is_kind => refine' Cw.fnAt_mk KX G ?a ?l ?c ?k; (case a => k_is); (case l => k_is); (case c => k_is); (case k => k_is)
      case F_need_kind => refine' Cw.fnAt_mk KX G ?a ?l ?c ?k; (case a => k_is); (case l => k_is); (case c => k_is); (case k => k_is)
      case F_need_way => refine' Cw.fnAt_mk KX G ?a ?l ?c ?k; (case a => k_is); (case l => k_is); (case c => k_is); (case k => k_is)
      case F_need_same => refine' Cw.fnAt_mk KX G ?a ?l ?c ?k; (case a => k_is); (case l => k_is); (case c => k_is); (case k => k_is)
      case F_are_letters => refine' Cw.fnAt_mk KX G ?a ?l ?c ?k; (case a => k_is); (case l => k_is); (case c => k_is); (case k => k_is)
      case F_ascending => refine' Cw.fnAt_mk KX G ?a ?l ?c ?k; (case a => k_is); (case l => k_is); (case c => k_is); (case k => k_is)
      case F_checked_pairs => refine' Cw.fnAt_mk KX G ?a ?l ?c ?k; (case a => k_is); (case l => k_is); (case c => k_is); (case k => k_is)
      case F_need_few => refine' Cw.fnAt_mk KX G ?a ?l ?c ?k; (case a => k_is); (case l => k_is); (case c => k_is); (case k => k_is)
      case F_crossing_table => refine' Cw.fnAt_mk KX G ?a ?l ?c ?k; (case a => k_is); (case l => k_is); (case c => k_is); (case k => k_is)
      case F_need_rooms => refine' Cw.fnAt_mk KX G ?a ?l ?c ?k; (case a => k_is); (case l => k_is); (case c => k_is); (case k => k_is)
      case F_gate => refine' Cw.fnAt_mk KX G ?a ?l ?c ?k; (case a => k_is); (case l => k_is); (case c => k_is); (case k => k_is)
      case F_in_hull => refine' Cw.fnAt_mk KX G ?a ?l ?c ?k; (case a => k_is); (case l => k_is); (case c => k_is); (case k => k_is)
      case F_pen => refine' Cw.fnAt_mk KX G ?a ?l ?c ?k; (case a => k_is); (case l => k_is); (case c => k_is); (case k => k_is)
      case F_draw => refine' Cw.fnAt_mk KX G ?a ?l ?c ?k; (case a => k_is); (case l => k_is); (case c => k_is); (case k => k_is)
      case F_pick => refine' Cw.fnAt_mk KX G ?a ?l ?c ?k; (case a => k_is); (case l => k_is); (case c => k_is); (case k => k_is)
      case F_shuffled => refine' Cw.fnAt_mk KX G ?a ?l ?c ?k; (case a => k_is); (case l => k_is); (case c => k_is); (case k => k_is)
      case F_floor => refine' Cw.fnAt_mk KX G ?a ?l ?c ?k; (case a => k_is); (case l => k_is); (case c => k_is); (case k => k_is)
      case F_made => refine' Cw.fnAt_mk KX G ?a ?l ?c ?k; (case a => k_is); (case l => k_is); (case c => k_is); (case k => k_is)
      case F_walk => refine' Cw.fnAt_mk KX G ?a ?l ?c ?k; (case a => k_is); (case l => k_is); (case c => k_is); (case k => k_is)
      case F_begun => refine' Cw.fnAt_mk KX G ?a ?l ?c ?k; (case a => k_is); (case l => k_is); (case c => k_is); (case k => k_is)
      case F_units => refine' Cw.fnAt_mk KX G ?a ?l ?c ?k; (case a => k_is); (case l => k_is); (case c => k_is); (case k => k_is)
      case F_through => refine' Cw.fnAt_mk KX G ?a ?l ?c ?k; (case a => k_is); (case l => k_is); (case c => k_is); (case k => k_is)
      case F_marks => refine' Cw.fnAt_mk KX G ?a ?l ?c ?k; (case a => k_is); (case l => k_is); (case c => k_is); (case k => k_is)
      case F_backs => refine' Cw.fnAt_mk KX G ?a ?l ?c ?k; (case a => k_is); (case l => k_is); (case c => k_is); (case k => k_is)
      case F_name => refine' Cw.fnAt_mk KX G ?a ?l ?c ?k; (case a => k_is); (case l => k_is); (case c => k_is); (case k => k_is)
      case F_plain => refine' Cw.fnAt_mk KX G ?a ?l ?c ?k; (case a => k_is); (case l => k_is); (case c => k_is); (case k => k_is)
      case F_far => refine' Cw.fnAt_mk KX G ?a ?l ?c ?k; (case a => k_is); (case l => k_is); (case c => k_is); (case k => k_is)
      case F_plain_right => refine' Cw.fnAt_mk KX G ?a ?l ?c ?k; (case a => k_is); (case l => k_is); (case c => k_is); (case k => k_is)
      case F_law => refine' Cw.fun1_mk KX G hmg ?a ?l ?c ?k; (case a => k_is); (case l => k_is); (case c => k_is); (case k => k_is)
      case F_Plan_eq => refine' Cw.mAt_mk ?a ?i ?l ?c ?k; (case a => k_is); (case i => k_is); (case l => k_is); (case c => k_is); (case k => k_is)
      case F_Plan_init => refine' Cw.mAtD_mk ?a ?i ?l ?c ?k ?t ?v ?d; (case a => k_is); (case i => k_is); (case l => k_is); (case c => k_is); (case k => k_is); (case t => k_is); (case v => exact .cons rfl .nil); (case d => intro z; cases z)
      case F_Room_init => refine' Cw.mAtD_mk ?a ?i ?l ?c ?k ?t ?v ?d; (case a => k_is); (case i => k_is); (case l => k_is); (case c => k_is); (case k => k_is); (case t => k_is); (case v => exact .cons ⟨_, rfl⟩ .nil); (case d => intro z; cases z)
      case F_Room_eq => refine' Cw.mAt_mk ?a ?i ?l ?c ?k; (case a => k_is); (case i => k_is); (case l => k_is); (case c => k_is); (case k => k_is)
      case z_len => refine' PySem.W.mg_none_of KX G ?a; (case a => k_is)
      case z_int => refine' PySem.W.mg_none_of KX G ?a; (case a => k_is)
      case z_list => refine' PySem.W.mg_none_of KX G ?a; (case a => k_is)
      case z_isinstance => refine' PySem.W.mg_none_of KX G ?a; (case a => k_is)
      case z_str => refine' PySem.W.mg_none_of KX G ?a; (case a => k_is)
      case z_all => refine' PySem.W.mg_none_of KX G ?a; (case a => k_is)
      case z_set => refine' PySem.W.mg_none_of KX G ?a; (case a => k_is)
      case z_tuple => refine' PySem.W.mg_none_of KX G ?a; (case a => k_is)
      case z_enumerate => refine' PySem.W.mg_none_of KX G ?a; (case a => k_is)
      case z_range => refine' PySem.W.mg_none_of KX G ?a; (case a => k_is)
      case z_min => refine' PySem.W.mg_none_of KX G ?a; (case a => k_is)
      case z_dict => refine' PySem.W.mg_none_of KX G ?a; (case a => k_is)
      case z_sum => refine' PySem.W.mg_none_of KX G ?a; (case a => k_is)
      case n_C_kinds => unfold L2.NoAttr; k_is
      case n_C_pairs => unfold L2.NoAttr; k_is
      case n_C_own_crossing => unfold L2.NoAttr; k_is
      case n_R_plan => unfold L2.NoAttr; k_is
      case n_R_name => unfold L2.NoAttr; k_is
      case g_LETTERS => refine' Cw.glob_mk KX G ?a; (case a => k_is)
      case g_MOST_KINDS => refine' Cw.glob_mk KX G ?a; (case a => k_is)
      case g_MOST_LETTERS => refine' Cw.glob_mk KX G ?a; (case a => k_is)
      case ke0 => first | k_is | k_exc | kernel_rfl
    case b => exact .of_eq rfl
