import PyProof.Rows.All
import Wide.All
import OpenK.AllK
import Wide.FinOn
import HandS.ForMost
import HandS.ForExc
import HandS.Wide
import HandS.Style
import HandS.Flow
import HandS.IsInst
import HandS.OwnEq
import PyProof.Rows.SetFrom
import PyProof.StrWalks
import PyProof.InstNe
import HandS.Exc
import HandS.Defaults
import HandS.Walk
import PyProof.Rows.StrRev
import HandS.Steps
import PySem.Challenge.RW_crosswalls_k25_whole_bridges
import KE.GoesMore
import HandS.TupLe
import HandS.ExcOwn
import HandS.ExcIs
import PyProof.ExcBaseAll.ValueError
import HandS.Iter
import HandS.Conv
import HandS.More
import HandS.WordsExc
import HandS.MakeKw
import HandS.MakeKwOnly
import HandS.Codes
import PyProof.FString5
import HandS.Replace
import PyProof.JoinWalk
import PyProof.CollectIter
import PyProof.DictWalks
import PyProof.FactsAll.dict_keyiterator_1
import PyProof.Rows.StrJoin2
import KE.KDictList
import HandS.TryOnly
import HandS.Deep
import HandS.SortInts
import HandS.SortKw
import HandS.RaiseMore
import HandS.DeepEq
import PyProof.NeKinds
import HandS.ExcInit
import HandS.Nested
import KE.KExcSuper
import HandS.ExcField
import KE.KExcIs
import HandS.TryMany
import HandS.Comp
import HandS.HotCalls
import HandS.Ends
import KE.KStateDown
import HandS.Head0
import HandS.Head1
import HandS.Head2
set_option Elab.async false
set_option maxRecDepth 100000
set_option maxHeartbeats 4000000
/-! Own words over the hand layer: defs by name, texts as lists of codes. -/
namespace Cw
open PySem PySem.Spec PyProof.Rows L2

/-! ### defs by their module name -/
/-- a def of the module stands as the text has it -/
structure FnAt (K : PySem.W.Frag) (mg : Str → Option Value) (x : Str) (st : Stmt) : Prop where
  ex : ∃ f fd, mg x = some (.ref f) ∧ Fun K x x st f fd
/-- how a def's arguments bind where all are given, and where it stands -/
structure Bd (K : PySem.W.Frag) (f : Addr) (fd : FuncData) (ps : List Str) : Prop where
  b : Binds K fd ps []
  lk : ∃ oc od osl, K.lookup f = some ⟨oc, od, .func fd, osl⟩
theorem funLk {K : PySem.W.Frag} {x qual : Str} {st : Stmt} {f : Addr} {fd : FuncData} (F : Fun K x qual st f fd) : ∃ oc od osl, K.lookup f = some ⟨oc, od, .func fd, osl⟩ := by
  obtain ⟨oc, od, kV, doc, pm, an, cdv, ct, osl, rfl, lk, _⟩ := F.ex
  exact ⟨oc, od, osl, lk⟩
/-- a def of the module keeps a promise -/
structure Def (P : Program) (w : World) (K : PySem.W.Frag) (mg : Str → Option Value) (base : Heap) (CX : CXT) (k : Nat) (x : Str) (ps : List Str) (sp : Sp) : Prop where
  ex : ∃ f fd, mg x = some (.ref f) ∧ PySem.W.keepIn K (.ref f) = true ∧ Bd K f fd ps ∧ FnOk P w K mg base CX k f fd ps sp
section
variable {P : Program} {w : World} {K : PySem.W.Frag} {mg : Str → Option Value} {base : Heap} {CX : CXT} {k : Nat} {x : Str} {ps N : List Str} {sp : Sp} {st : Stmt}
theorem Def.mono {j : Nat} (D : Def P w K mg base CX j x ps sp) (h : j ≤ k) : Def P w K mg base CX k x ps sp := by
  obtain ⟨f, fd, a, b, c, d⟩ := D.ex
  exact ⟨f, fd, a, b, c, d.mono h⟩
theorem Def.imp {sp' : Sp} (D : Def P w K mg base CX k x ps sp) (h : ∀ vs H Q E, sp' vs H Q E → sp vs H Q E) : Def P w K mg base CX k x ps sp' := by
  obtain ⟨f, fd, a, b, c, d⟩ := D.ex
  exact ⟨f, fd, a, b, c, d.imp h⟩
/-- a def that lets no exception out -/
theorem FnAt.ok (F : FnAt K mg x st) (S : FnScope N ps (defScope st))
    (hb : ∀ (kV doc pm : Value) (an : Option Addr) (cdv ct : Value) (us : List Value), us.length = ps.length → bindArgs (PySem.W.fnOf x x (defArgs st) (defBody st) (defScope st) .none kV doc pm an cdv ct) ⟨us, []⟩ = pure (ps.zip us))
    (len : ∀ vs H Q E, sp vs H Q E → vs.length = ps.length)
    (hbody : ∀ (f : Addr) (cdv : Value) (A : Around) (outer : List Env) (s : Shared) (H : Hp) (vs : List V) (Q : VK) (E : XK), Room k (A.deeper (envOfC x (defScope st) s.heap.objs.size f cdv)) → sp vs H Q E →
      ∃ t, PSs (cxOf CX0 P w K mg base N x (defScope st) f cdv A outer s H E).nox (defBody st) t ∧ t { nx := fun _ H' => Q .non H', rt := Q } (start N vs) H) : Def P w K mg base CX0 (k + 1) x ps sp := by
  obtain ⟨f, fd, hm, F⟩ := F.ex
  exact ⟨f, fd, hm, F.kp, ⟨F.binds hb, funLk F⟩, F.ok S len fun cdv A outer s H vs Q E hr h => hbody f cdv A outer s H vs Q E hr h⟩
/-- a def that may raise -/
theorem FnAt.okX (F : FnAt K mg x st) (S : FnScope N ps (defScope st))
    (hb : ∀ (kV doc pm : Value) (an : Option Addr) (cdv ct : Value) (us : List Value), us.length = ps.length → bindArgs (PySem.W.fnOf x x (defArgs st) (defBody st) (defScope st) .none kV doc pm an cdv ct) ⟨us, []⟩ = pure (ps.zip us))
    (len : ∀ vs H Q E, sp vs H Q E → vs.length = ps.length)
    (hbody : ∀ (f : Addr) (cdv : Value) (A : Around) (outer : List Env) (s : Shared) (H : Hp) (vs : List V) (Q : VK) (E : XK), Room k (A.deeper (envOfC x (defScope st) s.heap.objs.size f cdv)) → sp vs H Q E →
      ∃ t, PSs (cxOf (L2.CX P w) P w K mg base N x (defScope st) f cdv A outer s H E) (defBody st) t ∧ t { nx := fun _ H' => Q .non H', rt := Q } (start N vs) H) : Def P w K mg base (L2.CX P w) (k + 1) x ps sp := by
  obtain ⟨f, fd, hm, F⟩ := F.ex
  exact ⟨f, fd, hm, F.kp, ⟨F.binds hb, funLk F⟩, F.okX S len fun cdv A outer s H vs Q E hr h => hbody f cdv A outer s H vs Q E hr h⟩
end
section
variable {X : Cx} {CX : CXT} {k : Nat} {ps : List Str} {sp : Sp} {E : XK} {x : Str} {p pos : PySem.Pos} {e : Expr} {es : List Expr} {t : TA}
/-- f(e, ..) of a def that is known by its name -/
theorem pe_cd (D : Def X.prog X.w X.K X.mg X.base CX k x ps sp) (hr : Room k X.A) (hx : Passes CX X E) (ha : PA X (e :: es) t) (hg : Gl X x := by rfl) (hdb : (x == ("__debug__" : Str)) = false := by decide)
    (he : starEach (e :: es) X.env = (false, eval e X.env) :: starEach es X.env := by rfl) (hpl : (backTo pos (starEach es X.env)).any (·.1) = false := by rfl) : PE X (.Call (.Name x p) (e :: es) [] pos) (tCall sp [] E t) := by
  obtain ⟨f, fd, a, b, c, d⟩ := D.ex
  exact pe_call d hr hg a b c.b .nil hx ha hdb he hpl
end
/-! ### heaps -/
/-- all but the object at p is kept -/
def Keep (p : Addr) (H H' : Hp) : Prop := ∀ b o, H b = some o → b ≠ p → H' b = some o
theorem Keep.refl (p : Addr) (H : Hp) : Keep p H H := fun _ _ h _ => h
theorem Keep.trans {p : Addr} {H H1 H2 : Hp} (a : Keep p H H1) (b : Keep p H1 H2) : Keep p H H2 := fun c o h n => b c o (a c o h n) n
theorem Keep.of {p : Addr} {H H' : Hp} (a : Same H H') : Keep p H H' := fun c o h _ => a c o h
theorem Same.at {H H' : Hp} {a : Addr} {o : HO} (S : Same H H') (h : H a = some o) : H' a = some o := S a o h
theorem Keep.at {p : Addr} {H H' : Hp} {a : Addr} {o : HO} (S : Keep p H H') (h : H a = some o) (n : a ≠ p) : H' a = some o := S a o h n
theorem Same.new {H : Hp} {p : Addr} {o : HO} (h : H p = none) : Same H (upd H p o) := fun a u e => by
  rw [upd_ne (ne_of_none e h)]
  exact e
theorem Keep.put {p : Addr} {H : Hp} {o : HO} : Keep p H (upd H p o) := fun a u e n => by
  rw [upd_ne n]
  exact e
end Cw
set_option Elab.async false
set_option linter.all false
set_option maxRecDepth 100000
set_option maxHeartbeats 4000000
namespace Cw
open PySem PySem.Spec L2
/-! ### texts as lists of codes -/
abbrev tx (l : List Nat) : Str := ⟨l.toArray⟩
theorem tx_len (l : List Nat) : (tx l).length = l.length := by
  show (l.toArray).size = l.length
  simp
theorem tx_app (a b : List Nat) : tx a ++ tx b = tx (a ++ b) := by
  show (⟨a.toArray ++ b.toArray⟩ : Str) = ⟨(a ++ b).toArray⟩
  simp
theorem tx_eq {z : Str} : z = tx z.cps.toList := by
  cases z
  simp [tx]
theorem tx_inj {a b : List Nat} : tx a = tx b ↔ a = b := by
  constructor
  · intro h
    have := congrArg (fun z : Str => z.cps.toList) h
    simpa using this
  · intro h
    rw [h]
theorem dec_tx {a b : List Nat} : decide (V.str (tx a) = V.str (tx b)) = decide (a = b) := by
  rw [Bool.eq_iff_iff, decide_eq_true_iff, decide_eq_true_iff]
  constructor
  · intro h
    injection h with h
    exact tx_inj.mp h
  · intro h
    rw [h]

/-! ### stepping: expressions -/
section
variable {σ : St} {H : Hp} {Q : VK} {i : Nat} {v x y : V} {ta tb te : TE} {r : R2} {D : Ends} {K : PySem.W.Frag}
theorem e_c (q : Q v H) : tC v σ H Q := q
theorem e_op (q : ta σ H fun x H1 => tb σ H1 fun y H2 => r x y H2 Q) : tOp r ta tb σ H Q := q
theorem e_un {r : V → Hp → VK → Prop} (q : ta σ H fun x H1 => r x H1 Q) : tUn r ta σ H Q := q
theorem v_I0 {g : Int → Int → V} {a b : Int} (q : Q (g a b) H) : rI0 g (.int a) (.int b) H Q := ⟨a, b, rfl, rfl, q⟩
theorem v_I {C : Int → Int → Prop} {g : Int → Int → V} {a b : Int} (c : C a b) (q : Q (g a b) H) : rI C g (.int a) (.int b) H Q := ⟨a, b, rfl, rfl, c, q⟩
theorem v_eq (c : scal x y = true) (q : Q (.bl (decide (x = y))) H) : rEq x y H Q := ⟨c, q⟩
theorem v_ne (c : scal x y = true) (q : Q (.bl (!decide (x = y))) H) : rNe x y H Q := ⟨c, q⟩
theorem v_bl {P : Bool → Prop} {b : Bool} (q : P b) : ∃ k, V.bl b = V.bl k ∧ P k := ⟨b, rfl, q⟩
theorem v_int {P : Int → Prop} {b : Int} (q : P b) : ∃ k, V.int b = V.int k ∧ P k := ⟨b, rfl, q⟩
theorem v_str {P : Str → Prop} {b : Str} (q : P b) : ∃ k, V.str b = V.str k ∧ P k := ⟨b, rfl, q⟩
theorem e_andV (q : ta σ H fun x H1 => ∃ c, x = .bl c ∧ if c = true then tb σ H1 Q else Q (.bl false) H1) : tAndV ta tb σ H Q := q
theorem e_orV (q : ta σ H fun x H1 => ∃ c, x = .bl c ∧ if c = true then Q (.bl true) H1 else tb σ H1 Q) : tOrV ta tb σ H Q := q
theorem e_notV (q : ta σ H fun x H1 => ∃ c, x = .bl c ∧ Q (.bl (!c)) H1) : tNotV ta σ H Q := q
theorem e_if {t : TT} (q : t σ H fun c H1 => if c = true then ta σ H1 Q else tb σ H1 Q) : tIf t ta tb σ H Q := q
theorem e_nil {Q : List V → Hp → Prop} (q : Q [] H) : tNil σ H Q := q
theorem e_cons {tr : TA} {Q : List V → Hp → Prop} (q : ta σ H fun x H1 => tr σ H1 fun xs H2 => Q (x :: xs) H2) : tCons ta tr σ H Q := q
theorem e_cb {r : List V → Hp → VK → Prop} {t : TA} (q : t σ H fun vs H1 => r vs H1 Q) : tCB r t σ H Q := q
theorem e_call {sp : Sp} {E : XK} {t : TA} (q : t σ H fun vs H1 => sp vs H1 Q E) : tCall sp [] E t σ H Q := by
  show t σ H fun vs H1 => sp (vs ++ []) H1 Q E
  simpa using q
theorem e_fld {f : Str} (q : ta σ H fun x H1 => ∃ a C dx fs v, x = .ref a ∧ H1 a = some (.ins C dx fs) ∧ Cls K C ∧ NoAttr K C f ∧ fs.lookup f = some v ∧ Q v H1) : tFld K ta f σ H Q := q
theorem e_dget (q : ta σ H fun x H1 => tb σ H1 fun y H2 => ∃ a v, x = .ref a ∧ DGet H2 a y (some v) ∧ Q v H2) : tDGet ta tb σ H Q := q
theorem v_dget {P : V → Prop} {a : Addr} (h : DGet H a y (some v)) (q : P v) : ∃ a' v, V.ref a = .ref a' ∧ DGet H a' y (some v) ∧ P v := ⟨a, v, rfl, h, q⟩
theorem e_lst {t : TA} (q : t σ H fun xs H1 => xs.length ≤ sizeLine ∧ ∀ p H2, H1 p = none → H2 = upd H1 p (.lst xs) → Q (.ref p) H2) : tLst t σ H Q := by
  have e : (fun (xs : List V) (H1 : Hp) => xs.length ≤ sizeLine ∧ ∀ p H2, H1 p = none → H2 = upd H1 p (.lst xs) → Q (.ref p) H2) = (fun xs H1 => xs.length ≤ sizeLine ∧ ∀ p, H1 p = none → Q (.ref p) (upd H1 p (.lst xs))) := by
    funext xs H1
    exact propext ⟨fun h => ⟨h.1, fun p hp => h.2 p _ hp rfl⟩, fun h => ⟨h.1, fun p H2 hp e => e ▸ h.2 p hp⟩⟩
  rw [e] at q
  exact q
theorem e_tup {t : TA} (q : t σ H fun xs H1 => xs.length ≤ sizeLine ∧ ∀ p H2, H1 p = none → H2 = upd H1 p (.tup xs) → Q (.ref p) H2) : tTup t σ H Q := by
  have e : (fun (xs : List V) (H1 : Hp) => xs.length ≤ sizeLine ∧ ∀ p H2, H1 p = none → H2 = upd H1 p (.tup xs) → Q (.ref p) H2) = (fun xs H1 => xs.length ≤ sizeLine ∧ ∀ p, H1 p = none → Q (.ref p) (upd H1 p (.tup xs))) := by
    funext xs H1
    exact propext ⟨fun h => ⟨h.1, fun p hp => h.2 p _ hp rfl⟩, fun h => ⟨h.1, fun p H2 hp e => e ▸ h.2 p hp⟩⟩
  rw [e] at q
  exact q
theorem e_dnew (q : ∀ p H', H p = none → Same H H' → H' p = some (.dK []) → Q (.ref p) H') : tDNewK σ H Q := fun p h => q p _ h (Same.new h) upd_same
theorem szl {n : Nat} (h : n ≤ 1000000) : n ≤ sizeLine := Nat.le_trans h (by decide)
theorem szlt {n : Nat} (h : n < 1000000) : n < sizeLine := Nat.lt_of_lt_of_le h (by decide)
theorem v_lst {xs : List V} {P : Addr → Hp → Prop} (h : xs.length ≤ 1000000) (q : ∀ p H', H p = none → Same H H' → H' p = some (.lst xs) → P p H') : xs.length ≤ sizeLine ∧ ∀ p H2, H p = none → H2 = upd H p (.lst xs) → P p H2 := ⟨szl h, fun p H2 hp e => q p H2 hp (e ▸ Same.new hp) (e ▸ upd_same)⟩
theorem v_tup {xs : List V} {P : Addr → Hp → Prop} (h : xs.length ≤ 1000000) (q : ∀ p H', H p = none → Same H H' → H' p = some (.tup xs) → P p H') : xs.length ≤ sizeLine ∧ ∀ p H2, H p = none → H2 = upd H p (.tup xs) → P p H2 := ⟨szl h, fun p H2 hp e => q p H2 hp (e ▸ Same.new hp) (e ▸ upd_same)⟩
theorem v_ixL {p : Addr} {xs : List V} {a : Int} (h : H p = some (.lst xs)) (c : atI xs a = some v) (q : Q v H) : rIxL K (.ref p) (.int a) H Q := ⟨p, xs, a, v, rfl, rfl, SqL.of h, c, q⟩
theorem v_ixS {l : List Nat} {a : Int} {c : Nat} (h : l.length ≤ 1000000) (e : atI l a = some c) (q : Q (.str (tx [c])) H) : rIxS (.str (tx l)) (.int a) H Q := ⟨tx l, a, c, rfl, rfl, by rw [tx_len]; exact szl h, by simpa using e, q⟩
end
/-! ### named relations of built-in calls -/
def rInt : List V → Hp → VK → Prop := fun xs H Q => (∃ i, xs = [.int i] ∧ Q (.int i) H) ∨ ∃ k, xs = [.bl k] ∧ Q (.int (if k then 1 else 0)) H
theorem c_int {X : Cx} : CallR X (.type "int") rInt := call_int1
def rLen (K : PySem.W.Frag) : List V → Hp → VK → Prop := fun xs H Q => ∃ p ys, xs = [.ref p] ∧ (SqL K H p ys ∨ SqT K H p ys) ∧ Q (.int ys.length) H
theorem c_len {X : Cx} : CallR X (.builtin "len") (rLen X.K) := call_len_seq
def rLenS : List V → Hp → VK → Prop := fun xs H Q => ∃ x, xs = [.str x] ∧ x.length ≤ sizeLine ∧ Q (.int x.length) H
theorem c_lenS {X : Cx} : CallR X (.builtin "len") rLenS := call_len_str
section
variable {σ : St} {H : Hp} {Q : VK} {i : Nat} {v x y : V} {K : PySem.W.Frag}
theorem v_inti {a : Int} (q : Q (.int a) H) : rInt [.int a] H Q := .inl ⟨a, rfl, q⟩
theorem v_intb {k : Bool} (q : Q (.int (if k then 1 else 0)) H) : rInt [.bl k] H Q := .inr ⟨k, rfl, q⟩
theorem v_len {p : Addr} {ys : List V} (h : H p = some (.lst ys)) (q : Q (.int ys.length) H) : rLen K [.ref p] H Q := ⟨p, ys, rfl, .inl (SqL.of h), q⟩
theorem v_lenS {l : List Nat} (h : l.length ≤ 1000000) (q : Q (.int l.length) H) : rLenS [.str (tx l)] H Q := ⟨tx l, rfl, by rw [tx_len]; exact szl h, by rw [tx_len]; exact q⟩
end
/-! ### stepping: statements -/
section
variable {σ : St} {H : Hp} {i : Nat} {v : V} {te : TE} {tt u : TT} {t1 t2 : TS} {D : Ends}
theorem s_start {N : List Str} {vs : List V} {t : TS} (s0 : St) (h : start N vs = s0) (q : t D s0 H) : t D (start N vs) H := by rw [h]; exact q
theorem s_seq (q : t1 { D with nx := t2 D } σ H) : tSeq t1 t2 D σ H := q
theorem s_next (q : D.nx σ H) : tNext D σ H := q
theorem s_set (q : te σ H fun v H1 => D.nx (σ.set i (some v)) H1) : tAsg te (gName i) D σ H := q
theorem s_drop (q : te σ H fun _ H1 => D.nx σ H1) : tDrop te D σ H := q
theorem s_ret (q : te σ H D.rt) : tRet te D σ H := q
theorem s_if (q : tt σ H fun b H1 => if b = true then t1 D σ H1 else t2 D σ H1) : tIfS tt t1 t2 D σ H := q
theorem t_test {Q : Bool → Hp → Prop} (q : te σ H fun x H' => ∃ k, x = .bl k ∧ Q k H') : tTest te σ H Q := q
theorem t_B {Q : Bool → Hp → Prop} (q : te σ H fun x H' => ∃ k, x = .bl k ∧ Q k H') : tB te σ H Q := q
theorem t_and {Q : Bool → Hp → Prop} (q : tt σ H fun c H1 => if c = true then u σ H1 Q else Q false H1) : tAnd tt u σ H Q := q
theorem t_or {Q : Bool → Hp → Prop} (q : tt σ H fun c H1 => if c = true then Q true H1 else u σ H1 Q) : tOr tt u σ H Q := q
theorem t_not {Q : Bool → Hp → Prop} (q : tt σ H fun c H1 => Q (!c) H1) : tNot tt σ H Q := q
theorem s_dput {td ty tv : TE} (q : tv σ H fun v H1 => td σ H1 fun x H2 => ty σ H2 fun y H3 => ∃ a H4, x = .ref a ∧ DPut H3 a y v H4 ∧ D.nx σ H4) : sDPut td ty tv D σ H := q
theorem if_dec {c A B : Prop} [Decidable c] (h1 : c → A) (h2 : ¬ c → B) : if decide c = true then A else B := by
  by_cases h : c
  · rw [decide_eq_true h, if_pos rfl]; exact h1 h
  · rw [decide_eq_false h, if_neg Bool.false_ne_true]; exact h2 h
theorem if_ndec {c A B : Prop} [Decidable c] (h1 : ¬ c → A) (h2 : c → B) : if (!decide c) = true then A else B := by
  by_cases h : c
  · rw [decide_eq_true h]; exact iteF (h2 h)
  · rw [decide_eq_false h]; exact iteT (h1 h)
theorem if_bool {b : Bool} {A B : Prop} (h1 : b = true → A) (h2 : b = false → B) : if b = true then A else B := by
  cases b with
  | true => exact iteT (h1 rfl)
  | false => exact iteF (h2 rfl)
end

/-! ### cuts: what follows is shown once -/
section
variable {X : Cx} {σ : St} {H : Hp} {D : Ends} {t u : TS}
def tCutE (te : TE) : TE := fun σ H Q => ∃ Mid : V → Hp → Prop, te σ H Mid ∧ ∀ v H', Mid v H' → Q v H'
theorem pe_cut {e : Expr} {te : TE} (h : PE X e te) : PE X e (tCutE te) := by
  refine ⟨fun pins s σ H Q I q => ?_⟩
  obtain ⟨Mid, hm, hu⟩ := q
  exact thn (h.run pins s σ H Mid I hm) fun u s1 ⟨x, H1, I1, r1, q1⟩ => ⟨x, H1, I1, r1, hu x H1 q1⟩
theorem e_cut {te : TE} {Q : VK} (Mid : V → Hp → Prop) (h : te σ H Mid) (q : ∀ v H', Mid v H' → Q v H') : tCutE te σ H Q := ⟨Mid, h, q⟩
def tCutS (t u : TS) : TS := fun D σ H => ∃ Mid : St → Hp → Prop, t { D with nx := Mid } σ H ∧ ∀ σ' H', Mid σ' H' → u D σ' H'
theorem pss_cutS {st : Stmt} {rest : List Stmt} (h1 : PS X st t) (h2 : PSs X rest u) : PSs X (st :: rest) (tCutS t u) := by
  refine ⟨fun pins s σ H D I h => ?_⟩
  obtain ⟨Mid, hm, hu⟩ := h
  refine wpAny_execs_cons (thn (h1.run pins s σ H { D with nx := Mid } I hm) fun f s1 q => ?_)
  cases f with
  | next =>
    obtain ⟨σ', H', I', q⟩ := q
    exact h2.run pins s1 σ' H' D I' (hu σ' H' q)
  | ret v => exact q
  | brk => exact q
  | cont => exact q
theorem s_cut (Mid : St → Hp → Prop) (h : t { D with nx := Mid } σ H) (q : ∀ σ' H', Mid σ' H' → u D σ' H') : tCutS t u D σ H := ⟨Mid, h, q⟩
end
section
variable {σ : St} {H : Hp} {v y : V}
theorem v_put {P : Hp → Prop} {a : Addr} {o : HO} (h : DPut H a y v (upd H a o)) (q : ∀ H', Keep a H H' → H' a = some o → P H') : ∃ a' H4, V.ref a = .ref a' ∧ DPut H a' y v H4 ∧ P H4 := ⟨a, _, rfl, h, q _ Keep.put upd_same⟩
end
/-! ### data -/
theorem dp_ints {K : PySem.W.Frag} {H : Hp} : ∀ ns : List Int, DpAll K H (ns.map V.int) (ns.map PyData.int)
  | [] => .nil
  | n :: r => .cons (.int n) (dp_ints r)
theorem dp_strs {K : PySem.W.Frag} {H : Hp} : ∀ ns : List Str, DpAll K H (ns.map V.str) (ns.map PyData.str)
  | [] => .nil
  | n :: r => .cons (.str n) (dp_strs r)
theorem lay_ints : ∀ ns : List Int, PyData.canLayAll0 (ns.map PyData.int) = true
  | [] => rfl
  | n :: r => lay_ints r
theorem lay_strs : ∀ ns : List Str, (∀ x ∈ ns, PyData.strOk x = true) → PyData.canLayAll0 (ns.map PyData.str) = true
  | [], _ => rfl
  | n :: r, h => by
    show (PyData.strOk n && PyData.canLayAll0 (r.map PyData.str)) = true
    rw [h n (List.mem_cons_self ..), lay_strs r fun x hx => h x (List.mem_cons_of_mem _ hx)]
    rfl
theorem dep_ints : ∀ ns : List Int, PyData.depthAll (ns.map PyData.int) ≤ 1
  | [] => by decide
  | n :: r => Nat.max_le.mpr ⟨by show PyData.depth (.int n) ≤ 1; simp [PyData.depth], dep_ints r⟩
theorem dep_strs : ∀ ns : List Str, PyData.depthAll (ns.map PyData.str) ≤ 1
  | [] => by decide
  | n :: r => Nat.max_le.mpr ⟨by show PyData.depth (.str n) ≤ 1; simp [PyData.depth], dep_strs r⟩
theorem shaped_ints (ns : List Int) : SeqAt.shaped (.list (ns.map PyData.int)) = true := by
  have h := dep_ints ns
  have h2 : (PyData.list (ns.map PyData.int)).depth ≤ 64 := by simp only [PyData.depth]; omega
  have h3 : (PyData.list (ns.map PyData.int)).canLay0 = true := by simp only [PyData.canLay0]; exact lay_ints ns
  simp [SeqAt.shaped, h2, h3]
theorem shaped_strs (ns : List Str) (h0 : ∀ x ∈ ns, PyData.strOk x = true) : SeqAt.shaped (.list (ns.map PyData.str)) = true := by
  have h := dep_strs ns
  have h2 : (PyData.list (ns.map PyData.str)).depth ≤ 64 := by simp only [PyData.depth]; omega
  have h3 : (PyData.list (ns.map PyData.str)).canLay0 = true := by simp only [PyData.canLay0]; exact lay_strs ns h0
  simp [SeqAt.shaped, h2, h3]
theorem shaped_strsT (ns : List Str) (h0 : ∀ x ∈ ns, PyData.strOk x = true) : SeqAt.shaped (.tuple (ns.map PyData.str)) = true := by
  have h := dep_strs ns
  have h2 : (PyData.tuple (ns.map PyData.str)).depth ≤ 64 := by simp only [PyData.depth]; omega
  have h3 : (PyData.tuple (ns.map PyData.str)).canLay0 = true := by simp only [PyData.canLay0]; exact lay_strs ns h0
  simp [SeqAt.shaped, h2, h3]
theorem shaped_nil : SeqAt.shaped (.list []) = true := shaped_ints []
theorem eqv_nil {ds : List PyData} : PyData.eqv (.list ds) (.list []) = ds.isEmpty := by
  cases ds <;> simp [PyData.eqv, PyData.eqvAll]
theorem eqvAll_strs : ∀ (a b : List Str), PyData.eqvAll (a.map PyData.str) (b.map PyData.str) = decide (a = b)
  | [], [] => by simp [PyData.eqvAll]
  | [], _ :: _ => by simp [PyData.eqvAll]
  | _ :: _, [] => by simp [PyData.eqvAll]
  | x :: a, y :: b => by
    simp only [List.map_cons, PyData.eqvAll, PyData.eqv, eqvAll_strs a b]
    by_cases e : x = y
    · subst e; simp
    · simp [e]
section
variable {H : Hp} {Q : VK} {K : PySem.W.Frag} {p q : Addr}
theorem v_neNilI {ns : List Int} (h : H p = some (.lst (ns.map V.int))) (hq : H q = some (.lst [])) (k : Q (.bl (!ns.isEmpty)) H) : rNeD K (.ref p) (.ref q) H Q := by
  refine ⟨.list (ns.map PyData.int), .list [], .lst (SqL.of h) (dp_ints ns), .lst (SqL.of hq) .nil, shaped_ints ns, shaped_nil, ?_⟩
  rw [eqv_nil, List.isEmpty_map]
  exact k
theorem v_neNilS {ns : List Str} (h : H p = some (.lst (ns.map V.str))) (h0 : ∀ x ∈ ns, PyData.strOk x = true) (hq : H q = some (.lst [])) (k : Q (.bl (!ns.isEmpty)) H) : rNeD K (.ref p) (.ref q) H Q := by
  refine ⟨.list (ns.map PyData.str), .list [], .lst (SqL.of h) (dp_strs ns), .lst (SqL.of hq) .nil, shaped_strs ns h0, shaped_nil, ?_⟩
  rw [eqv_nil, List.isEmpty_map]
  exact k
end
theorem ok_tx {l : List Nat} (h : ∀ c ∈ l, c < 1000) : PyData.strOk (tx l) = true := by
  show (l.toArray).all (fun c => decide (c < 0x110000)) = true
  rw [List.all_toArray, List.all_eq_true]
  intro c hc
  have := h c hc
  simp
  omega
theorem wdiv {i m : Int} (h : 0 < m) (h2 : m < 1000000) : CDivW i m := wide_div (b := 20) h (by omega) (by decide) (by decide)
end Cw
set_option Elab.async false
set_option linter.all false
set_option maxRecDepth 100000
set_option maxHeartbeats 4000000
/-! set(text), len(set(..)): a set of texts out of anything that is walked. -/
namespace Cw
open PySem PySem.Spec L2
/-- the different ones, in the order in which they are met -/
def metAdd (l : List Str) (z : Str) : List Str := if z ∈ l then l else l ++ [z]
def metOf (l : List Str) : List Str := l.foldl metAdd []
theorem metAdd_mem {l : List Str} {z y : Str} : y ∈ metAdd l z ↔ y ∈ l ∨ y = z := by
  unfold metAdd
  by_cases h : z ∈ l
  · rw [if_pos h]
    exact ⟨Or.inl, fun k => k.elim id fun e => e ▸ h⟩
  · rw [if_neg h, List.mem_append, List.mem_singleton]
theorem metOf_snoc (l : List Str) (z : Str) : metOf (l ++ [z]) = metAdd (metOf l) z := by
  unfold metOf
  rw [List.foldl_append]
  rfl
theorem metAdd_len (l : List Str) (z : Str) : (metAdd l z).length = if z ∈ l then l.length else l.length + 1 := by
  unfold metAdd
  split <;> simp
theorem metFold_len : ∀ (l acc : List Str), (l.foldl metAdd acc).length ≤ acc.length + l.length
  | [], acc => Nat.le_refl _
  | z :: r, acc => by
    have h1 := metFold_len r (metAdd acc z)
    have h2 := metAdd_len acc z
    rw [List.foldl_cons, List.length_cons]
    split at h2 <;> omega
theorem metOf_len (l : List Str) : (metOf l).length ≤ l.length := by
  have h := metFold_len l []
  simp only [List.length_nil, Nat.zero_add] at h
  exact h
theorem metFold_nodup : ∀ (l acc : List Str), (acc ++ l).Nodup → l.foldl metAdd acc = acc ++ l
  | [], acc, _ => by simp
  | z :: r, acc, h => by
    have hz : ¬ z ∈ acc := fun m => by
      have := (List.nodup_append.mp h).2.2 z m z (List.mem_cons_self ..)
      exact this rfl
    have e : metAdd acc z = acc ++ [z] := by unfold metAdd; rw [if_neg hz]
    rw [List.foldl_cons, e, metFold_nodup r (acc ++ [z]) (by simpa using h)]
    simp
theorem metOf_nodup {l : List Str} (h : l.Nodup) : metOf l = l := by
  unfold metOf
  rw [metFold_nodup l [] (by simpa using h)]
  rfl
/-- fewer, where one comes twice -/
theorem metFold_lt : ∀ (l acc : List Str), acc.Nodup → (¬ l.Nodup ∨ ∃ z, z ∈ l ∧ z ∈ acc) → (l.foldl metAdd acc).length < acc.length + l.length
  | [], acc, _, h => by
    rcases h with h | ⟨z, h, _⟩
    · exact absurd List.nodup_nil h
    · cases h
  | z :: r, acc, ha, h => by
    rw [List.foldl_cons, List.length_cons]
    have hl := metAdd_len acc z
    by_cases hz : z ∈ acc
    · rw [if_pos hz] at hl
      have h1 := metFold_len r (metAdd acc z)
      omega
    · rw [if_neg hz] at hl
      have e : metAdd acc z = acc ++ [z] := by unfold metAdd; rw [if_neg hz]
      have nd : (metAdd acc z).Nodup := by
        rw [e]
        exact nd_snoc ha hz
      have k : ¬ r.Nodup ∨ ∃ y, y ∈ r ∧ y ∈ metAdd acc z := by
        rcases h with h | ⟨y, h1, h2⟩
        · rw [List.nodup_cons] at h
          by_cases hr : z ∈ r
          · exact Or.inr ⟨z, hr, by rw [e]; simp⟩
          · exact Or.inl fun n => h ⟨hr, n⟩
        · rcases List.mem_cons.mp h1 with q | q
          · exact absurd (q ▸ h2) hz
          · exact Or.inr ⟨y, q, by rw [e]; simp [h2]⟩
      have h1 := metFold_lt r (metAdd acc z) nd k
      omega
theorem metOf_lt {l : List Str} (h : ¬ l.Nodup) : (metOf l).length < l.length := by
  have k := metFold_lt l [] List.nodup_nil (Or.inl h)
  simp only [List.length_nil, Nat.zero_add] at k
  exact k
/-- the set at a holds just the texts of l -/
abbrev SetIs (P : Program) (w : World) (h : Heap) (a : Addr) (l : List Str) : Prop := h.SetOf (PySem.strKind P w) a (fun z => decide (z ∈ l)) l.length
theorem SetIs.at {P : Program} {w : World} {h h' : Heap} {a : Addr} {l : List Str} (R : SetIs P w h a l) (k : ∀ o, h.get? a = some o → h'.get? a = some o) : SetIs P w h' a l := by
  obtain ⟨o, es, ep, t, ho, r⟩ := R
  exact ⟨o, es, ep, t, k o ho, r⟩
section
variable {P : Program} {w : World} {A : Around} {R : Result → Shared → Prop} {J : Addr} {fp wr : List Addr} {n : Nat} {Y : Nat → Value → Prop} {St : Nat → Heap → Prop}
theorem set_loop (W : Walks P w A.in1 J fp wr n Y St) (S : Addr) (hS : S ∉ fp) (xs : List Str) (hn : xs.length = n) (hy : ∀ i v, Y i v → ∃ x t, xs[i]? = some x ∧ v = .str x t) (hb : n + 1 < scanBound) :
    ∀ (k i : Nat) (s : Shared), n - i = k → i ≤ n → St i s.heap → SetIs P w s.heap S (metOf (xs.take i)) →
      (∀ h' tk, (∀ b o, b ∉ S :: wr → s.heap.get? b = some o → h'.get? b = some o) → SetIs P w h' S (metOf xs) → R (.ok (.ret .none)) { s with heap := h', toks := tk }) →
      codeAny (model P w) A (.builtin "set.update.loop" ⟨[.ref S, .ref J], []⟩) R s := by
  have hw : S ∉ wr := fun h => hS (W.sub _ h)
  intro k
  induction k with
  | zero =>
    intro i s hk hi st hset q
    have e : i = n := by omega
    subst e
    refine codeAny_builtin PyProof.Rows.F.entry_set_update_loop ?_
    rw [Around.under_plainId PyProof.Rows.F.plain_set_update_loop _]
    show wpAny _ A.in1 (pyNext (.ref J) >>= _) _ _ s
    refine wpAny_bind (W.done s _ _ st fun h' tk kp => ?_)
    show wpAny _ A.in1 (ret Value.none) _ _ _
    refine wpAny_pure (q h' tk (fun b o nb eb => kp b o (fun z => nb (List.mem_cons_of_mem _ z)) eb) ?_)
    rw [List.take_of_length_le (by omega)] at hset
    exact hset.at fun o eo => kp S o hw eo
  | succ k ih =>
    intro i s hk hi st hset q
    have hlt : i < n := by omega
    refine codeAny_builtin PyProof.Rows.F.entry_set_update_loop ?_
    rw [Around.under_plainId PyProof.Rows.F.plain_set_update_loop _]
    show wpAny _ A.in1 (pyNext (.ref J) >>= _) _ _ s
    refine wpAny_bind (W.item i s _ _ hlt st fun v h1 tk hv st1 kp => ?_)
    obtain ⟨x, t, hx, rfl⟩ := hy i v hv
    have hset1 := hset.at (h' := h1) fun o eo => kp S o hw eo
    show wpAny _ A.in1 (holding [Value.str x t] (setAdd S (.str x t)) >>= _) _ _ _
    refine wpAny_bind (wpAny_holding ?_)
    unfold setAdd
    refine wpAny_holding (wpAny_bind ((PySem.strKind P w).pyHash (k := x) (strKind_is _ _ _ _) ?_))
    have hroom : (metOf (xs.take i)).length + 1 < scanBound := by
      have h2 := metOf_len (xs.take i)
      rw [List.length_take] at h2
      omega
    refine wpAny_setAddHashed_of (knd := PySem.strKind P w) (s := { heap := h1, gens := s.gens, drawn := s.drawn, toks := tk + 1, os := s.os }) (strKind_is _ _ _ _) rfl hset1 hroom fun h2 sb hset2 => ?_
    have e1 : xs.take (i + 1) = xs.take i ++ [x] := by
      rw [List.take_add_one, hx]
      rfl
    have hset3 : SetIs P w h2 S (metOf (xs.take (i + 1))) := by
      refine PyProof.Rows.SetOf_congr hset2 (fun z => ?_) ?_
      · rw [e1, metOf_snoc, Bool.eq_iff_iff]
        simp only [Bool.or_eq_true, decide_eq_true_eq]
        exact metAdd_mem.symm
      · rw [e1, metOf_snoc, metAdd_len]
        simp only [decide_eq_true_eq]
    refine wpAny_pure ⟨plainId_quiet PyProof.Rows.F.plain_set_update_loop _, ih (i + 1) _ (by omega) hlt (W.frame _ _ _ st1 fun b hb o eo => ?_) hset3 fun h3 tk3 kp3 hs3 => ?_⟩
    · rw [sb.2 b fun z => hS (z ▸ hb)]
      exact eo
    · refine q h3 tk3 (fun b o nb eb => kp3 b o nb ?_) hs3
      show h2.get? b = some o
      rw [sb.2 b fun z => nb (z ▸ List.mem_cons_self ..)]
      exact kp b o (fun z => nb (List.mem_cons_of_mem _ z)) eb
end

/-! ### the call -/
abbrev freshSet (b : Bool) : Obj := { cls := .type "set", dict := none, data := .set #[] 0 (.fresh 0 0 b) }
section
variable {P : Program} {w : World} {A : Around} {E : Value → Shared → Prop} {s : Shared}
theorem set_of_text {x : Str} {t : Tok} {Q : Value → Shared → Prop} (hh : A.handled = none) (hb : x.cps.size + 1 < scanBound)
    (h : ∀ (h' : Heap) (tk : Nat), SetIs P w h' s.heap.objs.size (metOf (x.cps.toList.map fun c => (⟨#[c]⟩ : Str))) → (∀ b o, b < s.heap.objs.size → s.heap.get? b = some o → h'.get? b = some o) → Q (.ref s.heap.objs.size) { s with heap := h', toks := tk }) :
    wpAny (model P w) A (call (.type "set") [.str x t]) Q E s := by
  obtain ⟨c, tl, hmro⟩ := PySem.F.called_set.mro
  have hmade := PySem.F.called_set.made
  have hsub := PySem.F.called_set.sub
  refine wpAny_call (codeAny_of_tree ?_)
  show wpAny _ _ (callAny (.type "set") _) _ _ _
  refine wpAny_pure ⟨Code.quiet_builtin _ (by decide +kernel), codeAny_builtin PySem.F.entry_type_call ?_⟩
  rw [Around.under_plain (weight_type_call_type "set" [.str x t] []) rfl]
  have h1 := PySem.F.called_set.notType
  have h2 := PySem.F.called_set.canCreate
  have hct := PySem.F.typeCall_set_1 (.str x t)
  repeat (any_goals (first | assumption | wp_step))
  refine codeAny_mono (code_set_new_1 (.str x t) (E := E) (Q₁ := fun obj s1 => ∃ b : Bool, obj = .ref s.heap.objs.size ∧ s1 = { s with heap := s.heap.push (freshSet b) }) fun b => ⟨b, rfl, rfl⟩) fun r s1 hr => ?_
  cases r with
  | error e => exact hr
  | ok fl =>
    cases fl with
    | ret obj =>
      obtain ⟨b, rfl, rfl⟩ := hr
      have hS : (s.heap.push (freshSet b)).get? s.heap.objs.size = some (freshSet b) := Heap.get?_push_size _ rfl
      have hT : Shared.TypeIs { s with heap := s.heap.push (freshSet b) } (.ref s.heap.objs.size) "set" := ⟨_, hS, rfl⟩
      have hli := PySem.F.called_set.init.lookup
      have hbi := PySem.F.called_set.init.bind (.ref s.heap.objs.size)
      repeat (any_goals (first | assumption | wp_step))
      refine codeAny_mono (codeAny_call_builtin (R := wants (fun r s2 => r = .none ∧ ∃ h' tk, s2 = { s with heap := h', toks := tk } ∧ SetIs P w h' s.heap.objs.size (metOf (x.cps.toList.map fun c => (⟨#[c]⟩ : Str))) ∧
          (∀ b o, b < s.heap.objs.size → s.heap.get? b = some o → h'.get? b = some o)) E) PySem.F.called_set.init.plain PySem.F.entry_set_init (check_set_init_1 hT ?_)) fun r2 s2 hr2 => ?_
      · have k1 := F.sub_str_set
        have k2 := F.sub_str_frozenset
        have k3 : (Value.type "str" == Value.type "dict") = false := by decide
        unfold Builtin.«set.__init__» noKeywords Builtin.Frozenset.updateFrom
        generalize hPI : pyIter = PI
        wp_walk
        subst hPI
        refine wpAny_pyIter_str fun ob St hw st => ?_
        refine wpAny_bind (wpAny_runValue ?_)
        have hh3 : A.in1.in1.in1.handled = none := by simp [hh]
        have hne : s.heap.objs.size ∉ [(s.heap.push (freshSet b)).objs.size] := by
          rw [Heap.size_push, List.mem_singleton]
          exact Nat.ne_of_lt (Nat.lt_succ_self _)
        refine set_loop (hw _ hh3) s.heap.objs.size hne (x.cps.toList.map fun c => (⟨#[c]⟩ : Str)) (by simp) (fun i v hv => ?_) hb _ 0 _ rfl (Nat.zero_le _) st ?_ fun h' tk kp hs => ?_
        · obtain ⟨c, u, hc, rfl⟩ := hv
          exact ⟨⟨#[c]⟩, u, by simp [hc], rfl⟩
        · have hg : ((s.heap.push (freshSet b)).push ob).get? s.heap.objs.size = some (freshSet b) := Heap.get?_push_of_some _ hS
          exact PyProof.Rows.SetOf_congr ((PyProof.Rows.setObjOf_fresh (knd := PySem.strKind P w) b).setOf hg (by unfold scanBound; omega)) (fun z => by simp [metOf]) rfl
        · refine wpAny_pure ?_
          show wpAny _ _ (ret Value.none) _ _ _
          refine wpAny_pure ⟨rfl, h', tk, rfl, hs, fun a o ha eo => kp a o ?_ (Heap.get?_push_of_some _ (Heap.get?_push_of_some _ eo))⟩
          rw [Heap.size_push]
          simp only [List.mem_cons, List.not_mem_nil, or_false, not_or]
          exact ⟨Nat.ne_of_lt ha, Nat.ne_of_lt (Nat.lt_succ_of_lt ha)⟩
      · cases r2 with
        | error e => exact hr2
        | ok fl2 =>
          cases fl2 with
          | ret r =>
            obtain ⟨rfl, h', tk, rfl, hs', hk'⟩ := hr2
            repeat (any_goals (first | assumption | wp_step))
            exact h _ _ hs' hk'
          | _ => exact hr2.elim
    | _ => exact hr.elim
end
/-! ### over the layer -/
/-- a set of texts -/
def SetT (P : Program) (w : World) (a : Addr) (l : List Str) : HO := .ext fun h => SetIs P w h a l
theorem setT_new {P : Program} {w : World} {H : Hp} {h : Heap} {a : Addr} {l : List Str} (R : SetIs P w h a l) : ObjOk P w H h a (SetT P w a l) := by
  have ⟨o, _, _, _, ho, _⟩ := R
  exact ⟨R, ⟨o, ho⟩, fun h1 h2 q k => SetIs.at q k⟩
def rSetTx (P : Program) (w : World) : List V → Hp → VK → Prop := fun xs H Q => ∃ l : List Nat, xs = [.str (tx l)] ∧ l.length + 1 < scanBound ∧ ∀ p, H p = none → Q (.ref p) (upd H p (SetT P w p (metOf (l.map fun c => tx [c]))))
def rLenSet (P : Program) (w : World) : List V → Hp → VK → Prop := fun xs H Q => ∃ (p : Addr) (l : List Str), xs = [.ref p] ∧ H p = some (SetT P w p l) ∧ Q (.int l.length) H
section
variable {X : Cx}
theorem c_setS (hc : X.calm = true) : CallR X (.type "set") (rSetTx X.prog X.w) := by
  intro pins s σ H xs us Q I r h
  obtain ⟨l, rfl, hl, q⟩ := h
  obtain ⟨u, rfl, t, rfl⟩ := vals1 r
  refine set_of_text (I.ok.hd hc) (by simpa using hl) fun h' tk hs hk => ?_
  have hp : H s.heap.objs.size = none := I.hok.fresh (Nat.le_refl _)
  refine ⟨.ref s.heap.objs.size, upd H s.heap.objs.size (SetT X.prog X.w s.heap.objs.size (metOf (l.map fun c => tx [c]))), I.laid (h' := h') (t' := tk) (fun b o e => hk b o (Heap.lt_size e) e) (Nat.le_refl _) (setT_new ?_), rfl, q _ hp⟩
  simpa using hs
theorem c_lenSet : CallR X (.builtin "len") (rLenSet X.prog X.w) := by
  intro pins s σ H xs us Q I r h
  obtain ⟨p, l, rfl, hp, q⟩ := h
  obtain ⟨u, rfl, ru⟩ := vals1 r
  cases ru
  have hs : SetIs X.prog X.w s.heap p l := (I.hok p _ hp).1
  obtain ⟨o, es, ep, t, ho, hex, hd, h1, h2, h3, hf, hn⟩ := hs
  refine call_len_set ho hex hd hf ?_ ⟨.int l.length, H, I.tok _, ⟨_, by rw [hn]⟩, q⟩
  have : es.size < scanBound := h3
  unfold scanBound at this
  omega
end
theorem v_setS {P : Program} {w : World} {H : Hp} {Q : VK} {l : List Nat} (h : l.length < 1000) (q : ∀ p H', H p = none → Same H H' → H' p = some (SetT P w p (metOf (l.map fun c => tx [c]))) → Q (.ref p) H') : rSetTx P w [.str (tx l)] H Q :=
  ⟨l, rfl, by unfold scanBound; omega, fun p hp => q p _ hp (Same.new hp) upd_same⟩
theorem v_lenSet {P : Program} {w : World} {H : Hp} {Q : VK} {p : Addr} {l : List Str} (h : H p = some (SetT P w p l)) (q : Q (.int l.length) H) : rLenSet P w [.ref p] H Q := ⟨p, l, rfl, h, q⟩
end Cw
set_option Elab.async false
set_option linter.all false
set_option maxRecDepth 100000
set_option maxHeartbeats 4000000
/-! operators of classes of one's own -/
namespace PySem.W
open PySem PySem.Calls PyProof.Rows Builtin
section
variable {prog : Program} {w : World} {A : Around} {E : Value → Shared → Prop} {s : Shared} {K : Frag} {x C L f : Addr} {h0 : Heap} {m : Str → Option Value} {ox : Obj} {od : Option Obj} {b tb : Value}
theorem ifBound_obj {M : Model} {args : List Value} {name : Str} {id : String} {Q : Option Value → Shared → Prop} (X : K.In s.heap) (I : InstAt s.heap x ox C od) (hs : findIn K (.ref C) name = some (some (.builtin id)))
    (hbd : ∀ v, bindSpecial (.builtin id) v = pure (.builtin id, [v])) (h : wpAny M A (call (.builtin id) (.ref x :: args)) (fun v => Q (some v)) E s) : wpAny M A (callSpecialIfBound? (.ref x) name args) Q E s := by
  simp only [callSpecialIfBound?, bindSpecialIfBound?]
  refine wpAny_holding (wpAny_bind (wpAny_bind (wpAny_bind (I.type.here ((looks_findIn X hs).here ?_)))))
  have e := hbd (.ref x)
  simp only [e]
  have k : wpAny M A (call (.builtin id) ([.ref x] ++ args) >>= fun v => pure (some v)) Q E s := wpAny_bind (wpAny_mono h (fun _ _ z => wpAny_pure z) fun _ _ z => z)
  refine wpAny_bind (wpAny_askSetting (wpAny_ite ?_))
  split
  · exact wpAny_bind (wpAny_pure (wpAny_pure k))
  · exact wpAny_tryCatch (wpAny_bind (wpAny_pure (wpAny_pure k)))
theorem check_obj {M : Model} {id owner n : String} {rest : List Value} {Q : Unit → Shared → Prop} (X : K.In s.heap) (I : InstAt s.heap x ox C od) (hk : builtinKind id = some .slot) (hs : splitId id = some (owner, n))
    (ha : argsOk id ⟨.ref x :: rest, []⟩) (ho : subIn K (.ref C) (.type owner) = some true) (q : Q () s) : wpAny M A (checkBuiltinCall id ⟨.ref x :: rest, []⟩) Q E s := by
  simp only [checkBuiltinCall, hk, hs]
  unfold isInstance
  refine wpAny_bind (wpAny_bind (I.type.here ((looks_subIn X ho).here ?_)))
  rw [if_neg (by simp)]
  cases hsig : Manifest.signature? id with
  | none => exact wpAny_pure q
  | some sig =>
    simp only [argsOk, hsig] at ha
    have h2 : Bind.checkArgs id sig ⟨.ref x :: rest, []⟩ = pure () := ha
    show wpAny M A (Bind.checkArgs id sig ⟨.ref x :: rest, []⟩) Q E _
    rw [h2]
    exact wpAny_pure q
theorem neBody (X : K.In s.heap) (I : InstAt s.heap x ox C od) (hu : A.units < cLine) (hs : findIn K (.ref C) "__eq__" = some (some (.ref f))) (hf : isFn K (.ref f) = true) {Q : Fin → Shared → Prop}
    (h : wpAny (model prog w) A (call (.ref f) [.ref x, b]) (fun v s' => ∃ r, v = .bool r ∧ Q (.done (.ret (.bool (!r)))) s') E s) : wpAny (model prog w) A (Builtin.«object.__ne__» ⟨[.ref x, b], []⟩) Q E s := by
  unfold Builtin.«object.__ne__»
  refine wpAny_bind (m := slotArgs "__ne__" 1 _) (wpAny_pure ?_)
  refine wpAny_bind (wpAny_cRoomFor hu ?_)
  refine wpAny_bind (m := callSpecialIfBound? (.ref x) (Str.ofString "__eq__") [b]) (ifBound_K X I hs hf (wpAny_mono h (fun v s' z => ?_) fun _ _ z => z))
  obtain ⟨r, rfl, z⟩ := z
  exact wpAny_bind (wpAny_truthy_bool (wpAny_pure z))
/-- != of an object whose class has its own == and no != -/
theorem ne_own {Q : Value → Shared → Prop} (hu : A.units + 1 < cLine) (F : Fr h0 L s.heap m) (X0 : K.In h0) (I : InstAt s.heap x ox C od) (hb : Looks (model prog w) s.heap (typeOf b) tb) (hn : notFirst K C tb = true)
    (hne : findIn K (.ref C) "__ne__" = some (some (.builtin "object.__ne__"))) (ho : subIn K (.ref C) (.type "object") = some true) (hs : findIn K (.ref C) "__eq__" = some (some (.ref f))) (hf : isFn K (.ref f) = true)
    (h : wpAny (model prog w) A.in1 (call (.ref f) [.ref x, b]) (fun v s' => ∃ r, v = .bool r ∧ Q (.bool (!r)) s') E s) : wpAny (model prog w) A (richCompare .NotEq (.ref x) b) Q E s := by
  have X := X0.keeps F.keep
  have pl : plainId "object.__ne__" = true := by decide +kernel
  have one : wpAny (model prog w) A (tryCompare (.ref x) (cmpInfo .NotEq).2.1 b) (fun r s' => ∃ v, r = some v ∧ Q v s') E s := by
    unfold tryCompare
    refine wpAny_bind (ifBound_obj X I (id := "object.__ne__") hne (fun v => ?_) ?_)
    · exact (PySem.F.slot_tuple_iterator_ne).bind v
    · refine wpAny_call (codeAny_call_builtin pl PySem.F.cmpEntry_ne (check_obj X I PySem.F.cmpKind_ne PySem.F.cmpSplit_ne (PySem.F.cmpArgs_ne _ _) ho ?_))
      refine neBody (A := A.in1) X I hu hs hf (wpAny_mono h (fun v s' z => ?_) fun _ _ z => z)
      obtain ⟨r, rfl, z⟩ := z
      exact ⟨r, rfl, wpAny_pure ⟨_, rfl, z⟩⟩
  unfold richCompare
  simp only [oneThing_ref]
  refine wpAny_holding (wpAny_bind (wpAny_cRoomFor (Nat.lt_of_succ_lt hu) ?_))
  refine wpAny_bind (I.type.here (wpAny_bind (hb.here ?_)))
  have k : ∀ z : Bool, z = false → wpAny (model prog w) A (tryCompare (.ref x) (cmpInfo .NotEq).2.1 b) (fun r s' => ∃ v, r = some v ∧ Q v s') E s := fun _ _ => one
  split
  · rename_i q
    have e : subIn K tb (.ref C) = some false := by
      rcases Bool.or_eq_true_iff.mp hn with e | e
      · rw [beq_iff_eq.mp e] at q; simp at q
      · exact beq_iff_eq.mp e
    refine wpAny_bind ((looks_subIn X e).here ?_)
    simp only [Bool.false_eq_true, if_false]
    refine wpAny_bind (wpAny_mono one (fun r s' z => ?_) fun _ _ e => e)
    obtain ⟨v, rfl, z⟩ := z
    exact wpAny_pure z
  · refine wpAny_bind (wpAny_pure ?_)
    simp only [Bool.false_eq_true, if_false]
    refine wpAny_bind (wpAny_mono one (fun r s' z => ?_) fun _ _ e => e)
    obtain ⟨v, rfl, z⟩ := z
    exact wpAny_pure z
end
end PySem.W
set_option Elab.async false
set_option linter.all false
set_option maxRecDepth 100000
set_option maxHeartbeats 4000000
namespace Cw
open PySem PySem.Spec L2
/-! ### methods -/
structure MAt (K : PySem.W.Frag) (C : Addr) (m qual : Str) (st : Stmt) : Prop where
  ex : ∃ f fd, PySem.W.findIn K (.ref C) m = some (some (.ref f)) ∧ PySem.W.isFn K (.ref f) = true ∧ Fun K m qual st f fd
structure MDef (P : Program) (w : World) (K : PySem.W.Frag) (mg : Str → Option Value) (base : Heap) (CX : CXT) (k : Nat) (C : Addr) (m : Str) (ps : List Str) (sp : Sp) : Prop where
  ex : ∃ f fd, PySem.W.findIn K (.ref C) m = some (some (.ref f)) ∧ PySem.W.isFn K (.ref f) = true ∧ PySem.W.keepIn K (.ref f) = true ∧ Bd K f fd ps ∧ FnOk P w K mg base CX k f fd ps sp
section
variable {P : Program} {w : World} {K : PySem.W.Frag} {mg : Str → Option Value} {base : Heap} {CX : CXT} {k : Nat} {C : Addr} {m qual : Str} {ps N : List Str} {sp : Sp} {st : Stmt}
theorem MDef.mono {j : Nat} (D : MDef P w K mg base CX j C m ps sp) (h : j ≤ k) : MDef P w K mg base CX k C m ps sp := by
  obtain ⟨f, fd, a, b, c, d, e⟩ := D.ex
  exact ⟨f, fd, a, b, c, d, e.mono h⟩
theorem MDef.imp {sp' : Sp} (D : MDef P w K mg base CX k C m ps sp) (h : ∀ vs H Q E, sp' vs H Q E → sp vs H Q E) : MDef P w K mg base CX k C m ps sp' := by
  obtain ⟨f, fd, a, b, c, d, e⟩ := D.ex
  exact ⟨f, fd, a, b, c, d, e.imp h⟩
theorem MAt.ok (F : MAt K C m qual st) (S : FnScope N ps (defScope st))
    (hb : ∀ (kV doc pm : Value) (an : Option Addr) (cdv ct : Value) (us : List Value), us.length = ps.length → bindArgs (PySem.W.fnOf m qual (defArgs st) (defBody st) (defScope st) .none kV doc pm an cdv ct) ⟨us, []⟩ = pure (ps.zip us))
    (len : ∀ vs H Q E, sp vs H Q E → vs.length = ps.length)
    (hbody : ∀ (f : Addr) (cdv : Value) (A : Around) (outer : List Env) (s : Shared) (H : Hp) (vs : List V) (Q : VK) (E : XK), Room k (A.deeper (PyProof.Rows.envOfC qual (defScope st) s.heap.objs.size f cdv)) → sp vs H Q E →
      ∃ t, PSs (cxOf CX0 P w K mg base N qual (defScope st) f cdv A outer s H E).nox (defBody st) t ∧ t { nx := fun _ H' => Q .non H', rt := Q } (start N vs) H) : MDef P w K mg base CX0 (k + 1) C m ps sp := by
  obtain ⟨f, fd, h1, h2, F⟩ := F.ex
  exact ⟨f, fd, h1, h2, F.kp, ⟨F.binds hb, funLk F⟩, F.ok S len fun cdv A outer s H vs Q E hr h => hbody f cdv A outer s H vs Q E hr h⟩
theorem MAt.okX (F : MAt K C m qual st) (S : FnScope N ps (defScope st))
    (hb : ∀ (kV doc pm : Value) (an : Option Addr) (cdv ct : Value) (us : List Value), us.length = ps.length → bindArgs (PySem.W.fnOf m qual (defArgs st) (defBody st) (defScope st) .none kV doc pm an cdv ct) ⟨us, []⟩ = pure (ps.zip us))
    (len : ∀ vs H Q E, sp vs H Q E → vs.length = ps.length)
    (hbody : ∀ (f : Addr) (cdv : Value) (A : Around) (outer : List Env) (s : Shared) (H : Hp) (vs : List V) (Q : VK) (E : XK), Room k (A.deeper (PyProof.Rows.envOfC qual (defScope st) s.heap.objs.size f cdv)) → sp vs H Q E →
      ∃ t, PSs (cxOf (L2.CX P w) P w K mg base N qual (defScope st) f cdv A outer s H E) (defBody st) t ∧ t { nx := fun _ H' => Q .non H', rt := Q } (start N vs) H) : MDef P w K mg base (L2.CX P w) (k + 1) C m ps sp := by
  obtain ⟨f, fd, h1, h2, F⟩ := F.ex
  exact ⟨f, fd, h1, h2, F.kp, ⟨F.binds hb, funLk F⟩, F.okX S len fun cdv A outer s H vs Q E hr h => hbody f cdv A outer s H vs Q E hr h⟩
end
section
variable {X : Cx} {CX : CXT} {k : Nat} {C : Addr} {m : Str} {ps : List Str} {sp : Sp} {E : XK} {pos apos : PySem.Pos} {o e : Expr} {es : List Expr} {ta : TE} {t : TA}
theorem pe_md {pl : Sem Bool} (D : MDef X.prog X.w X.K X.mg X.base CX k C m ps sp) (c : Cls X.K C) (hr : Room k X.A) (hx : Passes CX X E) (he : PE X o ta) (ha : PA X (e :: es) t)
    (hst : starEach (e :: es) X.env = (false, eval e X.env) :: starEach es X.env := by rfl) (hpl : (backTo pos (starEach es X.env)).any (·.1) = false := by rfl)
    (ht : eval (.Call (.Attribute o m apos) (e :: es) [] pos) X.env = (do
      let ov ← eval o X.env
      standAt apos.atName
      let (f, first) ← holding [ov] (getMethod ov m pl)
      callWith pos f first (backTo pos (starEach (e :: es) X.env)) (backToKw pos (keywordEach [] X.env))) := by rfl) :
    PE X (.Call (.Attribute o m apos) (e :: es) [] pos) (tMeth C m sp [] E ta t) := by
  obtain ⟨f, fd, a, b, kp, ⟨d, _⟩, g⟩ := D.ex
  exact pe_meth (pl := pl) he c ⟨a, b, kp⟩ g hr d .nil hx ha hst hpl ht
/-- two instances of the class at C, by its own operator -/
def rM2 (C : Addr) (sp : Sp) (E : XK) : R2 := fun x y H Q => ∃ a b dx dy fs gs, x = .ref a ∧ y = .ref b ∧ H a = some (.ins C dx fs) ∧ H b = some (.ins C dy gs) ∧ sp [.ref a, .ref b] H Q E
def rM2n (C : Addr) (sp : Sp) (E : XK) : R2 := fun x y H Q => ∃ a b dx dy fs gs, x = .ref a ∧ y = .ref b ∧ H a = some (.ins C dx fs) ∧ H b = some (.ins C dy gs) ∧ sp [.ref a, .ref b] H (fun v H' => ∃ r, v = .bl r ∧ Q (.bl (!r)) H') E
theorem op_cmpM {op : CmpOp} (hop : ∀ u v, compareOp op u v = richCompare op u v) (D : MDef X.prog X.w X.K X.mg X.base CX k C (cmpInfo op).2.1 ps sp) (hr : Room k X.A) (hx : Passes CX X E) : OpR X (compareOp op) (rM2 C sp E) := by
  obtain ⟨f, fd, h1, h2, kp, ⟨hb, _⟩, F⟩ := D.ex
  intro pins s σ H x y v u Q I rx ry h
  obtain ⟨a, b, dx, dy, fs, gs, rfl, rfl, ha, hb', hq⟩ := h
  cases rx
  cases ry
  obtain ⟨mA, J, _⟩ := ins_get I.hok ha
  obtain ⟨mB, J', _⟩ := ins_get I.hok hb'
  obtain ⟨od, J, _⟩ := J.look
  obtain ⟨od', J', _⟩ := J'.look
  obtain ⟨mm, hF⟩ := I.fr
  rw [hop]
  refine PySem.W.cmp_K (op := op) (tb := .ref C) hr.units0 hF I.ok.mod.kin J J'.type (by simp [PySem.W.notFirst]) h1 h2 ?_
  have z := run_fn (us := [.ref a, .ref b]) (vs := [.ref a, .ref b]) (dvs := []) F hr hb .nil hx I (.cons rfl (.cons rfl .nil)) hq
  refine wpAny_mono z (fun v s' q => ?_) fun _ _ q => q
  obtain ⟨y, H', I', r, q⟩ := q
  have k : EP X pins σ Q v s' := ⟨y, H', I', r, q⟩
  cases v <;> first | exact k | (exfalso; cases y <;> first | (obtain ⟨_, r⟩ := r; cases r) | cases r)
theorem op_neM (D : MDef X.prog X.w X.K X.mg X.base CX k C "__eq__" ps sp) (hne : PySem.W.findIn X.K (.ref C) "__ne__" = some (some (.builtin "object.__ne__"))) (ho : PySem.W.subIn X.K (.ref C) (.type "object") = some true)
    (hr : Room (k + 1) X.A) (hx : Passes CX X E) : OpR X (compareOp .NotEq) (rM2n C sp E) := by
  obtain ⟨f, fd, h1, h2, kp, ⟨hb, _⟩, F⟩ := D.ex
  intro pins s σ H x y v u Q I rx ry h
  obtain ⟨a, b, dx, dy, fs, gs, rfl, rfl, ha, hb', hq⟩ := h
  cases rx
  cases ry
  obtain ⟨mA, J, _⟩ := ins_get I.hok ha
  obtain ⟨mB, J', _⟩ := ins_get I.hok hb'
  obtain ⟨od, J, _⟩ := J.look
  obtain ⟨od', J', _⟩ := J'.look
  obtain ⟨mm, hF⟩ := I.fr
  show wpAny (model X.prog X.w) X.A (richCompare .NotEq _ _) _ _ _
  refine PySem.W.ne_own (tb := .ref C) (hu_of hr) hF I.ok.mod.kin J J'.type (by simp [PySem.W.notFirst]) hne ho h1 h2 ?_
  have hl := F.len _ _ _ _ hq
  have r2 : Vals [V.ref a, V.ref b] [Value.ref a, Value.ref b] := .cons rfl (.cons rfl .nil)
  refine wpAny_call (codeAny_mono (F.run X.A.in1 X.stack s H ⟨[.ref a, .ref b], []⟩ [.ref a, .ref b] [.ref a, .ref b] _ E hr.in1 I.env0.in1 (by
    have := hb s [.ref a, .ref b] I.kIn (by simpa using hl)
    simpa using this) r2 hq) fun r s' hq => ?_)
  cases r with
  | error e => exact hx pins σ H s e s' I hq
  | ok fl =>
    cases fl with
    | ret w =>
      obtain ⟨z, H', I', rz, r, ez, q⟩ := I.after hq
      subst ez
      cases rz
      exact ⟨r, rfl, ⟨.bl (!r), H', I', rfl, q⟩⟩
    | next => exact False.elim hq
    | brk => exact False.elim hq
    | cont => exact False.elim hq
/-- len(o) -/
def rLenM (C : Addr) (sp : Sp) (E : XK) : List V → Hp → VK → Prop := fun xs H Q => ∃ a dx fs, xs = [.ref a] ∧ H a = some (.ins C dx fs) ∧ sp [.ref a] H (fun v H' => ∃ n : Nat, v = .int n ∧ n < 1000000 ∧ Q (.int n) H') E
end
section
variable {C : Addr} {sp : Sp} {E : XK} {H : Hp} {Q : VK} {a b dx dy : Addr} {fs gs : List (Str × V)}
theorem v_M2 (ha : H a = some (.ins C dx fs)) (hb : H b = some (.ins C dy gs)) (q : sp [.ref a, .ref b] H Q E) : rM2 C sp E (.ref a) (.ref b) H Q := ⟨a, b, dx, dy, fs, gs, rfl, rfl, ha, hb, q⟩
theorem v_M2n (ha : H a = some (.ins C dx fs)) (hb : H b = some (.ins C dy gs)) (q : sp [.ref a, .ref b] H (fun v H' => ∃ r, v = .bl r ∧ Q (.bl (!r)) H') E) : rM2n C sp E (.ref a) (.ref b) H Q := ⟨a, b, dx, dy, fs, gs, rfl, rfl, ha, hb, q⟩
theorem v_lenM (ha : H a = some (.ins C dx fs)) (q : sp [.ref a] H (fun v H' => ∃ n : Nat, v = .int n ∧ n < 1000000 ∧ Q (.int n) H') E) : rLenM C sp E [.ref a] H Q := ⟨a, dx, fs, rfl, ha, q⟩
end
end Cw
set_option Elab.async false
set_option linter.all false
set_option maxRecDepth 100000
set_option maxHeartbeats 4000000
namespace Cw
open PySem PySem.Spec L2
/-! ### texts as lists of codes: operators -/
def rTAdd : R2 := fun x y H Q => ∃ a b : List Nat, x = .str (tx a) ∧ y = .str (tx b) ∧ a.length + b.length ≤ 1000000 ∧ Q (.str (tx (a ++ b))) H
def rTMul : R2 := fun x y H Q => ∃ (a : List Nat) (n : Int), x = .str (tx a) ∧ y = .int n ∧ n < 1000000 ∧ -1000000 < n ∧ a.length * n.toNat ≤ 1000000 ∧ Q (.str (tx (List.replicate n.toNat a).flatten)) H
def rTLt : R2 := fun x y H Q => ∃ a b : List Nat, x = .str (tx a) ∧ y = .str (tx b) ∧ Q (.bl (decide (a < b))) H
theorem rep_cps (x : Array Nat) : ∀ (n : Nat) (acc : Array Nat), (List.replicate n x).foldl (· ++ ·) acc = acc ++ (List.replicate n x.toList).flatten.toArray
  | 0, acc => by simp
  | n + 1, acc => by
    rw [List.replicate_succ, List.foldl_cons, rep_cps x n, List.replicate_succ, List.flatten_cons]
    apply Array.ext'
    simp
section
variable {X : Cx}
theorem op_addS : OpR X (binaryOp .Add) rTAdd := by
  intro pins s σ H x y v u Q I rx ry h
  obtain ⟨a, b, rfl, rfl, hl, q⟩ := h
  refine op_add_str pins s σ H _ _ v u Q I rx ry ⟨tx a, tx b, rfl, rfl, ?_, ?_⟩
  · rw [tx_len, tx_len]; exact szl hl
  · rw [tx_app]; exact q
theorem op_mulS : OpR X (binaryOp .Mult) rTMul := by
  intro pins s σ H x y v u Q I rx ry h
  obtain ⟨a, n, rfl, rfl, h1, h2, h3, q⟩ := h
  obtain ⟨t, rfl⟩ := rx
  obtain ⟨t', rfl⟩ := ry
  have hx : (tx a).length = a.length := tx_len a
  have fin : ∀ (z : Str) (s' : Shared) (tk : Tok), z = tx (List.replicate n.toNat a).flatten → Inv X pins σ H s' → EP X pins σ Q (.str z tk) s' := fun z s' tk e I' => ⟨.str z, H, I', ⟨tk, rfl⟩, by rw [e]; exact q⟩
  have len : (List.replicate n.toNat a).flatten.length = a.length * n.toNat := by simp [Nat.mul_comm]
  refine PySem.P.mul_str ?_ ?_ ?_ ?_
  · have e1 : ¬ n < -(2 ^ 63 : Int) := by omega
    have e2 : ¬ n ≥ 2 ^ 63 := by omega
    rw [decide_eq_false e1, decide_eq_false e2]; rfl
  · intro hn _
    rw [hx]
    have e0 : (a.length : Int) ≤ a.length * n.toNat := by
      have : 1 ≤ n.toNat := by omega
      have := Nat.le_mul_of_pos_right a.length (show 0 < n.toNat by omega)
      omega
    have e1 : (a.length : Int) ≤ 1000000 := by
      have : ((a.length * n.toNat : Nat) : Int) ≤ 1000000 := by omega
      omega
    have e2 : (1000000 : Int) ≤ (2 ^ 63 - 1) / n := by
      rw [Int.le_ediv_iff_mul_le (by omega)]
      omega
    omega
  · intro hn _
    rw [hx]
    unfold Builtin.Str.tooLong
    have : a.length * n.toNat ≤ sizeLine := szl h3
    exact decide_eq_false (by omega)
  · by_cases hn : n < 1
    · rw [if_pos hn]
      have e : n.toNat = 0 := by omega
      refine ⟨by decide, fin _ _ _ ?_ (I.tok _)⟩
      rw [e]; rfl
    · rw [if_neg hn]
      by_cases c : (n == 1 || (tx a).length == 0) = true
      · rw [if_pos c]
        refine fin _ _ _ ?_ I
        rcases Bool.or_eq_true_iff.mp c with c | c
        · have e : n = 1 := eq_of_beq c
          rw [e]
          show tx a = tx (List.replicate 1 a).flatten
          simp
        · have e : a = [] := by
            rw [hx] at c
            exact List.length_eq_zero_iff.mp (eq_of_beq c)
          rw [e]
          simp
      · rw [if_neg c]
        have e : (⟨(List.replicate n.toNat (tx a).cps).foldl (· ++ ·) #[]⟩ : Str) = tx (List.replicate n.toNat a).flatten := by
          rw [rep_cps]
          simp [tx]
        refine ⟨?_, fin _ _ _ e (I.tok _)⟩
        rw [e, tx_len, len]
        exact szl h3
theorem op_ltS : OpR X (compareOp .Lt) rTLt := by
  intro pins s σ H x y v u Q I rx ry h
  obtain ⟨a, b, rfl, rfl, q⟩ := h
  exact op_lt_str pins s σ H _ _ v u Q I rx ry ⟨tx a, tx b, rfl, rfl, by simpa using q⟩
/-- text[::-1] -/
def tRevS (te : TE) : TE := fun σ H Q => te σ H fun x H1 => ∃ l : List Nat, x = .str (tx l) ∧ l.length ≤ 1000000 ∧ Q (.str (tx l.reverse)) H1
theorem pe_revS {e : Expr} {te : TE} {k : Nat} {p1 p2 p3 pos : PySem.Pos} (he : PE X e te) : PE X (.Subscript e (.Slice none none (some (.UnaryOp .USub (.Constant (.int 1) k p1) p2)) p3) pos) (tRevS te) := by
  refine ⟨fun pins s σ H Q I h => ?_⟩
  refine PyProof.Rows.Subscript_ (thn (he.run pins s σ H _ I h) fun v s1 ⟨x, H1, I1, r1, l, ex, hl, q⟩ => ?_)
  subst ex
  obtain ⟨t, rfl⟩ := r1
  have hst : PO X (some (.UnaryOp .USub (.Constant (.int 1) k p1) p2)) (tPart (tUn (rU fun i => .int (-i)) (tC (.int 1)))) := po_some (pe_un un_neg pe_int)
  refine wpAny_Slice (thn (po_none.run pins s1 σ H1 (fun o H2 => o = none ∧ H2 = H1) I1 ⟨rfl, rfl⟩) fun vl s2 ⟨o1, H2, I2, w1, e1, e2⟩ => ?_)
  subst e1 e2
  refine thn (po_none.run pins s2 σ H2 (fun o H3 => o = none ∧ H3 = H2) I2 ⟨rfl, rfl⟩) fun vu s3 ⟨o2, H3, I3, w2, e3, e4⟩ => ?_
  subst e3 e4
  refine thn (hst.run pins s3 σ H3 (fun o H4 => o = some (-1) ∧ H4 = H3) I3 ⟨1, rfl, -1, rfl, rfl, rfl⟩) fun vs s4 ⟨o3, H4, I4, w3, e5, e6⟩ => ?_
  subst e5 e6
  obtain ⟨l1, rfl, m1⟩ := IsPart.raw w1
  obtain ⟨l2, rfl, m2⟩ := IsPart.raw w2
  obtain ⟨l3, rfl, m3⟩ := IsPart.raw w3
  have I5 : Inv X pins σ H4 { s4 with heap := s4.heap.push { cls := .type "slice", data := .fields #[partValue l1, partValue l2, partValue l3] } } := I4.kept (t' := s4.toks) fun b ob q => Heap.get?_push_of_some _ q
  show wpAny (model X.prog X.w) X.A (PyProof.Rows.subscriptTail e (.Slice none none (some (.UnaryOp .USub (.Constant (.int 1) k p1) p2)) p3) (.str (tx l) t) (.ref s4.heap.objs.size)) (EP X pins σ Q) X.xe _
  refine PyProof.Rows.tail_any (ops := [.str (tx l) t, .ref s4.heap.objs.size]) (typeIs_str _ _ _) F.slot_str_getitem.lookup ?_ (by with_unfolding_all rfl)
  refine wpAny_getItem_str_slice (l := l1) (u := l2) (st := l3) ⟨_, Heap.get?_push_size _ rfl, rfl, rfl⟩ (by rw [m3]; rfl) ?_
  unfold sliceMade slicePicked
  rw [m1, m2, m3]
  have e : (⟨((Builtin.Str.strSliceIndices none none ((some (-1 : Int)).getD 1) (tx l).length).filterMap ((tx l).cps[·]?)).toArray⟩ : Str) = tx l.reverse := by
    show (⟨((Builtin.Str.strSliceIndices none none (-1) (tx l).length).filterMap ((tx l).cps[·]?)).toArray⟩ : Str) = tx l.reverse
    rw [PyProof.Rows.picked_rev, tx_len, PySem.W.krv_range]
    have k2 := PySem.W.krv_all (tx l).cps
    rw [show (tx l).cps.size = l.length from tx_len l] at k2
    rw [List.filterMap_reverse, k2]
  rw [e]
  rw [if_neg (by simp)]
  refine ⟨?_, .str (tx l.reverse), H4, I5.tok _, ⟨_, rfl⟩, q⟩
  rw [tx_len, List.length_reverse]
  exact szl hl
end
section
variable {σ : St} {H : Hp} {Q : VK}
theorem v_addS {a b : List Nat} (h : a.length + b.length ≤ 1000000) (q : Q (.str (tx (a ++ b))) H) : rTAdd (.str (tx a)) (.str (tx b)) H Q := ⟨a, b, rfl, rfl, h, q⟩
theorem v_mulS {a : List Nat} {n : Int} (h1 : n < 1000000) (h2 : -1000000 < n) (h : a.length * n.toNat ≤ 1000000) (q : Q (.str (tx (List.replicate n.toNat a).flatten)) H) : rTMul (.str (tx a)) (.int n) H Q := ⟨a, n, rfl, rfl, h1, h2, h, q⟩
theorem v_ltS {a b : List Nat} (q : Q (.bl (decide (a < b))) H) : rTLt (.str (tx a)) (.str (tx b)) H Q := ⟨a, b, rfl, rfl, q⟩
theorem e_revS {te : TE} (q : te σ H fun x H1 => ∃ l : List Nat, x = .str (tx l) ∧ l.length ≤ 1000000 ∧ Q (.str (tx l.reverse)) H1) : tRevS te σ H Q := q
theorem v_revS {l : List Nat} {P : List Nat → Prop} (h : l.length ≤ 1000000) (q : P l) : ∃ l' : List Nat, V.str (tx l) = .str (tx l') ∧ l'.length ≤ 1000000 ∧ P l' := ⟨l, rfl, h, q⟩
end
end Cw
set_option Elab.async false
set_option linter.all false
set_option maxRecDepth 100000
set_option maxHeartbeats 4000000
namespace Cw
open PySem PySem.Spec L2
/-! ### constants and globals -/
section
variable {X : Cx} {x : Str} {pos : PySem.Pos} {j : Nat}
theorem pe_tx {kd : _} (l : List Nat) (h : x = tx l) : PE X (.Constant (.str x) kd pos) (tC (.str (tx l))) := by
  rw [h]
  exact pe_str
theorem pe_globS {z : Str} (h : ∃ t, X.mg x = some (.str z t)) (hg : Gl X x := by rfl) (hd : (x == ("__debug__" : Str)) = false := by decide) : PE X (.Name x pos) (tC (.str z)) := by
  obtain ⟨t, h⟩ := h
  exact pe_glob hg h ⟨t, rfl⟩ hd
theorem pe_globI {z : Int} (h : ∃ t, X.mg x = some (.int z t)) (hg : Gl X x := by rfl) (hd : (x == ("__debug__" : Str)) = false := by decide) : PE X (.Name x pos) (tC (.int z)) := by
  obtain ⟨t, h⟩ := h
  exact pe_glob hg h ⟨t, rfl⟩ hd
/-- a class of one's own as a value -/
theorem pe_globC {C : Addr} (h : X.mg x = some (.ref C)) (hg : Gl X x := by rfl) (hd : (x == ("__debug__" : Str)) = false := by decide) : PE X (.Name x pos) (tC (.ref C)) := pe_glob hg h rfl hd
end
/-! ### slices of texts -/
theorem sl_S {X : Cx} : SlR X rSlS := sl_str
section
variable {σ : St} {H : Hp} {Q : VK} {te : TE} {tl th : TO} {K : PySem.W.Frag}
theorem e_sl {r : V → Option Int → Option Int → Hp → VK → Prop} (q : te σ H fun x H1 => tl σ H1 fun l H2 => th σ H2 fun u H3 => r x l u H3 Q) : tSl r te tl th σ H Q := q
theorem e_nopart {Q : Option Int → Hp → Prop} (q : Q none H) : tNoPart σ H Q := q
theorem e_part {Q : Option Int → Hp → Prop} (q : te σ H fun x H1 => ∃ i, x = .int i ∧ Q (some i) H1) : tPart te σ H Q := q
theorem cut_to (l : List Nat) {n : Int} (h : 0 ≤ n) : cutS (tx l) none (some n) = tx (l.take n.toNat) := by
  unfold cutS
  rw [tx_len]
  show (⟨((l.toArray.toList.drop 0).take ((if n < 0 then _ else min n.toNat l.length) - 0)).toArray⟩ : Str) = _
  rw [if_neg (by omega)]
  simp only [List.drop_zero, Nat.sub_zero]
  rw [← List.take_take]
  simp
theorem cut_from (l : List Nat) {n : Int} (h : 0 ≤ n) : cutS (tx l) (some n) none = tx (l.drop n.toNat) := by
  unfold cutS
  rw [tx_len]
  show (⟨((l.toArray.toList.drop (if n < 0 then _ else min n.toNat l.length)).take (l.length - (if n < 0 then _ else min n.toNat l.length))).toArray⟩ : Str) = _
  rw [if_neg (by omega)]
  have e : (l.drop (min n.toNat l.length)) = l.drop n.toNat := by
    by_cases hl : n.toNat ≤ l.length
    · rw [Nat.min_eq_left hl]
    · rw [Nat.min_eq_right (by omega), List.drop_of_length_le (by omega), List.drop_of_length_le (by omega)]
  simp only
  rw [e, List.take_of_length_le (by rw [List.length_drop]; omega)]
theorem v_slTo {l : List Nat} {n : Int} (hl : l.length ≤ 1000000) (h : 0 ≤ n) (q : Q (.str (tx (l.take n.toNat))) H) : rSlS (.str (tx l)) none (some n) H Q := ⟨tx l, rfl, by rw [tx_len]; exact szl hl, by rw [cut_to l h]; exact q⟩
theorem v_slFrom {l : List Nat} {n : Int} (hl : l.length ≤ 1000000) (h : 0 ≤ n) (q : Q (.str (tx (l.drop n.toNat))) H) : rSlS (.str (tx l)) (some n) none H Q := ⟨tx l, rfl, by rw [tx_len]; exact szl hl, by rw [cut_from l h]; exact q⟩
end
/-! ### join -/
def rJoinT (K : PySem.W.Frag) : V → List V → Hp → VK → Prop := fun x xs H Q => ∃ (p : Addr) (ls : List (List Nat)), x = .str (tx []) ∧ xs = [.ref p] ∧ (SqL K H p (ls.map fun l => V.str (tx l)) ∨ SqT K H p (ls.map fun l => V.str (tx l))) ∧ ls.flatten.length ≤ 1000000 ∧ Q (.str (tx ls.flatten)) H
theorem join_empty (ls : List (List Nat)) : Txt.join (tx []) (ls.map tx) = tx ls.flatten := by
  have e : ∀ ls : List (List Nat), TL.joinL [] ls = ls.flatten := by
    intro ls
    induction ls with
    | nil => rfl
    | cons p r ih =>
      cases r with
      | nil => simp [TL.joinL]
      | cons q r =>
        show p ++ ([] ++ TL.joinL [] (q :: r)) = _
        rw [ih]
        simp
  have h := TL.tl_join (tx []) (ls.map tx)
  have h2 : (Str.join (tx []) (ls.map tx)).cps.toList = ls.flatten := by
    refine Eq.trans h ?_
    show TL.joinL [] ((ls.map tx).map TL.tl) = _
    rw [List.map_map, e]
    congr 1
    have : (TL.tl ∘ tx) = id := by
      funext l
      show (tx l).cps.toList = l
      simp
    rw [this, List.map_id]
  have g : Txt.join (tx []) (ls.map tx) = Str.join (tx []) (ls.map tx) := by
    show Builtin.Str.glued _ _ = _
    rw [StrLaws.glued_eq_join]
  rw [g, tx_eq (z := Str.join (tx []) (ls.map tx)), h2]
section
variable {X : Cx} {o e : Expr} {to te : TE}
theorem mt_joinT : MtR X "str.join" (rJoinT X.K) := by
  intro pins s σ H x xs v us Q I rx rs h
  obtain ⟨p, ls, rfl, rfl, hp, hl, q⟩ := h
  refine mt_join pins s σ H _ _ v us Q I rx rs ⟨tx [], p, ls.map tx, rfl, rfl, ?_, ?_, ?_⟩
  · simpa [List.map_map, Function.comp_def] using hp
  · have e : ((ls.map tx).map (·.length)).sum = ls.flatten.length := by
      rw [List.map_map, List.length_flatten]
      exact congrArg List.sum (List.map_congr_left fun l _ => tx_len l)
    rw [e]
    have e0 : (tx []).length = 0 := rfl
    rw [e0]
    omega
  · rw [join_empty]
    exact q
theorem pe_joinT {apos pos : PySem.Pos} (ho : PE X o to) (he : PE X e te) (hs : starEach [e] X.env = [(false, eval e X.env)] := by rfl) (hbase : attributeBase o "join" X.env (eval o X.env) = eval o X.env := by rfl) (hline : (apos.endLine == pos.line) = true := by rfl) :
    PE X (.Call (.Attribute o "join" apos) [e] [] pos) (tM1 (rJoinT X.K) to te) := pe_m1 F.slot_str_join F.type_str_join mt_joinT ho he hs hbase hline
end
section
variable {σ : St} {H : Hp} {Q : VK} {to te : TE} {K : PySem.W.Frag}
theorem e_m1 {r : V → List V → Hp → VK → Prop} (q : to σ H fun x H1 => (∃ a, x = .str a) ∧ te σ H1 fun y H2 => r x [y] H2 Q) : tM1 r to te σ H Q := q
theorem v_isS {a : Str} {P : Prop} (q : P) : (∃ b, V.str a = .str b) ∧ P := ⟨⟨a, rfl⟩, q⟩
theorem v_join {p : Addr} {ls : List (List Nat)} (h : H p = some (.lst (ls.map fun l => V.str (tx l)))) (hl : ls.flatten.length ≤ 1000000) (q : Q (.str (tx ls.flatten)) H) : rJoinT K (.str (tx [])) [.ref p] H Q := ⟨p, ls, rfl, rfl, .inl (SqL.of h), hl, q⟩
/-! ### membership -/
theorem v_inS {c : Nat} {l : List Nat} (q : Q (.bl (decide (c ∈ l))) H) : rInS (.str (tx [c])) (.str (tx l)) H Q := ⟨c, tx l, rfl, rfl, by simpa using q⟩
theorem v_notInS {c : Nat} {l : List Nat} (q : Q (.bl (!decide (c ∈ l))) H) : rNotInS (.str (tx [c])) (.str (tx l)) H Q := ⟨c, tx l, rfl, rfl, by simpa using q⟩
theorem inV_tx {x : List Nat} : ∀ {ls : List (List Nat)}, inV (.str (tx x)) (ls.map fun l => V.str (tx l)) = decide (x ∈ ls)
  | [] => by simp [inV]
  | l :: r => by
    have ih := inV_tx (x := x) (ls := r)
    unfold inV at ih ⊢
    rw [List.map_cons, List.any_cons, ih]
    by_cases e : l = x
    · subst e
      simp [eqV]
    · have e2 : ¬ tx l = tx x := fun z => e (tx_inj.mp z)
      have e3 : ¬ x = l := fun z => e z.symm
      simp [eqV, e2, e3]
theorem flat_tx (ls : List (List Nat)) : (ls.map fun l => V.str (tx l)).all flatV = true := by
  rw [List.all_map]
  exact List.all_eq_true.mpr fun _ _ => rfl
theorem v_inL {x : List Nat} {ls : List (List Nat)} {p : Addr} (h : H p = some (.lst (ls.map fun l => V.str (tx l)))) (q : Q (.bl (decide (x ∈ ls))) H) : rIn K false (.str (tx x)) (.ref p) H Q :=
  ⟨p, _, rfl, .inl (SqL.of h), rfl, flat_tx ls, by rw [inV_tx]; exact q⟩
theorem v_inT {x : List Nat} {ls : List (List Nat)} {p : Addr} (h : SqT K H p (ls.map fun l => V.str (tx l))) (q : Q (.bl (decide (x ∈ ls))) H) : rIn K false (.str (tx x)) (.ref p) H Q :=
  ⟨p, _, rfl, .inr h, rfl, flat_tx ls, by rw [inV_tx]; exact q⟩
end
/-! ### comprehensions -/
theorem wipe1 {σ : St} {i : Nat} {x : Option V} : wipe ((wipe σ [i]).set i x) [i] = wipe σ [i] := by
  show (((σ.set i none).set i x).set i none) = σ.set i none
  rw [List.set_set, List.set_set]
section
variable {σ : St} {H : Hp} {Q : VK} {wi : TI} {g : TG} {tt : TT} {te t0 : TE} {i : Nat} {K : PySem.W.Frag}
/-- what a comprehension's new list is, item by item: Y tells the turn's items -/
theorem lc_gen {P : Addr → Hp → Prop} {J : It} {n : Nat} {G : Hp → Prop} {it : Nat → V} {b : Nat → Bool} {f : Nat → V} (w : Walk J n G (fun k H x H' => H' = H ∧ x = it k)) (hG : ∀ H', Same H H' → G H') (hn : n ≤ 1000000)
    (ht : ∀ k, k < n → ∀ H1, Same H H1 → ∀ R : Bool → Hp → Prop, (∀ H2, Same H1 H2 → R (b k) H2) → tt ((wipe σ [i]).set i (some (it k))) H1 R)
    (he : ∀ k, k < n → b k = true → ∀ H1, Same H H1 → ∀ R : VK, (∀ H2, Same H1 H2 → R (f k) H2) → te ((wipe σ [i]).set i (some (it k))) H1 R)
    (q : ∀ D H', H D = none → Same H H' → H' D = some (.lst (((List.range n).filter b).map f)) → P D H') :
    ∀ D, H D = none → ∃ W : Nat → Nat → Hp → Prop, (∃ m, W 0 m (upd H D (.lst []))) ∧ ∀ k m H, W k m H →
      (J.stop k H ∧ P D H) ∨ (J.go k H ∧ ∃ Nx : Hp → Prop, (∀ H', Nx H' → ∃ m', m' < m ∧ W (k + 1) m' H') ∧ ∀ x H', J.yld k H x H' → (gName i) x (wipe σ [i]) H' fun s2 H2 => wipe s2 [i] = wipe σ [i] ∧ tt s2 H2 fun c H3 =>
        if c = true then te s2 H3 fun y H4 => ∃ acc, H4 D = some (.lst acc) ∧ acc.length < sizeLine ∧ Nx (upd H4 D (.lst (acc ++ [y]))) else Nx H3) := by
  intro D hD
  refine lc_it w (vs := [i]) (σ := σ) (g := gName i) (tt := tt) (te := te) (Qd := fun H' => P D H') (fun k H' => Same H H' ∧ H' D = some (.lst (((List.range k).filter b).map f)))
    ⟨Same.new hD, upd_same⟩ (fun k H' _ p => hG H' p.1) (fun k x H1 H2 hk p y => ?_) (fun H' p => q D H' hD p.1 p.2)
  obtain ⟨p1, p2⟩ := p
  obtain ⟨rfl, rfl⟩ := y
  refine ⟨wipe1, ht k hk _ p1 _ fun H3 s3 => ?_⟩
  have e1 : (List.range (k + 1)).filter b = (List.range k).filter b ++ (if b k = true then [k] else []) := by
    rw [List.range_succ, List.filter_append]
    congr 1
    by_cases c : b k = true
    · simp [c]
    · simp [c]
  by_cases c : b k = true
  · rw [if_pos c]
    refine he k hk c _ (p1.trans s3) _ fun H4 s4 => ?_
    refine ⟨_, s4 _ _ (s3 _ _ p2), ?_, fun a o ha => ?_, ?_⟩
    · rw [List.length_map]
      have h1 := List.length_filter_le b (List.range k)
      rw [List.length_range] at h1
      exact szlt (by omega)
    · rw [upd_ne (ne_of_none ha hD)]
      exact s4 _ _ (s3 _ _ (p1 _ _ ha))
    · rw [upd_same, e1, if_pos c, List.map_append]
      rfl
  · rw [if_neg c]
    refine ⟨p1.trans s3, ?_⟩
    rw [e1, if_neg c, List.append_nil]
    exact s3 _ _ p2
theorem e_lc {vs : List Nat} (q : wi σ H fun J H1 => ∀ D, H1 D = none → ∃ W : Nat → Nat → Hp → Prop, (∃ m, W 0 m (upd H1 D (.lst []))) ∧ ∀ i m H, W i m H →
    (J.stop i H ∧ Q (.ref D) H) ∨ (J.go i H ∧ ∃ Nx : Hp → Prop, (∀ H', Nx H' → ∃ m', m' < m ∧ W (i + 1) m' H') ∧ ∀ x H', J.yld i H x H' → g x (wipe σ vs) H' fun s2 H2 => wipe s2 vs = wipe σ vs ∧ tt s2 H2 fun b H3 =>
      if b = true then te s2 H3 fun y H4 => ∃ acc, H4 D = some (.lst acc) ∧ acc.length < sizeLine ∧ Nx (upd H4 D (.lst (acc ++ [y]))) else Nx H3)) : tLc wi g tt te vs σ H Q := q
theorem range_map {α : Type} (l : List Nat) (b : Nat → Bool) (f : Nat → α) : ((List.range l.length).filter fun k => b (l.getD k 0)).map (fun k => f (l.getD k 0)) = (l.filter b).map f := by
  have e : l = (List.range l.length).map fun k => l.getD k 0 := by
    apply List.ext_getElem
    · simp
    · intro j h1 h2
      simp [List.getD, h1]
  conv => rhs; rw [e, List.filter_map, List.map_map]
  rfl
/-- [e for c in text if t] -/
theorem v_lcS {P : Addr → Hp → Prop} {l : List Nat} {b : Nat → Bool} {f : Nat → V} (hn : l.length ≤ 1000000)
    (ht : ∀ c, c ∈ l → ∀ H1, Same H H1 → ∀ R : Bool → Hp → Prop, (∀ H2, Same H1 H2 → R (b c) H2) → tt ((wipe σ [i]).set i (some (.str (tx [c])))) H1 R)
    (he : ∀ c, c ∈ l → b c = true → ∀ H1, Same H H1 → ∀ R : VK, (∀ H2, Same H1 H2 → R (f c) H2) → te ((wipe σ [i]).set i (some (.str (tx [c])))) H1 R)
    (q : ∀ D H', H D = none → Same H H' → H' D = some (.lst ((l.filter b).map f)) → P D H') :
    ∀ D, H D = none → ∃ W : Nat → Nat → Hp → Prop, (∃ m, W 0 m (upd H D (.lst []))) ∧ ∀ k m H, W k m H →
      ((Its (tx l)).stop k H ∧ P D H) ∨ ((Its (tx l)).go k H ∧ ∃ Nx : Hp → Prop, (∀ H', Nx H' → ∃ m', m' < m ∧ W (k + 1) m' H') ∧ ∀ x H', (Its (tx l)).yld k H x H' → (gName i) x (wipe σ [i]) H' fun s2 H2 => wipe s2 [i] = wipe σ [i] ∧ tt s2 H2 fun c H3 =>
        if c = true then te s2 H3 fun y H4 => ∃ acc, H4 D = some (.lst acc) ∧ acc.length < sizeLine ∧ Nx (upd H4 D (.lst (acc ++ [y]))) else Nx H3) := by
  have mem : ∀ k, k < l.length → l.getD k 0 ∈ l := fun k hk => by
    rw [List.getD_eq_getElem?_getD, List.getElem?_eq_getElem hk]
    exact List.getElem_mem hk
  have w : Walk (Its (tx l)) l.length (fun _ => True) (fun k H x H' => H' = H ∧ x = .str (tx [l.getD k 0])) := by
    refine ⟨fun k H hk _ => by show k < (tx l).cps.size; simpa using hk, fun H _ => by show (tx l).cps.size ≤ l.length; simp, fun k H x H' hk _ y => ?_⟩
    obtain ⟨e, c, hc, rfl⟩ := y
    refine ⟨e, ?_⟩
    have hc : l[k]? = some c := by simpa using hc
    rw [List.getD_eq_getElem?_getD, hc]
    rfl
  refine lc_gen (b := fun k => b (l.getD k 0)) (f := fun k => f (l.getD k 0)) w (fun _ _ => trivial) hn (fun k hk H1 s1 R r => ht _ (mem k hk) H1 s1 R r) (fun k hk c H1 s1 R r => he _ (mem k hk) c H1 s1 R r) (fun D H' hD s' e => q D H' hD s' ?_)
  rw [e, range_map]
end
end Cw
set_option Elab.async false
set_option linter.all false
set_option maxRecDepth 100000
set_option maxHeartbeats 4000000
namespace Cw
open PySem PySem.Spec L2
/-! ### a comprehension of two fors over texts -/
theorem lc_in {J : It} {n : Nat} {G : Hp → Prop} {Y : Nat → Hp → V → Hp → Prop} (w : Walk J n G Y) {g : TG} {tt : TT} {te : TE} {vs : List Nat} {σ : St} {H1 : Hp} {D : Addr} {Qd : Hp → Prop} (Pv : Nat → Hp → Prop) (h0 : Pv 0 H1) (hG : ∀ i H, i ≤ n → Pv i H → G H)
    (hs : ∀ i x H H', i < n → Pv i H → Y i H x H' → g x (wipe σ vs) H' fun s2 H2 => wipe s2 vs = wipe σ vs ∧ tt s2 H2 fun b H3 =>
      if b = true then te s2 H3 fun y H4 => ∃ acc, H4 D = some (.lst acc) ∧ acc.length < sizeLine ∧ Pv (i + 1) (upd H4 D (.lst (acc ++ [y]))) else Pv (i + 1) H3) (hd : ∀ H, Pv n H → Qd H) :
    ∃ W : Nat → Nat → Hp → Prop, (∃ m, W 0 m H1) ∧ ∀ i m H, W i m H →
      (J.stop i H ∧ Qd H) ∨ (J.go i H ∧ ∃ Nx : Hp → Prop, (∀ H', Nx H' → ∃ m', m' < m ∧ W (i + 1) m' H') ∧ ∀ x H', J.yld i H x H' → g x (wipe σ vs) H' fun s2 H2 => wipe s2 vs = wipe σ vs ∧ tt s2 H2 fun b H3 =>
        if b = true then te s2 H3 fun y H4 => ∃ acc, H4 D = some (.lst acc) ∧ acc.length < sizeLine ∧ Nx (upd H4 D (.lst (acc ++ [y]))) else Nx H3) := by
  refine ⟨fun i m H => m = n - i ∧ i ≤ n ∧ Pv i H, ⟨n, rfl, Nat.zero_le _, h0⟩, ?_⟩
  rintro i m H ⟨rfl, hi, p⟩
  by_cases c : i < n
  · exact Or.inr ⟨w.goes i H c (hG i H hi p), Pv (i + 1), fun H' p' => ⟨_, by omega, rfl, c, p'⟩, fun x H' y => hs i x H H' c p (w.yields i H x H' c (hG i H hi p) y)⟩
  · have e : i = n := by omega
    rw [e] at p ⊢
    exact Or.inl ⟨w.stops H (hG n H (Nat.le_refl _) p), hd H p⟩
theorem walk_tx (l : List Nat) : Walk (Its (tx l)) l.length (fun _ => True) (fun k H x H' => H' = H ∧ x = .str (tx [l.getD k 0])) := by
  refine ⟨fun k H hk _ => by show k < (tx l).cps.size; simpa using hk, fun H _ => by show (tx l).cps.size ≤ l.length; simp, fun k H x H' hk _ y => ?_⟩
  obtain ⟨e, c, hc, rfl⟩ := y
  refine ⟨e, ?_⟩
  have hc : l[k]? = some c := by simpa using hc
  rw [List.getD_eq_getElem?_getD, hc]
  rfl
theorem getD_mem {l : List Nat} {k : Nat} (hk : k < l.length) : l.getD k 0 ∈ l := by
  rw [List.getD_eq_getElem?_getD, List.getElem?_eq_getElem hk]
  exact List.getElem_mem hk
theorem take_getD {l : List Nat} {k : Nat} (hk : k < l.length) : l.take (k + 1) = l.take k ++ [l.getD k 0] := by
  rw [List.take_add_one, List.getD_eq_getElem?_getD, List.getElem?_eq_getElem hk]
  rfl
section
variable {σ : St} {H : Hp} {Q : VK} {tt1 : TT} {te t1 : TE} {i j : Nat}
theorem v_lc2S {la lb : List Nat} {b : Nat → Nat → Bool} {f : Nat → Nat → V} (hij : i ≠ j) (hsz : la.length * lb.length < 1000000)
    (h1 : ∀ c, c ∈ la → ∀ H1, Same H H1 → ∀ R : VK, R (.str (tx lb)) H1 → t1 (((σ.set j none).set i none).set i (some (.str (tx [c])))) H1 R)
    (ht : ∀ c d, c ∈ la → d ∈ lb → ∀ H1, Same H H1 → ∀ R : Bool → Hp → Prop, (∀ H2, Same H1 H2 → R (b c d) H2) → tt1 (((((σ.set j none).set i none).set i (some (.str (tx [c])))).set j none).set j (some (.str (tx [d])))) H1 R)
    (he : ∀ c d, c ∈ la → d ∈ lb → b c d = true → ∀ H1, Same H H1 → ∀ R : VK, (∀ H2, Same H1 H2 → R (f c d) H2) → te (((((σ.set j none).set i none).set i (some (.str (tx [c])))).set j none).set j (some (.str (tx [d])))) H1 R)
    (q : ∀ D H', H D = none → Same H H' → H' D = some (.lst (la.flatMap fun c => (lb.filter (b c)).map (f c))) → Q (.ref D) H') :
    tLc2 (iStr (tC (.str (tx la)))) (gName i) tYes (iStr t1) (gName j) tt1 te [i, j] [j] σ H Q := by
  refine ⟨tx la, rfl, fun D hD => ?_⟩
  have len : ∀ l : List Nat, (l.flatMap fun c => (lb.filter (b c)).map (f c)).length ≤ l.length * lb.length := by
    intro l
    induction l with
    | nil => simp
    | cons c r ih =>
      rw [List.flatMap_cons, List.length_append, List.length_map, List.length_cons, Nat.succ_mul]
      have := List.length_filter_le (b c) lb
      omega
  refine ⟨fun k m H' => m = la.length - k ∧ k ≤ la.length ∧ Same H H' ∧ H' D = some (.lst ((la.take k).flatMap fun c => (lb.filter (b c)).map (f c))), ⟨_, rfl, Nat.zero_le _, Same.new hD, upd_same⟩, ?_⟩
  rintro k m H1 ⟨rfl, hk, s1, e1⟩
  have w := walk_tx la
  by_cases c : k < la.length
  · refine Or.inr ⟨w.goes k H1 c trivial, fun H' => Same H H' ∧ H' D = some (.lst ((la.take (k + 1)).flatMap fun c => (lb.filter (b c)).map (f c))), fun H' p => ⟨_, by omega, rfl, c, p.1, p.2⟩, fun x H2 y => ?_⟩
    obtain ⟨rfl, rfl⟩ := w.yields k H1 x H2 c trivial y
    have hm := getD_mem c
    refine ⟨?_, ?_⟩
    · show ((((σ.set j none).set i none).set i _).set j none).set i none = (σ.set j none).set i none
      rw [List.set_comm _ _ hij.symm, List.set_set, List.set_set, List.set_comm _ _ hij, List.set_set]
    · unfold tYes
      refine iteT ?_
      refine h1 _ hm _ s1 _ ⟨tx lb, rfl, ?_⟩
      refine lc_in (walk_tx lb) (fun z H' => Same H H' ∧ H' D = some (.lst (((la.take k).flatMap fun c => (lb.filter (b c)).map (f c)) ++ ((lb.take z).filter (b (la.getD k 0))).map (f (la.getD k 0))))) ⟨s1, by simpa using e1⟩ (fun _ _ _ _ => trivial) ?_ ?_
      · rintro z x H3 H4 hz ⟨s3, e3⟩ ⟨rfl, rfl⟩
        have hm2 := getD_mem hz
        have et := take_getD hz
        refine ⟨?_, ht _ _ hm hm2 _ s3 _ fun H5 s5 => ?_⟩
        · exact wipe1
        · show (if b (la.getD k 0) (lb.getD z 0) = true then _ else _)
          by_cases cb : b (la.getD k 0) (lb.getD z 0) = true
          · rw [if_pos cb]
            refine he _ _ hm hm2 cb _ (s3.trans s5) _ fun H6 s6 => ⟨_, s6 _ _ (s5 _ _ e3), ?_, fun a o ha => ?_, ?_⟩
            · have n1 := len (la.take k)
              have n2 : ((lb.take z).filter (b (la.getD k 0))).length ≤ z := by
                have := List.length_filter_le (b (la.getD k 0)) (lb.take z)
                rw [List.length_take] at this
                omega
              rw [List.length_append, List.length_map]
              rw [List.length_take, Nat.min_eq_left (by omega)] at n1
              have n3 : k * lb.length + lb.length ≤ la.length * lb.length := by
                rw [← Nat.succ_mul]
                exact Nat.mul_le_mul_right _ c
              exact szlt (by omega)
            · rw [upd_ne (ne_of_none ha hD)]
              exact s6 _ _ (s5 _ _ (s3 _ _ ha))
            · rw [upd_same, et, List.filter_append, List.map_append, List.append_assoc, List.filter_cons, if_pos cb]
              rfl
          · rw [if_neg cb]
            refine ⟨s3.trans s5, ?_⟩
            rw [s5 _ _ e3, et, List.filter_append, List.filter_cons, if_neg cb, List.filter_nil, List.append_nil]
      · rintro H' ⟨s', e'⟩
        refine ⟨s', ?_⟩
        rw [e', take_getD c, List.flatMap_append, List.take_of_length_le (Nat.le_refl _)]
        simp
  · have e : k = la.length := by omega
    subst e
    refine Or.inl ⟨w.stops H1 trivial, q D H1 hD s1 ?_⟩
    rw [e1, List.take_of_length_le (Nat.le_refl _)]
end
end Cw
set_option Elab.async false
set_option linter.all false
set_option maxRecDepth 100000
set_option maxHeartbeats 4000000
/-! plain words about plans -/
namespace Cw
open PySem L2
def LET : List Nat := [97, 98, 99, 100, 101, 102, 103, 104, 105, 106, 107, 108, 109, 110, 111, 112, 113, 114, 115, 116, 117, 118, 119, 120, 121, 122]
def ascOf (l : List Nat) : List Nat := LET.filter fun c => decide (c ∈ l)
def pairsOf (found : List (List Nat)) : List (List Nat) := LET.flatMap fun a => (LET.filter fun b => decide ([a, b] ∈ found)).map fun b => [a, b]
def crossOf (ks : List Nat) (ps : List (List Nat)) (k : Nat) : List Nat := ks.filter fun o => decide ([k, o] ∈ ps) || decide ([o, k] ∈ ps)
/-- the pairs that a plan may be told by: two different kinds each -/
def PairsIn (ks : List Nat) (ps : List (List Nat)) : Prop := ∀ p ∈ ps, ∃ a b, p = [a, b] ∧ a ≠ b ∧ a ∈ ks ∧ b ∈ ks
def crossKV (ks : List Nat) (ps : List (List Nat)) (l : List Nat) : List (Key × V) := l.map fun k => (Sum.inr (tx [k]), V.str (tx (crossOf ks ps k)))
/-- a list of texts as values -/
abbrev strsV (ls : List (List Nat)) : List V := ls.map fun l => V.str (tx l)
theorem LET_lt {c : Nat} (h : c ∈ LET) : 97 ≤ c ∧ c < 123 := by
  unfold LET at h
  simp only [List.mem_cons, List.not_mem_nil, or_false] at h
  omega
theorem ascOf_mem {l : List Nat} {c : Nat} : c ∈ ascOf l ↔ c ∈ LET ∧ c ∈ l := by
  unfold ascOf
  rw [List.mem_filter, decide_eq_true_iff]
theorem ascOf_len (l : List Nat) : (ascOf l).length ≤ 26 := List.length_filter_le _ _
theorem LET_nodup : LET.Nodup := by decide
theorem ascOf_nodup (l : List Nat) : (ascOf l).Nodup := LET_nodup.filter _
theorem pairsOf_mem {f : List (List Nat)} {p : List Nat} : p ∈ pairsOf f ↔ ∃ a b, p = [a, b] ∧ a ∈ LET ∧ b ∈ LET ∧ [a, b] ∈ f := by
  unfold pairsOf
  simp only [List.mem_flatMap, List.mem_map, List.mem_filter, decide_eq_true_iff]
  constructor
  · rintro ⟨a, ha, b, ⟨hb, hf⟩, rfl⟩
    exact ⟨a, b, rfl, ha, hb, hf⟩
  · rintro ⟨a, b, rfl, ha, hb, hf⟩
    exact ⟨a, ha, b, ⟨hb, hf⟩, rfl⟩
theorem pairsOf_congr {f g : List (List Nat)} (h : ∀ a b, a ∈ LET → b ∈ LET → ([a, b] ∈ f ↔ [a, b] ∈ g)) : pairsOf f = pairsOf g := by
  unfold pairsOf
  have h2 : ∀ l : List Nat, (∀ a ∈ l, a ∈ LET) → (l.flatMap fun a => (LET.filter fun b => decide ([a, b] ∈ f)).map fun b => [a, b]) = (l.flatMap fun a => (LET.filter fun b => decide ([a, b] ∈ g)).map fun b => [a, b]) := by
    intro l
    induction l with
    | nil => intro _; rfl
    | cons c r ih =>
      intro hm
      rw [List.flatMap_cons, List.flatMap_cons, ih fun a ha => hm a (List.mem_cons_of_mem _ ha)]
      congr 2
      refine List.filter_congr fun b hb => ?_
      exact decide_eq_decide.mpr (h c b (hm c (List.mem_cons_self ..)) hb)
  exact h2 LET fun a ha => ha
theorem filter_yes {α : Type} (l : List α) : l.filter (fun _ => true) = l := List.filter_eq_self.mpr fun _ _ => rfl
theorem flat_ones (l : List Nat) : (l.map fun c => [c]).flatten = l := by
  induction l with
  | nil => rfl
  | cons c r ih => rw [List.map_cons, List.flatten_cons, ih]; rfl
theorem strs_ones (l : List Nat) : (l.map fun c => V.str (tx [c])) = strsV (l.map fun c => [c]) := by
  unfold strsV
  rw [List.map_map]
  rfl
theorem nodup_ones {l : List Nat} : (l.map fun c => tx [c]).Nodup ↔ l.Nodup := by
  induction l with
  | nil => simp
  | cons c r ih =>
    rw [List.map_cons, List.nodup_cons, List.nodup_cons, ih]
    refine and_congr_left fun _ => not_congr ?_
    rw [List.mem_map]
    constructor
    · rintro ⟨d, hd, e⟩
      have : [d] = [c] := tx_inj.mp e
      injection this with e _
      exact e ▸ hd
    · intro h
      exact ⟨c, h, rfl⟩
theorem metOf_ones (l : List Nat) : ((metOf (l.map fun c => tx [c])).length = l.length) ↔ l.Nodup := by
  by_cases h : l.Nodup
  · rw [metOf_nodup (nodup_ones.mpr h), List.length_map]
    exact ⟨fun _ => h, fun _ => rfl⟩
  · have := metOf_lt (fun n => h (nodup_ones.mp n))
    rw [List.length_map] at this
    exact ⟨fun e => by omega, fun n => absurd n h⟩
theorem crossOf_len (ks : List Nat) (ps : List (List Nat)) (k : Nat) : (crossOf ks ps k).length ≤ ks.length := List.length_filter_le _ _
section
variable {σ : L2.St} {H : Hp} {Q : VK} {te : TE} {K : PySem.W.Frag}
theorem e_iStr {R : It → Hp → Prop} (q : te σ H fun v H1 => ∃ x, v = .str x ∧ R (Its x) H1) : iStr te σ H R := q
theorem e_iL {R : It → Hp → Prop} (q : te σ H fun x H1 => ∃ a, x = .ref a ∧ (∃ xs, SqL K H1 a xs) ∧ R (Itl K a) H1) : iList K te σ H R := q
theorem v_iL {P : Addr → Prop} {a : Addr} {xs : List V} (h : H a = some (.lst xs)) (q : P a) : ∃ a', V.ref a = .ref a' ∧ (∃ xs, SqL K H a' xs) ∧ P a' := ⟨a, rfl, ⟨xs, SqL.of h⟩, q⟩
theorem e_iR1 {ta : TA} {R : It → Hp → Prop} (q : ta σ H fun vs H1 => ∃ j : Int, vs = [.int j] ∧ -(2 ^ 62) ≤ j ∧ j < 2 ^ 62 ∧ R (Itr 0 j.toNat) H1) : iRng1 ta σ H R := q
theorem v_iR1 {P : Int → Prop} {j : Int} (h1 : -1000000 ≤ j) (h2 : j < 1000000) (q : P j) : ∃ j' : Int, [V.int j] = [.int j'] ∧ -(2 ^ 62) ≤ j' ∧ j' < 2 ^ 62 ∧ P j' := ⟨j, rfl, by omega, by omega, q⟩
theorem e_iR2 {ta : TA} {R : It → Hp → Prop} (q : ta σ H fun vs H1 => ∃ i j : Int, vs = [.int i, .int j] ∧ (-(2 ^ 62) ≤ i ∧ i < 2 ^ 62 ∧ -(2 ^ 62) ≤ j ∧ j < 2 ^ 62) ∧ R (Itr i (j - i).toNat) H1) : iRng2 ta σ H R := q
theorem v_iR2 {P : Int → Int → Prop} {i j : Int} (h1 : -1000000 ≤ i ∧ i < 1000000 ∧ -1000000 ≤ j ∧ j < 1000000) (q : P i j) : ∃ i' j' : Int, [V.int i, V.int j] = [.int i', .int j'] ∧ (-(2 ^ 62) ≤ i' ∧ i' < 2 ^ 62 ∧ -(2 ^ 62) ≤ j' ∧ j' < 2 ^ 62) ∧ P i' j' := ⟨i, j, rfl, by omega, q⟩
theorem e_for {wi : TI} {g : TG} {tb : TS} {D : Ends} (q : wi σ H fun J H1 => ∃ W : Nat → Nat → L2.St → Hp → Prop, (∃ m, W 0 m σ H1) ∧ ∀ i m σ H, W i m σ H →
    (J.stop i H ∧ D.nx σ H) ∨ (J.go i H ∧ ∃ N : L2.St → Hp → Prop, (∀ σ' H', N σ' H' → ∃ m', m' < m ∧ W (i + 1) m' σ' H') ∧ ∀ x H', J.yld i H x H' → g x σ H' fun s2 H2 => tb { D with nx := N, ct := N, bk := D.nx } s2 H2)) : tFor wi g tb D σ H := q
theorem iteNT {A B : Prop} (h : B) : if (!true) = true then A else B := by
  rw [if_neg (by decide)]
  exact h
theorem iteNF {A B : Prop} (h : A) : if (!false) = true then A else B := by
  rw [if_pos (by decide)]
  exact h
theorem e_yes {Q : Bool → Hp → Prop} (q : Q true H) : tYes σ H Q := q
theorem v_isiS {x : Str} (q : Q (.bl true) H) : rIsi K [.str x, .ty "str"] H Q := ⟨.str x, .ty "str", .type "str", .type "str", true, rfl, .ty "str", .base (.str x), kit_ty (by decide +kernel), q⟩
theorem v_all {p : Addr} {bs : List Bool} (h : H p = some (.lst (bs.map V.bl))) (q : Q (.bl (bs.all id)) H) : rAll K [.ref p] H Q := ⟨p, bs, rfl, SqL.of h, q⟩
theorem v_fld {P : V → Prop} {a C dx : Addr} {fs : List (Str × V)} {f : Str} {v : V} (h : H a = some (.ins C dx fs)) (c : Cls K C) (n : NoAttr K C f) (l : fs.lookup f = some v) (q : P v) : ∃ a' C dx fs v, V.ref a = .ref a' ∧ H a' = some (.ins C dx fs) ∧ Cls K C ∧ NoAttr K C f ∧ fs.lookup f = some v ∧ P v := ⟨a, C, dx, fs, v, rfl, h, c, n, l, q⟩
theorem e_sfld {ta tv : TE} {f : Str} {D : Ends} (q : tv σ H fun y H1 => ta σ H1 fun x H2 => ∃ a C dx fs, x = .ref a ∧ H2 a = some (.ins C dx fs) ∧ Cls K C ∧ NoAttr K C f ∧ fs.length < 1000 ∧ D.nx σ (upd H2 a (.ins C dx (putF f y fs)))) : sFld K ta tv f D σ H := q
theorem v_sfld {P : Hp → Prop} {a C dx : Addr} {fs : List (Str × V)} {f : Str} {y : V} (h : H a = some (.ins C dx fs)) (c : Cls K C) (n : NoAttr K C f) (l : fs.length < 1000) (q : ∀ H', Keep a H H' → H' a = some (.ins C dx (putF f y fs)) → P H') :
    ∃ a' C dx fs, V.ref a = .ref a' ∧ H a' = some (.ins C dx fs) ∧ Cls K C ∧ NoAttr K C f ∧ fs.length < 1000 ∧ P (upd H a' (.ins C dx (putF f y fs))) := ⟨a, C, dx, fs, rfl, h, c, n, l, q _ Keep.put upd_same⟩
/-- a class of the text -/
structure ClsF (K : PySem.W.Frag) (mg : Str → Option Value) (x : Str) (C : Addr) : Prop where
  «at» : mg x = some (.ref C)
  cl : Cls K C
  mks : PySem.W.makesIn K C = true
  kp : PySem.W.keepIn K (.ref C) = true
  ha : PySem.W.findIn K (.ref C) "__class__" = some (some (.builtin "object.__class__"))
  hn : PySem.W.specialIn K (.builtin "object.__class__") "__get__" = some (some (.builtin "getset_descriptor.__get__"))
  ht : PySem.W.takesIn K (.builtin "object.__class__") = some true
  hm : PySem.W.mroIn K C (.type "object") = some true
  ob : PySem.W.subIn K (.ref C) (.type "object") = some true
  ne : PySem.W.findIn K (.ref C) "__ne__" = some (some (.builtin "object.__ne__"))
theorem kit_same {C : Addr} : PySem.W.kitOne K (.ref C) (.ref C) = some true := by
  unfold PySem.W.kitOne
  rw [if_pos (by simp)]
theorem v_isiC {mg : Str → Option Value} {x : Str} {a C dx : Addr} {fs : List (Str × V)} (F : ClsF K mg x C) (h : H a = some (.ins C dx fs)) (q : Q (.bl true) H) : rIsi K [.ref a, .ref C] H Q :=
  ⟨.ref a, .ref C, .ref C, .ref C, true, rfl, .own C, .base (.ins h F.cl F.ha F.hn F.ht F.hm), kit_same, q⟩
theorem v_isiL {p t : Addr} {xs : List V} (h : H p = some (.lst xs)) (ht : H t = some (.tup [.ty "list", .ty "tuple"])) (q : Q (.bl true) H) : rIsiT K [.ref p, .ref t] H Q :=
  ⟨.ref p, t, _, .type "list", [.type "list", .type "tuple"], true, rfl, ht, .cons (.ty _) (.cons (.ty _) .nil), .base (.lst h), kitAny_cons (b := true) (kit_ty (by decide +kernel)) (fun z => nomatch z) (fun _ => rfl), q⟩
end
def rTuple (K : PySem.W.Frag) : List V → Hp → VK → Prop := fun xs H Q => ∃ p ys, xs = [.ref p] ∧ ((SqL K H p ys ∧ ∀ l, H l = none → Q (.ref l) (upd H l (.tup ys))) ∨ (SqT K H p ys ∧ Q (.ref p) H))
theorem c_tuple {X : Cx} : CallR X (.type "tuple") (rTuple X.K) := call_tuple_of
theorem v_tuple {K : PySem.W.Frag} {H : Hp} {Q : VK} {p : Addr} {ys : List V} (h : H p = some (.lst ys)) (q : ∀ l H', H l = none → Same H H' → H' l = some (.tup ys) → Q (.ref l) H') : rTuple K [.ref p] H Q :=
  ⟨p, ys, rfl, .inl ⟨SqL.of h, fun l hl => q l _ hl (Same.new hl) upd_same⟩⟩
def rList (K : PySem.W.Frag) : List V → Hp → VK → Prop := fun xs H Q => ∃ p ys, xs = [.ref p] ∧ (SqL K H p ys ∨ SqT K H p ys) ∧ ∀ l, H l = none → Q (.ref l) (upd H l (.lst ys))
theorem c_list {X : Cx} : CallR X (.type "list") (rList X.K) := call_list_of
theorem v_list {K : PySem.W.Frag} {H : Hp} {Q : VK} {p : Addr} {ys : List V} (h : SqL K H p ys) (q : ∀ l H', H l = none → Same H H' → H' l = some (.lst ys) → Q (.ref l) H') : rList K [.ref p] H Q :=
  ⟨p, ys, rfl, .inl h, fun l hl => q l _ hl (Same.new hl) upd_same⟩
section
variable {σ : L2.St} {H : Hp} {Q : VK} {K : PySem.W.Frag}
theorem e_bm {T : String} {r : V → List V → Hp → VK → Prop} {to : TE} {t : TA} (q : to σ H fun x H1 => tyV K T x H1 ∧ t σ H1 fun xs H2 => r x xs H2 Q) : tBM K T r to t σ H Q := q
theorem e_bm0 {T : String} {r : V → List V → Hp → VK → Prop} {to : TE} (q : to σ H fun x H1 => tyV K T x H1 ∧ r x [] H1 Q) : tBM0 K T r to σ H Q := q
theorem v_tyL {P : Prop} {p : Addr} {xs : List V} (h : H p = some (.lst xs)) (q : P) : tyV K "list" (.ref p) H ∧ P := ⟨.inl ⟨rfl, _, SqL.of h⟩, q⟩
theorem v_app {p : Addr} {xs : List V} {y : V} (h : H p = some (.lst xs)) (hl : xs.length < 1000000) (q : ∀ H', Keep p H H' → H' p = some (.lst (xs ++ [y])) → Q .non H') : rAppend (.ref p) [y] H Q :=
  ⟨p, xs, y, rfl, rfl, h, szlt hl, q _ Keep.put upd_same⟩
end
/-! ### rules with the written part named (in a comprehension's block too) -/
section
variable {X : Cx} {K : PySem.W.Frag}
theorem op_inLK (h : X.K = K) : OpR X (compareOp .In) (rIn K false) := h ▸ op_in_seq
theorem ix_LK (h : X.K = K) : IxR X (rIxL K) := h ▸ ix_list
theorem ix_TK (h : X.K = K) : IxR X (rIxT K) := h ▸ ix_tup
theorem pe_flK {e : Expr} {f : Str} {pos : PySem.Pos} {ta : TE} (h : X.K = K) (he : PE X e ta) (hb : attributeBase e f X.env (eval e X.env) = eval e X.env) : PE X (.Attribute e f pos) (tFld K ta f) := h ▸ pe_fld he hb
theorem ps_flK {o value : Expr} {f : Str} {pos pos' : PySem.Pos} {ta tv : TE} (h : X.K = K) (ha : PE X o ta) (hv : PE X value tv) (hs : swapsWith value (some (.Attribute o f pos')) pos.line X.env = pure false) : PS X (.Assign [.Attribute o f pos'] value pos) (sFld K ta tv f) := h ▸ ps_fld ha hv hs
theorem pe_joinK {o e : Expr} {to te : TE} {apos pos : PySem.Pos} (h : X.K = K) (ho : PE X o to) (he : PE X e te) (hs : starEach [e] X.env = [(false, eval e X.env)] := by rfl) (hbase : attributeBase o "join" X.env (eval o X.env) = eval o X.env := by rfl) (hline : (apos.endLine == pos.line) = true := by rfl) :
    PE X (.Call (.Attribute o "join" apos) [e] [] pos) (tM1 (rJoinT K) to te) := h ▸ pe_joinT ho he hs hbase hline
theorem c_lenK (h : X.K = K) : CallR X (.builtin "len") (rLen K) := h ▸ c_len
theorem c_isiK (h : X.K = K) : CallR X (.builtin "isinstance") (rIsi K) := h ▸ call_isi
theorem c_isiTK (h : X.K = K) : CallR X (.builtin "isinstance") (rIsiT K) := h ▸ call_isiT
theorem c_listK (h : X.K = K) : CallR X (.type "list") (rList K) := h ▸ c_list
theorem c_tupleK (h : X.K = K) : CallR X (.type "tuple") (rTuple K) := h ▸ c_tuple
theorem c_allK (h : X.K = K) (hc : X.calm = true) : CallR X (.builtin "all") (rAll K) := h ▸ cr_all hc
theorem sl_LK (h : X.K = K) : SlR X (rSlL K) := h ▸ sl_list
theorem op_eqDK (h : X.K = K) (hu : X.A.units + 64 < cLine) : OpR X (compareOp .Eq) (rEqD K) := h ▸ op_eqD hu
theorem op_neDK (h : X.K = K) (hu : X.A.units + 64 < cLine) : OpR X (compareOp .NotEq) (rNeD K) := h ▸ op_neD hu
theorem pi_listK {tg e : Expr} {te : TE} (h : X.K = K) (he : PE X e te) : PI X tg e (iList K te) := h ▸ pi_list he
theorem pi_tupK {tg e : Expr} {te : TE} (h : X.K = K) (he : PE X e te) : PI X tg e (iTup K te) := h ▸ pi_tup he
theorem pe_appK {o e : Expr} {to te : TE} {apos cpos : PySem.Pos} (h : X.K = K) (ho : PE X o to) (he : PE X e te) (hbase : attributeBase o "append" X.env (eval o X.env) = eval o X.env := by rfl)
    (hfew : ((backTo cpos (starEach [e] X.env)).all (fun x => !x.1) && (backToKw cpos (keywordEach [] X.env)).all (fun x => x.1.isSome) && decide ([e].length + ([] : List Keyword).length + (if ([] : List Keyword).isEmpty then 0 else 1) < 30)) = true := by rfl)
    (hline : (apos.endLine == cpos.line) = true := by rfl) (hs : starEach [e] X.env = (false, eval e X.env) :: starEach [] X.env := by rfl) (hplain : (backTo cpos (starEach [] X.env)).any (·.1) = false := by rfl) :
    PE X (.Call (.Attribute o "append" apos) [e] [] cpos) (tBM K "list" rAppend to (tCons te tNil)) := h ▸ pe_bm PySem.F.plainAttrs_list PySem.F.slot_list_append PySem.F.type_list_append mt_append ho (pa_cons he pa_nil hs) hbase hfew hline hs hplain
end
/-- two readings of one walk -/
def iOr (a b : TI) : TI := fun σ H R => a σ H R ∨ b σ H R
theorem pi_or {X : Cx} {tg e : Expr} {a b : TI} (h1 : PI X tg e a) (h2 : PI X tg e b) : PI X tg e (iOr a b) :=
  ⟨fun pos s σ H R I h => h.elim (h1.run pos s σ H R I) (h2.run pos s σ H R I)⟩
/-- a list or a tuple, or the empty tuple of the top -/
def SeqO (K : PySem.W.Frag) (H : Hp) (p : Addr) (xs : List V) : Prop := H p = some (.lst xs) ∨ H p = some (.tup xs) ∨ (xs = [] ∧ ∃ o n, K.lookup p = some o ∧ o.cls = .type "tuple" ∧ o.data = .seq #[] n)
section
variable {K : PySem.W.Frag} {H H' : Hp} {p x : Addr} {xs : List V}
theorem SeqO.go (h : SeqO K H p xs) (s : ∀ o, H p = some o → H' p = some o) : SeqO K H' p xs := h.imp (s _) (fun z => z.imp (s _) id)
theorem SeqO.same (h : SeqO K H p xs) (s : Same H H') : SeqO K H' p xs := h.go (s _)
theorem SeqO.keepI {C dx : Addr} {fs : List (Str × V)} (h : SeqO K H p xs) (s : Keep x H H') (hx : H x = some (.ins C dx fs)) : SeqO K H' p xs := by
  rcases h with h | h | h
  · exact .inl (s _ _ h (ne_of h hx (by intro z; cases z)))
  · exact .inr (.inl (s _ _ h (ne_of h hx (by intro z; cases z))))
  · exact .inr (.inr h)
theorem v_isiQ {Q : VK} {t : Addr} (h : SeqO K H p xs) (ht : H t = some (.tup [.ty "list", .ty "tuple"])) (q : Q (.bl true) H) : rIsiT K [.ref p, .ref t] H Q := by
  have key : TyX K H (.ref p) (.type "tuple") → rIsiT K [.ref p, .ref t] H Q := fun ty => ⟨.ref p, t, _, .type "tuple", [.type "list", .type "tuple"], true, rfl, ht, .cons (.ty _) (.cons (.ty _) .nil), ty, kitAny_cons (b := false) (kit_ty (by decide +kernel)) (fun _ => kitAny_cons (b := true) (kit_ty (by decide +kernel)) (fun z => nomatch z) (fun _ => rfl)) (fun z => nomatch z), q⟩
  rcases h with h | h | ⟨_, o, n, h, c, _⟩
  · exact v_isiL h ht q
  · exact key (.base (.tup h))
  · exact key (.kTuple h c)
/-- a for over a list or a tuple -/
theorem e_forSeq {te : TE} {g : TG} {tb : TS} {D : Ends} {σ : L2.St} {H0 : Hp} (hp : SeqO K H0 p xs) (s0 : Same H0 H) (ht : ∀ Q : VK, Q (.ref p) H → te σ H Q) (Pv : Nat → L2.St → Hp → Prop) (h0 : Pv 0 σ H) (hG : ∀ i σ' H', Pv i σ' H' → Same H0 H')
    (hs : ∀ i x σ H H', i < xs.length → Pv i σ H → YAt xs i H x H' → g x σ H' fun σ2 H2 => tb { D with nx := Pv (i + 1), ct := Pv (i + 1), bk := D.nx } σ2 H2) (hd : ∀ σ H, Pv xs.length σ H → D.nx σ H) : tFor (iOr (iList K te) (iTup K te)) g tb D σ H := by
  rcases hp with hp | hp | ⟨rfl, o, n, h, c, e⟩
  · exact Or.inl (ht _ ⟨p, rfl, ⟨xs, SqL.of (s0 _ _ hp)⟩, for_it walk_list Pv h0 (fun i σ' H' _ z => SqL.of (hG i σ' H' z _ _ hp)) hs hd⟩)
  · exact Or.inr (ht _ ⟨p, rfl, ⟨xs, SqT.of (s0 _ _ hp)⟩, for_it walk_tup Pv h0 (fun i σ' H' _ z => SqT.of (hG i σ' H' z _ _ hp)) hs hd⟩)
  · have k : ∀ H', SqT K H' p [] := fun H' => .inr ⟨o, #[], n, h, c, e, by decide, .nil⟩
    exact Or.inr (ht _ ⟨p, rfl, ⟨[], k _⟩, for_it walk_tup Pv h0 (fun i σ' H' _ z => k _) hs hd⟩)
end
theorem DPut.cross {H : Hp} {a : Addr} {kvs : List (Key × V)} {l : List Nat} {v : V} (e : H a = some (.dK kvs)) (hn : valV kvs (Sum.inr (tx l)) = none) (hl : kvs.length < 1000000) : DPut H a (.str (tx l)) v (upd H a (.dK (kvs ++ [(Sum.inr (tx l), v)]))) := by
  have h := DPut.k (k := Sum.inr (tx l)) (v := v) e (szlt hl)
  rw [putK_new v hn] at h
  exact h
theorem key_tx {a b : List Nat} : (Sum.inr (tx a) : Key) = Sum.inr (tx b) ↔ a = b := by
  constructor
  · intro h
    injection h with h
    exact tx_inj.mp h
  · intro h
    rw [h]
/-- a dict by letters -/
theorem letV_none {g : Nat → V} {k : Nat} : ∀ {l : List Nat}, ¬ k ∈ l → valV (l.map fun c => ((Sum.inr (tx [c]) : Key), g c)) (Sum.inr (tx [k])) = none
  | [], _ => rfl
  | c :: r, h => by
    rw [List.map_cons, valV_neg, letV_none fun z => h (List.mem_cons_of_mem _ z)]
    intro e
    have := key_tx.mp e
    injection this with e _
    exact h (e ▸ List.mem_cons_self ..)
theorem letV_some {g : Nat → V} {k : Nat} : ∀ {l : List Nat}, k ∈ l → valV (l.map fun c => ((Sum.inr (tx [c]) : Key), g c)) (Sum.inr (tx [k])) = some (g k)
  | [], h => by cases h
  | c :: r, h => by
    by_cases e : c = k
    · subst e
      rw [List.map_cons, valV_pos rfl]
    · rw [List.map_cons, valV_neg, letV_some ((List.mem_cons.mp h).resolve_left fun z => e z.symm)]
      intro z
      have := key_tx.mp z
      injection this with z _
      exact e z
theorem dget_let {H : Hp} {d : Addr} {g : Nat → V} {k : Nat} {l : List Nat} (h : H d = some (.dK (l.map fun c => ((Sum.inr (tx [c]) : Key), g c)))) (hk : k ∈ l) : DGet H d (.str (tx [k])) (some (g k)) := by
  have e := DGet.k (k := Sum.inr (tx [k])) h
  rw [letV_some hk] at e
  exact e
theorem take_notin {l : List Nat} (h : l.Nodup) {i : Nat} (hi : i < l.length) : ¬ l.getD i 0 ∈ l.take i := by
  intro m
  obtain ⟨j, hj, e⟩ := List.mem_iff_getElem.mp m
  rw [List.length_take] at hj
  rw [List.getElem_take, List.getD_eq_getElem?_getD, List.getElem?_eq_getElem hi] at e
  have := (List.getElem_inj h).mp e
  omega
end Cw
set_option Elab.async false
set_option linter.all false
set_option maxRecDepth 100000
set_option maxHeartbeats 4000000
/-! the same steps, what is to be found asked behind the match -/
namespace Cw
open PySem PySem.Spec L2
section
variable {σ : St} {H : Hp} {Q : VK} {i : Nat} {y : V} {K : PySem.W.Frag}
theorem e_varG (q : ∃ v, σ[i]? = some (some v) ∧ Q v H) : tVar i σ H Q := q
theorem v_lenG {p : Addr} (q : ∃ ys, H p = some (.lst ys) ∧ Q (.int (ys.length : Nat)) H) : rLen K [.ref p] H Q := by
  obtain ⟨ys, h, q⟩ := q
  exact v_len h q
theorem v_inLG {x : List Nat} {p : Addr} (q : ∃ ls : List (List Nat), H p = some (.lst (ls.map fun l => V.str (tx l))) ∧ Q (.bl (decide (x ∈ ls))) H) : rIn K false (.str (tx x)) (.ref p) H Q := by
  obtain ⟨ys, h, q⟩ := q
  exact v_inL h q
theorem v_lenSetG {P : Program} {w : World} {p : Addr} (q : ∃ l : List Str, H p = some (SetT P w p l) ∧ Q (.int (l.length : Nat)) H) : rLenSet P w [.ref p] H Q := by
  obtain ⟨ys, h, q⟩ := q
  exact v_lenSet h q
theorem v_tyLG {P : Prop} {p : Addr} (q : ∃ xs, H p = some (.lst xs) ∧ P) : tyV K "list" (.ref p) H ∧ P := by
  obtain ⟨ys, h, q⟩ := q
  exact v_tyL h q
theorem v_iLG {P : Addr → Prop} {a : Addr} (q : ∃ xs, H a = some (.lst xs) ∧ P a) : ∃ a', V.ref a = .ref a' ∧ (∃ xs, SqL K H a' xs) ∧ P a' := by
  obtain ⟨ys, h, q⟩ := q
  exact v_iL h q
theorem v_dgetG {P : V → Prop} {a : Addr} (q : ∃ v, DGet H a y (some v) ∧ P v) : ∃ a' v, V.ref a = .ref a' ∧ DGet H a' y (some v) ∧ P v := by
  obtain ⟨v, h, q⟩ := q
  exact v_dget h q
end
end Cw
set_option Elab.async false
set_option linter.all false
set_option maxRecDepth 100000
set_option maxHeartbeats 4000000
/-! C(..) as a call with a promise of its own -/
namespace Cw
open PySem PySem.Spec L2
/-- from what a caller wants of C(..) to what __init__ promises -/
def Conv (C : Addr) (sp0 sp : Sp) : Prop := ∀ vs H Q E, sp vs H Q E → ∀ x dx, H x = none → H dx = none → dx ≠ x → sp0 (.ref x :: vs) (upd (upd H dx (.own x)) x (.ins C dx [])) (fun v H2 => v = .non ∧ Q (.ref x) H2) E
structure CDef (P : Program) (w : World) (K : PySem.W.Frag) (mg : Str → Option Value) (base : Heap) (CX : CXT) (k : Nat) (x : Str) (C : Addr) (sp : Sp) : Prop where
  ex : ∃ f fd ps sp0, mg x = some (.ref C) ∧ Mk K C f ∧ Binds K fd ps [] ∧ FnOk P w K mg base CX k f fd ps sp0 ∧ Conv C sp0 sp
section
variable {X : Cx} {CX : CXT} {k : Nat} {sp : Sp} {E : XK} {x : Str} {C : Addr} {p pos : PySem.Pos} {e : Expr} {es : List Expr} {t : TA}
theorem pe_mk (D : CDef X.prog X.w X.K X.mg X.base CX k x C sp) (hr : Room (k + 1) X.A) (hx : Passes CX X E) (ha : PA X (e :: es) t) (hg : Gl X x := by rfl) (hdb : (x == ("__debug__" : Str)) = false := by decide)
    (he : starEach (e :: es) X.env = (false, eval e X.env) :: starEach es X.env := by rfl) (hpl : (backTo pos (starEach es X.env)).any (·.1) = false := by rfl) : PE X (.Call (.Name x p) (e :: es) [] pos) (tCall sp [] E t) := by
  obtain ⟨f, fd, ps, sp0, hm, M, hb, F, cv⟩ := D.ex
  refine ⟨fun pins s σ H Q I h => ?_⟩
  refine wpAny_Call_Name_kw (ld_glob I hg hm ?_ hdb)
  refine PySem.W.callWith_K (h₀ := X.base) I.ok.mod.kin M.kp (thn (ha.run pos pins s σ H _ I h) fun us s1 ⟨vs, H1, I1, r, q⟩ => ⟨I1.kIn, ?_⟩) he hpl
  refine run_make M F hr hb .nil hx I1 r fun a da n1 n2 n3 => ?_
  have q : sp (vs ++ []) H1 Q E := q
  rw [List.append_nil] at q ⊢
  exact cv vs H1 Q E q a da n1 n2 n3
end
/-- a method with defaults, all parameters given -/
structure MAtD (K : PySem.W.Frag) (C : Addr) (m qual : Str) (st : Stmt) (dvs : List V) : Prop where
  ex : ∃ f fd, PySem.W.findIn K (.ref C) m = some (some (.ref f)) ∧ PySem.W.isFn K (.ref f) = true ∧ FunD K m qual (defArgs st) (defBody st) (defScope st) dvs [] f fd
section
variable {P : Program} {w : World} {K : PySem.W.Frag} {mg : Str → Option Value} {base : Heap} {CX : CXT} {k : Nat} {C : Addr} {x qual : Str} {ps N : List Str} {sp sp0 : Sp} {st : Stmt} {dvs : List V}
/-- C(..) by its __init__ -/
structure CMk (P : Program) (w : World) (K : PySem.W.Frag) (mg : Str → Option Value) (base : Heap) (CX : CXT) (k : Nat) (x : Str) (C : Addr) (sp : Sp) (ps : List Str) (qual : Str) (st : Stmt) (dvs : List V) : Prop where
  ex : ∃ f fd sp0, mg x = some (.ref C) ∧ Mk K C f ∧ Binds K fd ps [] ∧ FnOk P w K mg base CX k f fd ps sp0 ∧ Conv C sp0 sp ∧ FunD K "__init__" qual (defArgs st) (defBody st) (defScope st) dvs [] f fd
theorem CMk.cdef (D : CMk P w K mg base CX k x C sp ps qual st dvs) : CDef P w K mg base CX k x C sp := by
  obtain ⟨f, fd, sp0, a, b, c, d, e, _⟩ := D.ex
  exact ⟨f, fd, ps, sp0, a, b, c, d, e⟩
/-- C(..) by its __init__, that lets nothing out; h: how the arguments bind where all are given -/
theorem MAtD.make (F : MAtD K C "__init__" qual st dvs) (cf : ClsF K mg x C) (S : FnScope N ps (defScope st)) (hd : dvs ≠ [])
    (hb : ∀ (T : Addr) (kV doc pm : Value) (an : Option Addr) (cdv ct : Value) (us its : List Value), us.length = ps.length → its.length = dvs.length →
      ∃ k, bindArgs (PySem.W.fnOf "__init__" qual (defArgs st) (defBody st) (defScope st) (.ref T) kV doc pm an cdv ct) ⟨us, []⟩ = seqItems? (.ref T) >>= k ∧ k (some its.toArray) = pure (ps.zip (us ++ its.drop dvs.length)))
    (len : ∀ vs H Q E, sp0 vs H Q E → vs.length = ps.length) (cv : Conv C sp0 sp)
    (hbody : ∀ (f : Addr) (cdv : Value) (A : Around) (outer : List Env) (s : Shared) (H : Hp) (vs : List V) (Q : VK) (E : XK), Room k (A.deeper (PyProof.Rows.envOfC qual (defScope st) s.heap.objs.size f cdv)) → sp0 vs H Q E →
      ∃ t, PSs (cxOf CX0 P w K mg base N qual (defScope st) f cdv A outer s H E).nox (defBody st) t ∧ t { nx := fun _ H' => Q .non H', rt := Q } (start N vs) H) : CMk P w K mg base CX0 (k + 1) x C sp ps qual st dvs := by
  obtain ⟨f, fd, h1, h2, F⟩ := F.ex
  have B : Binds K fd ps [] := by
    obtain ⟨ds, r, b⟩ := F.binds1 (ps := ps) ps.length dvs.length hd (by omega) fun T kV doc pm an cdv ct us its l1 l2 => hb T kV doc pm an cdv ct us its l1 l2
    rw [List.drop_of_length_le (Nat.le_refl _)] at r
    cases r
    exact b
  refine ⟨f, fd, sp0, cf.at, ⟨cf.mks, h1, h2, cf.kp⟩, B, F.ok S len fun cdv A outer s H vs Q E hr h => ?_, cv, F⟩
  obtain ⟨t, a, b⟩ := hbody f cdv A outer s H vs Q E hr h
  exact ⟨t, a.nox, b⟩
theorem CDef.mono {j : Nat} (D : CDef P w K mg base CX j x C sp) (h : j ≤ k) : CDef P w K mg base CX k x C sp := by
  obtain ⟨f, fd, ps, sp0, a, b, c, d, e⟩ := D.ex
  exact ⟨f, fd, ps, sp0, a, b, c, d.mono h, e⟩
end
end Cw
set_option Elab.async false
set_option linter.all false
set_option maxRecDepth 100000
set_option maxHeartbeats 4000000
/-! enumerate(text) -/
namespace Cw
open PySem PySem.Spec L2
def Itx (l : List Nat) : It := ⟨fun i _ => i < l.length, fun i H v H' => ∃ T c, v = .ref T ∧ H T = none ∧ H' = upd H T (.tup [.int (i : Nat), .str (tx [c])]) ∧ l[i]? = some c, fun i _ => l.length ≤ i⟩
theorem turn_enumS {P : Program} {w : World} {K : PySem.W.Frag} {elts : List Expr} {kk : Nat} {tpos : PySem.Pos} (l : List Nat) (t : Tok) (e it : Addr) (hne : e ≠ it) :
    Turn P w K (.Tuple elts kk tpos) (Itx l) [e, it] e (fun i h => i ≤ l.length ∧ (∃ old, IsEnum h e it (i : Nat) old) ∧ h.IsStrIter it (strIterType (tx l)) (tx l) t i) where
  mem := by simp
  obj := fun i h st b hb => by
    obtain ⟨_, ⟨old, he⟩, ⟨o, ho, hc, hd⟩⟩ := st
    simp only [List.mem_cons, List.not_mem_nil, or_false] at hb
    rcases hb with z | z
    · subst z; exact ⟨_, he, fun v q => nomatch q⟩
    · subst z; exact ⟨o, ho, fun v q => by rw [hd] at q; cases q⟩
  keep := fun i h h' st k => by
    obtain ⟨a, ⟨old, he⟩, ⟨o, ho, r⟩⟩ := st
    exact ⟨a, ⟨old, k e (by simp) _ he⟩, ⟨o, k it (by simp) o ho, r⟩⟩
  item := by
    intro X hP hw hK hc i pins s σ H E I hf st hg
    subst hP hw hK
    obtain ⟨hi, st⟩ := st
    have hg : i < l.length := hg
    have W := WalksT.enumerateD (A := X.A) (Draws.text (prog := X.prog) (w := X.w) (A := X.A.in1) (I.ok.hd hc) it (tx l) t) e hne (by simp [hne]) (by simp)
    have hel : e < s.heap.objs.size := by obtain ⟨⟨_, he⟩, _⟩ := st; exact Heap.lt_size he
    have hil : it < s.heap.objs.size := by obtain ⟨_, ⟨_, q, _⟩⟩ := st; exact Heap.lt_size q
    refine W.item i s _ E (by simpa using hg) st fun T vals h' tk hv hT isT mid kp => ⟨_, rfl, W.go elts kk tpos i T { s with heap := h', toks := tk } _ E mid fun h2 st2 kp2 => ?_⟩
    obtain ⟨t', x, hx, rfl⟩ := hv
    obtain ⟨c, u, hc', rfl⟩ := hx
    have hTw := W.apart i T h' mid
    obtain ⟨o, ho, r⟩ := isT
    have isT2 : h2.IsTuple T #[.int i t', .str ⟨#[c]⟩ u] := ⟨o, kp2 T o hTw ho, r⟩
    have new : ObjOk X.prog X.w (upd H T (.tup [.int (i : Nat), .str (tx [c])])) h2 T (.tup [.int (i : Nat), .str (tx [c])]) := ⟨by show 2 ≤ sizeLine; decide, [.int i t', .str ⟨#[c]⟩ u], .cons ⟨_, rfl⟩ (.cons ⟨_, rfl⟩ .nil), isT2⟩
    refine ⟨.ref T, _, I.turnedNew (ch := [e, it]) (t' := tk) (fun b ob hb q => kp2 b ob hb (kp b ob hb q)) hf hT new, rfl, ⟨T, c, rfl, I.hok.fresh hT, rfl, by simpa using hc'⟩, ⟨hg, st2⟩, fun b hb => ?_⟩
    have hb2 : b < T := by
      simp only [List.mem_cons, List.not_mem_nil, or_false] at hb
      rcases hb with z | z
      · rw [z]; exact Nat.lt_of_lt_of_le hel hT
      · rw [z]; exact Nat.lt_of_lt_of_le hil hT
    rw [upd_ne (Nat.ne_of_lt hb2)]
    exact (hf b hb).1
  done := by
    intro X hP hw hK hc i pins s σ H E I hf st hg
    subst hP hw hK
    obtain ⟨hi, st⟩ := st
    have hg : l.length ≤ i := hg
    have e1 : i = (tx l).cps.size := by
      have : (tx l).cps.size = l.length := by simp
      omega
    subst e1
    have W := WalksT.enumerateD (A := X.A) (Draws.text (prog := X.prog) (w := X.w) (A := X.A.in1) (I.ok.hd hc) it (tx l) t) e hne (by simp [hne]) (by simp)
    exact W.done s _ E st fun h' tk kp => ⟨rfl, I.turnedL kp hf⟩
  self := fun A i s Q E st h => by
    obtain ⟨_, ⟨_, he⟩, _⟩ := st
    exact wpAny_pyIter_enum he h
def iEnumS (ta : TA) : TI := fun σ H R => ta σ H fun vs H1 => ∃ l : List Nat, vs = [.str (tx l)] ∧ R (Itx l) H1
theorem pi_enumS {X : Cx} {e : Expr} {ta : TA} {p pos tpos : PySem.Pos} {elts : List Expr} {kk : Nat} (hg : Gl X "enumerate") (hm : X.mg "enumerate" = none) (ha : PA X [e] ta) (hs : starEach [e] X.env = [(false, eval e X.env)] := by rfl) :
    PI X (.Tuple elts kk tpos) (.Call (.Name "enumerate" p) [e] [] pos) (iEnumS ta) := by
  refine ⟨fun pins s σ H R I h => ?_⟩
  refine PyProof.Rows.Call_ (ld_blt I hg hm PyProof.Rows.boot_enumerate (PyProof.Rows.callWith_type1 (thn (ha.run pos pins s σ H _ I h) fun us s1 ⟨vs, H1, I1, r1, l, ex, q⟩ => ?_) hs rfl))
  subst ex
  obtain ⟨u, rfl, t, rfl⟩ := vals1 r1
  refine call_enumerate_str fun h' he hit hsz hk => wpAny_pyIter_enum he ?_
  have I2 : L2.Inv X pins σ H1 { s1 with heap := h' } := I1.kept (t' := s1.toks) hk
  refine ⟨s1.heap.objs.size + 1, [s1.heap.objs.size + 1, s1.heap.objs.size], _, _, H1, rfl, I2, turn_enumS l t (s1.heap.objs.size + 1) s1.heap.objs.size (Nat.succ_ne_self _), ⟨Nat.zero_le _, ⟨.none, he⟩, hit⟩, fun b hb => ?_, q⟩
  have hle : s1.heap.objs.size ≤ b := by
    simp only [List.mem_cons, List.not_mem_nil, or_false] at hb
    rcases hb with z | z
    · rw [z]; exact Nat.le_succ _
    · rw [z]; exact Nat.le_refl _
  exact I1.fpOk hle (I1.hok.fresh hle)
theorem walk_enumS (l : List Nat) : Walk (Itx l) l.length (fun _ => True) (fun i H v H' => ∃ T c, v = .ref T ∧ H T = none ∧ H' = upd H T (.tup [.int (i : Nat), .str (tx [c])]) ∧ l[i]? = some c) :=
  ⟨fun _ _ hi _ => hi, fun _ _ => Nat.le_refl _, fun _ _ _ _ _ _ y => y⟩
section
variable {σ : St} {H : Hp}
theorem e_iEnumS {ta : TA} {R : It → Hp → Prop} (q : ta σ H fun vs H1 => ∃ l : List Nat, vs = [.str (tx l)] ∧ R (Itx l) H1) : iEnumS ta σ H R := q
theorem v_iEnumS {P : List Nat → Prop} {l : List Nat} (q : P l) : ∃ l' : List Nat, [V.str (tx l)] = [.str (tx l')] ∧ P l' := ⟨l, rfl, q⟩
end
end Cw
set_option Elab.async false
set_option linter.all false
set_option maxRecDepth 100000
set_option maxHeartbeats 4000000
/-! pairs of a number and a text, compared -/
namespace Cw
open PySem PySem.Spec L2
section
variable {X : Cx} {op : CmpOp} {ri : Int → Int → Bool} {rs : List Nat → List Nat → Bool} {z : Bool}
end
end Cw
set_option Elab.async false
set_option linter.all false
set_option maxRecDepth 100000
set_option maxHeartbeats 4000000
/-! names: one step, as a plain function -/
namespace Cw
open PySem PySem.Spec L2
/-- the name (turned about) without its last letters out of part, and these -/
def splitB (part : List Nat) : List Nat → List Nat → List Nat × List Nat
  | [], b => ([], b)
  | x :: r, b => if x ∈ part then splitB part r (x :: b) else (x :: r, b)
def putIn (k : Nat) (b : List Nat) : List Nat := b.takeWhile (fun c => decide (c < k)) ++ k :: b.dropWhile (fun c => decide (c < k))
def stepAt (k : Nat) (ra b : List Nat) : List Nat := if ra.head? = some k then ra.tail.reverse ++ b else ra.reverse ++ putIn k b
def stepOf (part name : List Nat) (k : Nat) : List Nat := stepAt k (splitB part name.reverse []).1 (splitB part name.reverse []).2
def joinOf (ks : List Nat) (ps : List (List Nat)) (name way : List Nat) : List Nat := way.foldl (fun n k => stepOf (crossOf ks ps k) n k) name
def backOf (ks : List Nat) (ps : List (List Nat)) (name : List Nat) : List Nat := joinOf ks ps [] name.reverse
def wayOf (ks : List Nat) (ps : List (List Nat)) (name goal : List Nat) : List Nat := joinOf ks ps (backOf ks ps name) goal
theorem splitB_eq (part : List Nat) : ∀ ra b : List Nat, (splitB part ra b).1.reverse ++ (splitB part ra b).2 = ra.reverse ++ b
  | [], b => rfl
  | x :: r, b => by
    unfold splitB
    by_cases h : x ∈ part
    · rw [if_pos h, splitB_eq part r (x :: b), List.reverse_cons, List.append_assoc]
      rfl
    · rw [if_neg h]
theorem putIn_len (k : Nat) (b : List Nat) : (putIn k b).length = b.length + 1 := by
  unfold putIn
  have h : (b.takeWhile (fun c => decide (c < k)) ++ b.dropWhile (fun c => decide (c < k))).length = b.length := by rw [List.takeWhile_append_dropWhile]
  rw [List.length_append] at h
  rw [List.length_append, List.length_cons]
  omega
theorem putIn_mem {k c : Nat} {b : List Nat} (h : c ∈ putIn k b) : c = k ∨ c ∈ b := by
  unfold putIn at h
  rw [List.mem_append, List.mem_cons] at h
  rcases h with h | h | h
  · exact .inr (List.takeWhile_sublist _ |>.subset h)
  · exact .inl h
  · exact .inr (List.dropWhile_sublist _ |>.subset h)
theorem stepAt_len (k : Nat) (ra b : List Nat) : (stepAt k ra b).length ≤ ra.length + b.length + 1 := by
  unfold stepAt
  split
  · rw [List.length_append, List.length_reverse, List.length_tail]
    omega
  · rw [List.length_append, List.length_reverse, putIn_len]
    omega
theorem stepAt_mem {k c : Nat} {ra b : List Nat} (h : c ∈ stepAt k ra b) : c = k ∨ c ∈ ra.reverse ++ b := by
  unfold stepAt at h
  split at h
  · rw [List.mem_append, List.mem_reverse] at h
    rcases h with h | h
    · exact .inr (List.mem_append_left _ (List.mem_reverse.mpr (List.mem_of_mem_tail h)))
    · exact .inr (List.mem_append_right _ h)
  · rw [List.mem_append] at h
    rcases h with h | h
    · exact .inr (List.mem_append_left _ h)
    · rcases putIn_mem h with e | e
      · exact .inl e
      · exact .inr (List.mem_append_right _ e)
theorem stepOf_len (part name : List Nat) (k : Nat) : (stepOf part name k).length ≤ name.length + 1 := by
  have h := congrArg List.length (splitB_eq part name.reverse [])
  simp only [List.length_append, List.length_reverse, List.length_nil] at h
  have := stepAt_len k (splitB part name.reverse []).1 (splitB part name.reverse []).2
  unfold stepOf
  omega
theorem stepOf_mem {part name : List Nat} {k c : Nat} (h : c ∈ stepOf part name k) : c = k ∨ c ∈ name := by
  have := stepAt_mem h
  rw [splitB_eq, List.reverse_reverse, List.append_nil] at this
  exact this
theorem joinOf_len (ks : List Nat) (ps : List (List Nat)) : ∀ (way name : List Nat), (joinOf ks ps name way).length ≤ name.length + way.length
  | [], name => Nat.le_refl _
  | k :: r, name => by
    show (joinOf ks ps (stepOf (crossOf ks ps k) name k) r).length ≤ _
    have := joinOf_len ks ps r (stepOf (crossOf ks ps k) name k)
    have := stepOf_len (crossOf ks ps k) name k
    rw [List.length_cons]
    omega
theorem joinOf_mem {ks : List Nat} {ps : List (List Nat)} {c : Nat} : ∀ {way name : List Nat}, c ∈ joinOf ks ps name way → c ∈ name ∨ c ∈ way
  | [], name, h => .inl h
  | k :: r, name, h => by
    rcases joinOf_mem (way := r) (name := stepOf (crossOf ks ps k) name k) h with z | z
    · rcases stepOf_mem z with e | e
      · exact .inr (e ▸ List.mem_cons_self ..)
      · exact .inl e
    · exact .inr (List.mem_cons_of_mem _ z)
theorem joinOf_snoc {ks : List Nat} {ps : List (List Nat)} {name way : List Nat} {k : Nat} : joinOf ks ps name (way ++ [k]) = stepOf (crossOf ks ps k) (joinOf ks ps name way) k := by
  unfold joinOf
  rw [List.foldl_append]
  rfl
theorem backOf_len (ks : List Nat) (ps : List (List Nat)) (name : List Nat) : (backOf ks ps name).length ≤ name.length := by
  have := joinOf_len ks ps name.reverse []
  rw [List.length_reverse, List.length_nil] at this
  unfold backOf
  omega
/-! ### letters at their places -/
theorem at_last {x : Nat} {r b : List Nat} : atI ((x :: r).reverse ++ b) (((x :: r).length : Int) - 1) = some x := by
  have e : (((x :: r).length : Int) - 1) = ((r.length : Nat) : Int) := by
    rw [List.length_cons]
    omega
  rw [e]
  refine atI_nat ?_
  rw [List.reverse_cons, List.append_assoc, List.getElem?_append_right (by rw [List.length_reverse]; exact Nat.le_refl _), List.length_reverse, Nat.sub_self]
  rfl
theorem at_mid {x : Nat} {a b : List Nat} : atI (a ++ x :: b) ((a.length : Nat) : Int) = some x := by
  refine atI_nat ?_
  rw [List.getElem?_append_right (Nat.le_refl _), Nat.sub_self]
  rfl
theorem lt_one {a k : Nat} : decide ([a] < [k]) = decide (a < k) := by
  refine decide_eq_decide.mpr ⟨fun h => ?_, fun h => List.Lex.rel h⟩
  cases h with
  | rel h => exact h
  | cons h => cases h
section
variable {σ : St} {H : Hp} {tb : TS} {D : Ends} {tt : TT}
theorem g_nm {i : Nat} {v : V} {Q : St → Hp → Prop} (q : Q (σ.set i (some v)) H) : gName i v σ H Q := q
theorem s_while (W : Nat → St → Hp → Prop) (m : Nat) (h0 : W m σ H) (hs : ∀ m σ H, W m σ H → tt σ H fun b H1 => if b = true then ∃ N : St → Hp → Prop, (∀ σ' H', N σ' H' → ∃ m', m' < m ∧ W m' σ' H') ∧ tb { D with nx := N, ct := N, bk := D.nx } σ H1 else D.nx σ H1) : tWhile tt tb D σ H := ⟨W, ⟨m, h0⟩, hs⟩
theorem v_turn {W : Nat → St → Hp → Prop} {m : Nat} (q : tb { D with nx := fun σ' H' => ∃ m', m' < m ∧ W m' σ' H', ct := fun σ' H' => ∃ m', m' < m ∧ W m' σ' H', bk := D.nx } σ H) : ∃ N : St → Hp → Prop, (∀ σ' H', N σ' H' → ∃ m', m' < m ∧ W m' σ' H') ∧ tb { D with nx := N, ct := N, bk := D.nx } σ H := ⟨_, fun _ _ h => h, q⟩
end
section
variable {H : Hp} {Q : VK} {K : PySem.W.Frag} {p q : Addr}
theorem ok_strs {ls : List (List Nat)} (h : ∀ l ∈ ls, ∀ c ∈ l, c < 1000) : ∀ x ∈ ls.map tx, PyData.strOk x = true := by
  intro x hx
  obtain ⟨l, hl, rfl⟩ := List.mem_map.mp hx
  exact ok_tx (h l hl)
theorem map_tx_inj {a b : List (List Nat)} : a.map tx = b.map tx ↔ a = b := by
  constructor
  · intro h
    induction a generalizing b with
    | nil => cases b with
      | nil => rfl
      | cons y b => cases h
    | cons x a ih => cases b with
      | nil => cases h
      | cons y b =>
        rw [List.map_cons, List.map_cons] at h
        injection h with h1 h2
        rw [tx_inj.mp h1, ih h2]
  · intro h
    rw [h]
theorem strsV_map (ls : List (List Nat)) : strsV ls = (ls.map tx).map V.str := by
  unfold strsV
  rw [List.map_map]
  rfl
theorem v_eqT {a b : List (List Nat)} (h1 : H p = some (.tup (strsV a))) (h2 : H q = some (.tup (strsV b))) (ha : ∀ l ∈ a, ∀ c ∈ l, c < 1000) (hb : ∀ l ∈ b, ∀ c ∈ l, c < 1000) (k : Q (.bl (decide (a = b))) H) : rEqD K (.ref p) (.ref q) H Q := by
  rw [strsV_map] at h1 h2
  refine ⟨.tuple ((a.map tx).map PyData.str), .tuple ((b.map tx).map PyData.str), .tup (SqT.of h1) (dp_strs _), .tup (SqT.of h2) (dp_strs _), shaped_strsT _ (ok_strs ha), shaped_strsT _ (ok_strs hb), ?_⟩
  have e : PyData.eqv (.tuple ((a.map tx).map PyData.str)) (.tuple ((b.map tx).map PyData.str)) = decide (a = b) := by
    show PyData.eqvAll _ _ = _
    rw [eqvAll_strs, decide_eq_decide]
    exact map_tx_inj
  rw [e]
  exact k
end
end Cw
set_option Elab.async false
set_option linter.all false
set_option maxRecDepth 100000
set_option maxHeartbeats 4000000
/-! errors of one's own without values -/
namespace Cw
open PySem PySem.Spec L2
/-- an error class of the text, down from ValueError, without an __init__ -/
structure ExcF (K : PySem.W.Frag) (mg : Str → Option Value) (x : Str) (C : Addr) : Prop where
  «at» : mg x = some (.ref C)
  exc : PySem.W.excIn K C [.type "ValueError", .type "Exception", .type "BaseException", .type "object"] "ValueError.__new__" = true
  kp : PySem.W.keepIn K (.ref C) = true
  ty : PySem.W.typeIn K (.ref C) = some (.type "type")
  ec : ExcC K C
section
variable {X : Cx} {C : Addr} {x : Str} {p pos : PySem.Pos}
theorem pmk_own0 (F : ExcF X.K X.mg x C) (hg : Gl X x := by rfl) (hdb : (x == ("__debug__" : Str)) = false := by decide) : PMk X (.Call (.Name x p) [] [] pos) (fun _ H Q => Q (.ref C) none H) := by
  intro pins s σ H Q I h
  refine PySem.wpAny_Call_Name_kw (ld_glob I hg F.at ?_ hdb)
  refine PySem.W.callWith_K0 I.kIn F.kp ?_
  show wpAny _ _ (call (.ref C) []) _ _ _
  obtain ⟨bm, N, nm, qn, bs, hdct, sn, sub, ab, col, dd, k0, k1, k2, k3, k5, mN, hC, hN, hni, T⟩ := exc_obj I.kIn F.exc
  refine wpAny_call_exc_subT PySem.F.excBase_ValueError T hC hN hni (fun h' e hm => ?_) (Nat.zero_le _)
  exact mk_of I hm (raises_own F.ec.hs F.ty) h (I.hok.gone hm.new)
end
theorem v_gTup2 {K : PySem.W.Frag} {n i j : Nat} {σ : St} {H : Hp} {Q : St → Hp → Prop} {p : Addr} {a b : V} (hn : n = 2) (h : H p = some (.tup [a, b])) (q : Q ((σ.set i (some a)).set j (some b)) H) : gTup K n (gCons (gName i) (gCons (gName j) gNil)) (.ref p) σ H Q :=
  ⟨p, _, rfl, SqT.of h, hn.symm, a, [b], rfl, b, [], rfl, rfl, q⟩
theorem e_md {C : Addr} {m : Str} {sp : Sp} {E : XK} {ta : TE} {t : TA} {σ : St} {H : Hp} {Q : VK} (q : ta σ H fun x H1 => ∃ a dx fs, x = .ref a ∧ H1 a = some (.ins C dx fs) ∧ fs.lookup m = none ∧ t σ H1 fun vs H2 => sp (x :: vs) H2 Q E) : tMeth C m sp [] E ta t σ H Q := by
  have e : tMeth C m sp [] E ta t = fun σ H Q => ta σ H fun x H1 => ∃ a dx fs, x = .ref a ∧ H1 a = some (.ins C dx fs) ∧ fs.lookup m = none ∧ t σ H1 fun vs H2 => sp (x :: vs) H2 Q E := by
    unfold tMeth
    simp only [List.append_nil]
  rw [e]
  exact q
theorem v_md {P : Addr → Prop} {C a dx : Addr} {fs : List (Str × V)} {m : Str} {H : Hp} (h : H a = some (.ins C dx fs)) (hn : fs.lookup m = none) (q : P a) : ∃ a' dx fs, V.ref a = .ref a' ∧ H a' = some (.ins C dx fs) ∧ fs.lookup m = none ∧ P a' := ⟨a, dx, fs, rfl, h, hn, q⟩
end Cw
set_option Elab.async false
set_option linter.all false
set_option maxRecDepth 100000
set_option maxHeartbeats 4000000
/-! what the laws' own helpers need: copies of dicts, pop, several names at once, walks over dicts -/
namespace Cw
open PySem PySem.Spec L2
section
variable {σ : St} {H : Hp} {Q : VK} {D : Ends} {K : PySem.W.Frag} {X : Cx}
theorem v_listD {a : Addr} {kvs : List (Key × V)} (h : H a = some (.dK kvs)) (q : ∀ p H', H p = none → Same H H' → H' p = some (.lst (kvs.map fun kv => kV kv.1)) → Q (.ref p) H') : rListD [.ref a] H Q := ⟨a, kvs, rfl, h, fun p hp => q p _ hp (Same.new hp) upd_same⟩
theorem pe_popK {o e : Expr} {to te : TE} {apos cpos : PySem.Pos} (h : X.K = K) (ho : PE X o to) (he : PE X e te) (hbase : attributeBase o "pop" X.env (eval o X.env) = eval o X.env := by rfl)
    (hfew : ((backTo cpos (starEach [e] X.env)).all (fun x => !x.1) && (backToKw cpos (keywordEach [] X.env)).all (fun x => x.1.isSome) && decide ([e].length + ([] : List Keyword).length + (if ([] : List Keyword).isEmpty then 0 else 1) < 30)) = true := by rfl)
    (hline : (apos.endLine == cpos.line) = true := by rfl) (hs : starEach [e] X.env = (false, eval e X.env) :: starEach [] X.env := by rfl) (hplain : (backTo cpos (starEach [] X.env)).any (·.1) = false := by rfl) :
    PE X (.Call (.Attribute o "pop" apos) [e] [] cpos) (tBM K "list" rPopAt to (tCons te tNil)) := h ▸ pe_bm PySem.F.plainAttrs_list PySem.F.slot_list_pop PySem.F.type_list_pop mt_popAt ho (pa_cons he pa_nil hs) hbase hfew hline hs hplain
theorem v_pop {p : Addr} {xs : List V} {i : Int} {y : V} (h : H p = some (.lst xs)) (h0 : 0 ≤ i) (h1 : i < xs.length) (h2 : xs.length ≤ 1000000) (hy : xs[i.toNat]? = some y) (q : ∀ H', Keep p H H' → H' p = some (.lst (xs.eraseIdx i.toNat)) → Q y H') : rPopAt (.ref p) [.int i] H Q := by
  refine ⟨p, xs, i, i.toNat, y, rfl, rfl, h, by omega, by omega, ?_, hy, q _ Keep.put upd_same⟩
  unfold seqIndex?
  simp only [if_neg (show ¬ i < 0 by omega)]
  first
    | rw [if_pos (by omega)]
    | simp [h0, h1]
theorem e_par {i j : Nat} {ta : TA} (q : ta σ H fun vs H1 => ∃ v w, vs = [v, w] ∧ D.nx ((σ.set i (some v)).set j (some w)) H1) : tPar i j ta D σ H := q
theorem v_par {v w : V} {P : V → V → Prop} (q : P v w) : ∃ v' w', [v, w] = [v', w'] ∧ P v' w' := ⟨v, w, rfl, q⟩
theorem e_par3 {i j l : Nat} {ta : TA} (q : ta σ H fun vs H1 => ∃ u v w, vs = [u, v, w] ∧ D.nx (((σ.set i (some u)).set j (some v)).set l (some w)) H1) : tPar3 i j l ta D σ H := q
theorem v_par3 {u v w : V} {P : V → V → V → Prop} (q : P u v w) : ∃ u' v' w', [u, v, w] = [u', v', w'] ∧ P u' v' w' := ⟨u, v, w, rfl, q⟩
theorem e_lock {t : TS} {d : Addr} {u : HO} (h : H d = some u) (m : Mut (some u)) (q : ∀ od, t ⟨fun σ' H' => H' d = some (.frz od u) ∧ D.nx σ' (upd H' d u), fun v H' => H' d = some (.frz od u) ∧ D.rt v (upd H' d u), fun σ' H' => H' d = some (.frz od u) ∧ D.bk σ' (upd H' d u), fun σ' H' => H' d = some (.frz od u) ∧ D.ct σ' (upd H' d u)⟩ σ (upd H d (.frz od u))) : tLock t D σ H := ⟨d, u, h, m, q⟩
theorem e_iK {td : TE} {R : It → Hp → Prop} (q : td σ H fun x H1 => ∃ d o, x = .ref d ∧ ((∃ kvs, H1 d = some (.frz o (.dK kvs)) ∧ R (Itk d o kvs) H1) ∨ ∃ kvs, H1 d = some (.frz o (.dT kvs)) ∧ R (Itkt d o kvs) H1)) : iKeys td σ H R := q
theorem e_dnotin {ty td : TE} (q : ty σ H fun y H1 => td σ H1 fun x H2 => ∃ a o, x = .ref a ∧ DGet H2 a y o ∧ Q (.bl (!o.isSome)) H2) : tDNotIn ty td σ H Q := q
end
theorem erase_perm {α : Type} : ∀ (l : List α) (i : Nat) (h : i < l.length), (l[i] :: l.eraseIdx i).Perm l
  | x :: r, 0, _ => .refl _
  | x :: r, i + 1, h => by
    have h' : i < r.length := by simpa using h
    have ih := erase_perm r i h'
    show (r[i] :: x :: r.eraseIdx i).Perm (x :: r)
    exact (List.Perm.swap x _ _).trans (ih.cons x)
theorem erase_map {α β : Type} (f : α → β) : ∀ (l : List α) (i : Nat), (l.map f).eraseIdx i = (l.eraseIdx i).map f
  | [], _ => rfl
  | x :: r, 0 => rfl
  | x :: r, i + 1 => by
    show f x :: (r.map f).eraseIdx i = f x :: (r.eraseIdx i).map f
    rw [erase_map f r i]
/-! ### tables by letters -/
def tabKV (ls : List Nat) (f : Nat → List Nat) : List (Key × V) := ls.map fun c => ((Sum.inr (tx [c]) : Key), V.str (tx (f c)))
structure Tab (ls : List Nat) (f : Nat → List Nat) : Prop where
  nd : ls.Nodup
  lt : ∀ c ∈ ls, c ∈ LET
  len : ls.length ≤ 8
  sub : ∀ a ∈ ls, ∀ b ∈ f a, b ∈ ls ∧ b ≠ a ∧ a ∈ f b
  gl : ∀ a ∈ ls, (f a).length ≤ 8
def tabPairs (ls : List Nat) (f : Nat → List Nat) : List (List Nat) := pairsOf (ls.flatMap fun a => (f a).map fun b => ascOf [a, b])
theorem tab_get {H : Hp} {d : Addr} {ls : List Nat} {f : Nat → List Nat} {k : Nat} (h : H d = some (.dK (tabKV ls f))) (hk : k ∈ ls) : DGet H d (.str (tx [k])) (some (.str (tx (f k)))) := dget_let (g := fun c => V.str (tx (f c))) h hk
theorem tab_getF {H : Hp} {d : Addr} {o : Obj} {ls : List Nat} {f : Nat → List Nat} {k : Nat} (h : H d = some (.frz o (.dK (tabKV ls f)))) (hk : k ∈ ls) : DGet H d (.str (tx [k])) (some (.str (tx (f k)))) :=
  .inl ⟨_, Sum.inr (tx [k]), .inr ⟨o, h⟩, rfl, (letV_some (g := fun c => V.str (tx (f c))) hk).symm⟩
theorem tab_keys (ls : List Nat) (f : Nat → List Nat) : ((tabKV ls f).map fun kv => kV kv.1) = ls.map fun c => V.str (tx [c]) := by
  unfold tabKV
  rw [List.map_map]
  rfl
theorem putTab {f : Nat → List Nat} {k : Nat} {z : List Nat} : ∀ {ls : List Nat}, k ∈ ls → putK (tabKV ls f) (Sum.inr (tx [k])) (V.str (tx z)) = tabKV ls (fun c => if c = k then z else f c) := by
  intro ls hk
  unfold putK
  have h1 : valV (tabKV ls f) (Sum.inr (tx [k])) = some (V.str (tx (f k))) := letV_some (g := fun c => V.str (tx (f c))) hk
  rw [if_pos (by rw [valV_any, h1]; rfl)]
  unfold tabKV
  rw [List.map_map]
  refine List.map_congr_left fun c _ => ?_
  show (if (Sum.inr (tx [c]) : Key) = Sum.inr (tx [k]) then _ else _) = _
  by_cases e : c = k
  · subst e
    rw [if_pos rfl]
    show (_, _) = (_, V.str (tx (if c = c then z else f c)))
    rw [if_pos rfl]
  · rw [if_neg (fun z => e (by have := key_tx.mp z; injection this))]
    show (_, _) = (_, V.str (tx (if c = k then z else f c)))
    rw [if_neg e]
theorem tab_put {H : Hp} {d : Addr} {ls : List Nat} {f : Nat → List Nat} {k : Nat} {z : List Nat} (h : H d = some (.dK (tabKV ls f))) (hk : k ∈ ls) (hl : ls.length < 1000000) : DPut H d (.str (tx [k])) (.str (tx z)) (upd H d (.dK (tabKV ls (fun c => if c = k then z else f c)))) := by
  have e := DPut.k (k := Sum.inr (tx [k])) (v := V.str (tx z)) h (szlt (by unfold tabKV; rw [List.length_map]; exact hl))
  rw [putTab hk] at e
  exact e
theorem tab_new {H : Hp} {d : Addr} {ls : List Nat} {f : Nat → List Nat} {k : Nat} (h : H d = some (.dK (tabKV ls f))) (hk : ¬ k ∈ ls) (hf : f k = []) (hl : ls.length < 1000000) : DPut H d (.str (tx [k])) (.str (tx [])) (upd H d (.dK (tabKV (ls ++ [k]) f))) := by
  have e := DPut.cross (l := [k]) (v := V.str (tx [])) h (letV_none (g := fun c => V.str (tx (f c))) hk) (by unfold tabKV; rw [List.length_map]; exact hl)
  have e2 : tabKV (ls ++ [k]) f = tabKV ls f ++ [((Sum.inr (tx [k]) : Key), V.str (tx []))] := by
    unfold tabKV
    rw [List.map_append]
    show _ ++ [((Sum.inr (tx [k]) : Key), V.str (tx (f k)))] = _
    rw [hf]
  rw [e2]
  exact e
theorem asc2_all : ∀ a ∈ LET, ∀ b ∈ LET, a < b → ascOf [a, b] = [a, b] ∧ ascOf [b, a] = [a, b] := by decide +kernel
theorem asc2 {a b : Nat} (ha : a ∈ LET) (hb : b ∈ LET) (h : a < b) : ascOf [a, b] = [a, b] ∧ ascOf [b, a] = [a, b] := asc2_all a ha b hb h
theorem pairsOf_small (f : List (List Nat)) : ∀ l ∈ pairsOf f, ∀ c ∈ l, c < 1000 := by
  intro l hl c hc
  obtain ⟨a, b, rfl, ha, hb, _⟩ := pairsOf_mem.mp hl
  have h1 := LET_lt ha
  have h2 := LET_lt hb
  simp only [List.mem_cons, List.not_mem_nil, or_false] at hc
  rcases hc with rfl | rfl <;> omega
end Cw
set_option Elab.async false
set_option linter.all false
set_option maxRecDepth 100000
set_option maxHeartbeats 4000000
/-! the drawn tables, in plain words -/
namespace Cw
open PySem PySem.Spec L2
def ABC : List (List Nat) := [[97, 98, 99, 100, 101, 102, 103, 104], [98, 100, 102, 104, 106, 108, 110, 112], [115, 116, 117, 118, 119, 120, 121, 122]]
def addRel (rel : Nat → Nat → Bool) (x y : Nat) : Nat → Nat → Bool := fun a b => rel a b || (a == x && b == y) || (a == y && b == x)
/-- which kinds cross: both ways, never with itself, kinds alone -/
structure RelOk (ls : List Nat) (rel : Nat → Nat → Bool) : Prop where
  sym : ∀ a b, rel a b = rel b a
  «in» : ∀ a b, rel a b = true → a ∈ ls ∧ b ∈ ls ∧ a ≠ b
/-- only pairs up to here -/
def Upto (ls : List Nat) (rel : Nat → Nat → Bool) (i j : Nat) : Prop := ∀ i1 j1, i1 < j1 → j1 < ls.length → rel (ls.getD i1 0) (ls.getD j1 0) = true → i1 < i ∨ (i1 = i ∧ j1 < j)
def crossBy (ls : List Nat) (rel : Nat → Nat → Bool) (c : Nat) : List Nat := ls.filter (rel c)
theorem getD_inj {ls : List Nat} (h : ls.Nodup) {i j : Nat} (hi : i < ls.length) (hj : j < ls.length) (e : ls.getD i 0 = ls.getD j 0) : i = j := by
  rw [List.getD_eq_getElem?_getD, List.getD_eq_getElem?_getD, List.getElem?_eq_getElem hi, List.getElem?_eq_getElem hj] at e
  exact (List.getElem_inj h).mp e
theorem filter_snoc {ls : List Nat} {p : Nat → Bool} {j : Nat} (hn : ls.Nodup) (hj : j < ls.length) (hz : ∀ j', j ≤ j' → j' < ls.length → p (ls.getD j' 0) = false) : ls.filter (fun c => p c || c == ls.getD j 0) = ls.filter p ++ [ls.getD j 0] := by
  have e : ls = ls.take j ++ ls.getD j 0 :: ls.drop (j + 1) := by
    rw [List.getD_eq_getElem?_getD, List.getElem?_eq_getElem hj]
    show ls = ls.take j ++ ls[j] :: ls.drop (j + 1)
    rw [← List.drop_eq_getElem_cons hj, List.take_append_drop]
  have hd : ∀ c ∈ ls.drop (j + 1), p c = false ∧ c ≠ ls.getD j 0 := by
    intro c hc
    obtain ⟨k, hk, e⟩ := List.mem_iff_getElem.mp hc
    rw [List.length_drop] at hk
    rw [List.getElem_drop] at e
    have hk2 : j + 1 + k < ls.length := by omega
    have e2 : ls.getD (j + 1 + k) 0 = c := by
      rw [List.getD_eq_getElem?_getD, List.getElem?_eq_getElem hk2]
      exact e
    refine ⟨e2 ▸ hz _ (by omega) hk2, fun z => ?_⟩
    have := getD_inj hn hk2 hj (e2.trans z)
    omega
  have ht : ∀ c ∈ ls.take j, c ≠ ls.getD j 0 := fun c hc z => take_notin hn hj (z ▸ hc)
  have hpy : p (ls.getD j 0) = false := hz j (Nat.le_refl _) hj
  generalize ls.getD j 0 = y at *
  have h1 : ls.filter (fun c => p c || c == y) = (ls.take j).filter p ++ [y] := by
    conv => lhs; rw [e]
    rw [List.filter_append, List.filter_cons_of_pos (by simp)]
    congr 1
    · refine List.filter_congr fun c hc => ?_
      have := ht c hc
      simp [this]
    · congr 1
      rw [List.filter_eq_nil_iff]
      intro c hc
      obtain ⟨a, b⟩ := hd c hc
      simp [a, b]
  have h2 : ls.filter p = (ls.take j).filter p := by
    conv => lhs; rw [e]
    rw [List.filter_append, List.filter_cons_of_neg (by rw [hpy]; decide)]
    have : (ls.drop (j + 1)).filter p = [] := by
      rw [List.filter_eq_nil_iff]
      intro c hc
      rw [(hd c hc).1]
      decide
    rw [this, List.append_nil]
  rw [h1, h2]
section
variable {ls : List Nat} {rel : Nat → Nat → Bool} {i j : Nat}
theorem tabStep (hn : ls.Nodup) (ok : RelOk ls rel) (hij : i < j) (hj : j < ls.length) (up : Upto ls rel i j) :
    ∀ c ∈ ls, (if c = ls.getD j 0 then (if ls.getD j 0 = ls.getD i 0 then crossBy ls rel (ls.getD i 0) ++ [ls.getD j 0] else crossBy ls rel (ls.getD j 0)) ++ [ls.getD i 0] else if c = ls.getD i 0 then crossBy ls rel (ls.getD i 0) ++ [ls.getD j 0] else crossBy ls rel c) = crossBy ls (addRel rel (ls.getD i 0) (ls.getD j 0)) c := by
  intro c hc
  have hi : i < ls.length := by omega
  have ne : ls.getD j 0 ≠ ls.getD i 0 := fun z => by have := getD_inj hn hj hi z; omega
  by_cases e1 : c = ls.getD j 0
  · subst e1
    rw [if_pos rfl, if_neg ne]
    unfold crossBy
    rw [← filter_snoc hn hi]
    · refine List.filter_congr fun b _ => ?_
      unfold addRel
      have e : (ls.getD j 0 == ls.getD i 0) = false := beq_eq_false_iff_ne.mpr ne
      rw [e]
      simp
    · intro j' h1 h2
      by_cases h3 : j' = j
      · subst h3
        cases z : rel (ls.getD j' 0) (ls.getD j' 0) with
        | false => rfl
        | true => exact absurd rfl (ok.in _ _ z).2.2
      · cases z : rel (ls.getD j 0) (ls.getD j' 0) with
        | false => rfl
        | true =>
          rcases Nat.lt_or_gt_of_ne h3 with h4 | h4
          · rw [ok.sym] at z
            have := up j' j h4 hj z
            omega
          · have := up j j' h4 h2 z
            omega
  · rw [if_neg e1]
    by_cases e2 : c = ls.getD i 0
    · subst e2
      rw [if_pos rfl]
      unfold crossBy
      rw [← filter_snoc hn hj]
      · refine List.filter_congr fun b _ => ?_
        unfold addRel
        have e : (ls.getD i 0 == ls.getD j 0) = false := beq_eq_false_iff_ne.mpr e1
        rw [e]
        simp
      · intro j' h1 h2
        cases z : rel (ls.getD i 0) (ls.getD j' 0) with
        | false => rfl
        | true =>
          have := up i j' (by omega) h2 z
          omega
    · rw [if_neg e2]
      unfold crossBy
      refine List.filter_congr fun b _ => ?_
      unfold addRel
      have a1 : (c == ls.getD i 0) = false := beq_eq_false_iff_ne.mpr e2
      have a2 : (c == ls.getD j 0) = false := beq_eq_false_iff_ne.mpr e1
      rw [a1, a2]
      simp
theorem RelOk.add (ok : RelOk ls rel) {x y : Nat} (hx : x ∈ ls) (hy : y ∈ ls) (ne : x ≠ y) : RelOk ls (addRel rel x y) where
  sym a b := by
    unfold addRel
    rw [ok.sym a b, Bool.or_assoc, Bool.or_assoc]
    congr 1
    rw [Bool.or_comm, Bool.and_comm, Bool.and_comm (a == x)]
  «in» a b h := by
    unfold addRel at h
    simp only [Bool.or_eq_true, Bool.and_eq_true, beq_iff_eq] at h
    rcases h with (h | ⟨rfl, rfl⟩) | ⟨rfl, rfl⟩
    · exact ok.in a b h
    · exact ⟨hx, hy, ne⟩
    · exact ⟨hy, hx, ne.symm⟩
theorem Upto.add (hn : ls.Nodup) (hij : i < j) (hj : j < ls.length) (up : Upto ls rel i j) : Upto ls (addRel rel (ls.getD i 0) (ls.getD j 0)) i (j + 1) := by
  intro i1 j1 h1 h2 h3
  unfold addRel at h3
  simp only [Bool.or_eq_true, Bool.and_eq_true, beq_iff_eq] at h3
  rcases h3 with (h | ⟨h4, h5⟩) | ⟨h4, h5⟩
  · have := up i1 j1 h1 h2 h
    omega
  · have a := getD_inj hn (by omega) (by omega) h4
    have b := getD_inj hn h2 hj h5
    omega
  · have a := getD_inj hn (by omega) hj h4
    have b := getD_inj hn h2 (by omega) h5
    omega
theorem Upto.more (up : Upto ls rel i j) : Upto ls rel i (j + 1) := fun i1 j1 h1 h2 h3 => by
  have := up i1 j1 h1 h2 h3
  omega
theorem Upto.turn {k : Nat} (up : Upto ls rel i j) (h : ls.length ≤ j) : Upto ls rel (i + 1) k := fun i1 j1 h1 h2 h3 => by
  have := up i1 j1 h1 h2 h3
  omega
end
theorem walk_rI {lo : Int} {n : Nat} (f : Nat → Int) (h : ∀ k : Nat, lo + (k : Int) = f k) : Walk (Itr lo n) n (fun _ => True) (YFn fun k => .int (f k)) :=
  walk_range.mono (fun _ h => h) fun i H x H' _ _ y => ⟨y.1, by show x = V.int (f i); rw [← h i]; exact y.2⟩
theorem at_getD {ls : List Nat} {i : Nat} (h : i < ls.length) : atI ls ((i : Nat) : Int) = some (ls.getD i 0) := by
  refine atI_nat ?_
  rw [List.getD_eq_getElem?_getD, List.getElem?_eq_getElem h]
  rfl
theorem tabKV_congr {ls : List Nat} {f g : Nat → List Nat} (h : ∀ c ∈ ls, f c = g c) : tabKV ls f = tabKV ls g := by
  unfold tabKV
  refine List.map_congr_left fun c hc => ?_
  rw [h c hc]
theorem ascOf_congr {a b : List Nat} (h : ∀ c, c ∈ a ↔ c ∈ b) : ascOf a = ascOf b := by
  unfold ascOf
  exact List.filter_congr fun c _ => decide_eq_decide.mpr (h c)
/-- the pairs that the laws tell a plan by -/
theorem tabPairs_eq {ls : List Nat} {f : Nat → List Nat} {ps : List (List Nat)} (T : Tab ls f) (h1 : ∀ p ∈ ps, ∃ a b, p = [a, b] ∧ a ∈ ls ∧ b ∈ f a) (h2 : ∀ a ∈ ls, ∀ b ∈ f a, a < b → [a, b] ∈ ps) : pairsOf (ps.map ascOf) = tabPairs ls f := by
  unfold tabPairs
  refine pairsOf_congr fun a b _ _ => ?_
  rw [List.mem_map, List.mem_flatMap]
  constructor
  · rintro ⟨p, hp, e⟩
    obtain ⟨x, y, rfl, hx, hy⟩ := h1 p hp
    exact ⟨x, hx, List.mem_map.mpr ⟨y, hy, e⟩⟩
  · rintro ⟨x, hx, hm⟩
    obtain ⟨y, hy, e⟩ := List.mem_map.mp hm
    obtain ⟨y1, y2, y3⟩ := T.sub x hx y hy
    by_cases h : x < y
    · exact ⟨_, h2 x hx y hy h, e⟩
    · have hlt : y < x := by omega
      refine ⟨_, h2 y y1 x y3 hlt, ?_⟩
      have := asc2 (T.lt y y1) (T.lt x hx) hlt
      rw [this.1, ← this.2]
      exact e
/-- a drawn table: a beginning of one of the three texts -/
structure Flr (num : Nat) (ls : List Nat) (rel : Nat → Nat → Bool) : Prop where
  cut : ∃ t ∈ ABC, ∃ m, 1 ≤ m ∧ m ≤ num ∧ ls = t.take m
  ok : RelOk ls rel
theorem abc_ok : ∀ t ∈ ABC, t.Nodup ∧ (∀ c ∈ t, c ∈ LET) ∧ t.length = 8 ∧ t.Pairwise (· < ·) := by decide +kernel
section
variable {num : Nat} {ls : List Nat} {rel : Nat → Nat → Bool}
theorem cut_nd (h : ∃ t ∈ ABC, ∃ m, 1 ≤ m ∧ m ≤ num ∧ ls = t.take m) : ls.Nodup := by
  obtain ⟨t, ht, m, h1, h2, rfl⟩ := h
  exact (List.take_sublist m t).nodup (abc_ok t ht).1
theorem cut_lt (h : ∃ t ∈ ABC, ∃ m, 1 ≤ m ∧ m ≤ num ∧ ls = t.take m) : ∀ c ∈ ls, c ∈ LET := by
  obtain ⟨t, ht, m, h1, h2, rfl⟩ := h
  exact fun c hc => (abc_ok t ht).2.1 c ((List.take_sublist m t).subset hc)
theorem cut_len (h : ∃ t ∈ ABC, ∃ m, 1 ≤ m ∧ m ≤ num ∧ ls = t.take m) : ls.length ≤ 8 ∧ ls.length ≤ num ∧ 1 ≤ ls.length := by
  obtain ⟨t, ht, m, h1, h2, rfl⟩ := h
  have := (abc_ok t ht).2.2.1
  rw [List.length_take]
  omega
theorem cut_lt' (h : ∃ t ∈ ABC, ∃ m, 1 ≤ m ∧ m ≤ num ∧ ls = t.take m) : ls.Pairwise (· < ·) := by
  obtain ⟨t, ht, m, h1, h2, rfl⟩ := h
  exact List.Pairwise.sublist (List.take_sublist m t) (abc_ok t ht).2.2.2
theorem Flr.tab (h : Flr num ls rel) : Tab ls (crossBy ls rel) where
  nd := cut_nd h.cut
  lt := cut_lt h.cut
  len := (cut_len h.cut).1
  sub a ha b hb := by
    obtain ⟨h1, h2⟩ := List.mem_filter.mp hb
    refine ⟨h1, (h.ok.in a b h2).2.2.symm, List.mem_filter.mpr ⟨ha, ?_⟩⟩
    rw [h.ok.sym]
    exact h2
  gl a ha := Nat.le_trans (List.length_filter_le _ _) (cut_len h.cut).1
end
end Cw
set_option Elab.async false
set_option linter.all false
set_option maxRecDepth 100000
set_option maxHeartbeats 4000000
/-! calls within a try; calls that raise nothing after all -/
namespace Cw
open PySem PySem.Spec L2
section
variable {P : Program} {w : World} {K : PySem.W.Frag} {mg : Str → Option Value} {base : Heap} {k : Nat} {f : Addr} {fd : FuncData} {ps : List Str} {sp : Sp}
/-- a promise whose wishes for errors are none -/
def calmOf (sp : Sp) : Sp := fun vs H Q _ => sp vs H Q fun _ _ _ => False
theorem calm_fn (F : FnOk P w K mg base (L2.CX P w) k f fd ps sp) : FnOk P w K mg base CX0 k f fd ps (calmOf sp) := by
  refine ⟨fun vs H Q E h => F.len _ _ _ _ h, fun A outer s H args us vs Q E hr e0 hb hv h => ?_⟩
  refine codeAny_mono (F.run A outer s H args us vs Q (fun _ _ _ => False) hr e0 hb hv h) fun r s' q => ?_
  cases r with
  | ok fl => cases fl <;> exact q
  | error e =>
    obtain ⟨a, B, H', cls, d, _, _, _, _, _, _, _, z⟩ := q
    exact z.elim
theorem Def.calm {x : Str} (D : Def P w K mg base (L2.CX P w) k x ps sp) : Def P w K mg base CX0 k x ps (calmOf sp) := by
  obtain ⟨f, fd, a, b, c, d⟩ := D.ex
  exact ⟨f, fd, a, b, c, calm_fn d⟩
theorem MDef.calm {C : Addr} {m : Str} (D : MDef P w K mg base (L2.CX P w) k C m ps sp) : MDef P w K mg base CX0 k C m ps (calmOf sp) := by
  obtain ⟨f, fd, a, b, c, d, e⟩ := D.ex
  exact ⟨f, fd, a, b, c, d, calm_fn e⟩
end
section
variable {X : Cx} {CX : CXT} {k : Nat} {C : Addr} {x m : Str} {ps : List Str} {sp : Sp} {E : St → XK} {p pos apos : PySem.Pos} {o e : Expr} {es : List Expr} {ta : TE} {t : TA}
theorem pe_cdS (D : Def X.prog X.w X.K X.mg X.base CX k x ps sp) (hr : Room k X.A) (hx : ∀ σ, PassesAt CX X σ (E σ)) (ha : PA X (e :: es) t) (hg : Gl X x := by rfl) (hdb : (x == ("__debug__" : Str)) = false := by decide)
    (he : starEach (e :: es) X.env = (false, eval e X.env) :: starEach es X.env := by rfl) (hpl : (backTo pos (starEach es X.env)).any (·.1) = false := by rfl) : PE X (.Call (.Name x p) (e :: es) [] pos) (tCallS sp E t) := by
  obtain ⟨f, fd, a, b, c, d⟩ := D.ex
  exact pe_callS d hr hg a b c.b hx ha hdb he hpl
def tMethS (C : Addr) (m : Str) (sp : Sp) (E : St → XK) (ta : TE) (t : TA) : TE := fun σ H Q => ta σ H fun x H1 => ∃ a dx fs, x = .ref a ∧ H1 a = some (.ins C dx fs) ∧ fs.lookup m = none ∧ t σ H1 fun vs H2 => sp (x :: vs) H2 Q (E σ)
end
/-- a try with one clause, its reading by name -/
def tTryA (K : PySem.W.Frag) (c : Value) (i : Nat) (ts : Addr → Value → Option Addr → TS) (Wout : WX) (tb : WX → TS) : TS := fun D σ H => tb (wAs K c i ts Wout D) D σ H
theorem e_tryA {K : PySem.W.Frag} {c : Value} {i : Nat} {ts : Addr → Value → Option Addr → TS} {Wout : WX} {tb : WX → TS} {D : Ends} {σ : St} {H : Hp} (q : tb (wAs K c i ts Wout D) D σ H) : tTryA K c i ts Wout tb D σ H := q
section
variable {σ : St} {H : Hp} {Q : VK} {C : Addr} {m : Str} {sp : Sp} {E : St → XK} {ta : TE} {t : TA}
theorem e_callS (q : t σ H fun vs H1 => sp vs H1 Q (E σ)) : tCallS sp E t σ H Q := q
theorem e_mdS (q : ta σ H fun x H1 => ∃ a dx fs, x = .ref a ∧ H1 a = some (.ins C dx fs) ∧ fs.lookup m = none ∧ t σ H1 fun vs H2 => sp (x :: vs) H2 Q (E σ)) : tMethS C m sp E ta t σ H Q := q
end
theorem s_asgT {te : TE} {K : PySem.W.Frag} {n : Nat} {t : TGs} {D : Ends} {σ : St} {H : Hp} (q : te σ H fun v H1 => gTup K n t v σ H1 fun σ' H' => D.nx σ' H') : tAsg te (gTup K n t) D σ H := q
theorem e_pr {tk tv : TE} {r : List (TE × TE)} {σ : St} {H : Hp} {Q : List (V × V) → Hp → Prop} (q : tk σ H fun x H1 => tv σ H1 fun y H2 => tPairs r σ H2 fun ps H3 => Q ((x, y) :: ps) H3) : tPairs ((tk, tv) :: r) σ H Q := q
theorem e_pr0 {σ : St} {H : Hp} {Q : List (V × V) → Hp → Prop} (q : Q [] H) : tPairs [] σ H Q := q
theorem e_disp {trs : List (TE × TE)} {σ : St} {H : Hp} {Q : VK} (q : ∀ p, H p = none → tPairs trs σ (upd H p (.dK [])) fun ps H2 => H2 p = some (.dK []) ∧ ∃ kvs : List (Key × V), ps = kvs.map (fun kv => (kV kv.1, kv.2)) ∧ kvs.length ≤ 15 ∧ Q (.ref p) (upd H2 p (.dK (mergeK [] kvs)))) : tDisp trs σ H Q := q
theorem sqL_same {K : PySem.W.Frag} {H H' : Hp} {a : Addr} {xs : List V} (h : SqL K H a xs) (s : Same H H') : SqL K H' a xs := by
  rcases h with (h | ⟨o, h⟩) | h
  · exact .inl (.inl (s _ _ h))
  · exact .inl (.inr ⟨o, s _ _ h⟩)
  · exact .inr h
theorem v_slL {K : PySem.W.Frag} {H : Hp} {Q : VK} {a : Addr} {xs : List V} {lo hi : Option Int} (h : SqL K H a xs) (q : ∀ p H', H p = none → Same H H' → H' p = some (.lst (cutV xs lo hi)) → Q (.ref p) H') : rSlL K (.ref a) lo hi H Q := ⟨a, xs, rfl, h, fun p hp => q p _ hp (Same.new hp) upd_same⟩
end Cw
set_option Elab.async false
set_option linter.all false
set_option maxRecDepth 100000
set_option maxHeartbeats 4000000
/-! plans that are not equal, in plain words -/
namespace Cw
open PySem PySem.Spec L2
/-- the end of a body, by a name: smaller goals -/
theorem s_hide {t : TS} {D0 : Ends} {σ : St} {H : Hp} (h : ∀ D : Ends, (∀ σ H, D0.nx σ H → D.nx σ H) → t D σ H) : t D0 σ H := h D0 fun _ _ z => z
theorem tabPairs_lt {ls : List Nat} {f : Nat → List Nat} (T : Tab ls f) {p : List Nat} (h : p ∈ tabPairs ls f) : ∃ a b, p = [a, b] ∧ a < b ∧ a ∈ ls ∧ b ∈ ls ∧ b ∈ f a := by
  obtain ⟨a, b, rfl, ha, hb, hm⟩ := pairsOf_mem.mp h
  obtain ⟨x, hx, hm⟩ := List.mem_flatMap.mp hm
  obtain ⟨y, hy, e⟩ := List.mem_map.mp hm
  obtain ⟨y1, y2, y3⟩ := T.sub x hx y hy
  by_cases hl : x < y
  · rw [(asc2 (T.lt x hx) (T.lt y y1) hl).1] at e
    injection e with e1 e2
    injection e2 with e2
    subst e1 e2
    exact ⟨_, _, rfl, hl, hx, y1, hy⟩
  · have hl : y < x := by omega
    rw [(asc2 (T.lt y y1) (T.lt x hx) hl).2] at e
    injection e with e1 e2
    injection e2 with e2
    subst e1 e2
    exact ⟨_, _, rfl, hl, y1, hx, y3⟩
section
variable {K : PySem.W.Frag} {H : Hp} {Q : VK} {p q : Addr} {n m : Int} {a b : List Nat}
end
end Cw
set_option Elab.async false
set_option linter.all false
set_option maxRecDepth 100000
set_option maxHeartbeats 4000000
/-! calls with keywords and with defaults, by where each parameter comes from -/
namespace Cw
open PySem PySem.Spec L2
/-- a parameter's value: the i-th that is given, a default, a keyword's -/
inductive Src where
  | pos (i : Nat)
  | dfl (i : Nat)
  | kw (i : Nat)
def Src.up : Src → Src
  | .pos i => .pos (i + 1)
  | .dfl i => .dfl i
  | .kw i => .kw i
def getS {α : Type} (us its ws : List α) : Src → Option α
  | .pos i => us[i]?
  | .dfl i => its[i]?
  | .kw i => ws[i]?
def gS (ss : List Src) {α : Type} (us its ws : List α) : List α := ss.filterMap (getS us its ws)
theorem vals_get : ∀ {vs : List V} {us : List Value}, Vals vs us → ∀ i : Nat, (vs[i]? = none ∧ us[i]? = none) ∨ ∃ v u, vs[i]? = some v ∧ us[i]? = some u ∧ RelV v u
  | _, _, .nil, i => .inl ⟨rfl, rfl⟩
  | _, _, .cons r t, 0 => .inr ⟨_, _, rfl, rfl, r⟩
  | _, _, .cons r t, i + 1 => by
    have := vals_get t i
    simpa using this
theorem gS_rel {vs ds zs : List V} {us its ws : List Value} (r1 : Vals vs us) (r2 : Vals ds its) (r3 : Vals zs ws) : ∀ ss : List Src, Vals (gS ss vs ds zs) (gS ss us its ws)
  | [] => .nil
  | s :: ss => by
    have ih := gS_rel r1 r2 r3 ss
    have key : (getS vs ds zs s = none ∧ getS us its ws s = none) ∨ ∃ v u, getS vs ds zs s = some v ∧ getS us its ws s = some u ∧ RelV v u := by
      cases s with
      | pos i => exact vals_get r1 i
      | dfl i => exact vals_get r2 i
      | kw i => exact vals_get r3 i
    unfold gS at ih ⊢
    rcases key with ⟨a, b⟩ | ⟨v, u, a, b, r⟩
    · rw [List.filterMap_cons_none a, List.filterMap_cons_none b]
      exact ih
    · rw [List.filterMap_cons_some a, List.filterMap_cons_some b]
      exact .cons r ih
theorem gS_up {α : Type} {x : α} {vs ds zs : List α} : ∀ ss : List Src, gS (.pos 0 :: ss.map Src.up) (x :: vs) ds zs = x :: gS ss vs ds zs := by
  intro ss
  unfold gS
  rw [List.filterMap_cons_some (show getS (x :: vs) ds zs (.pos 0) = some x from rfl), List.filterMap_map]
  congr 1
  congr 1
  funext s
  cases s <;> rfl
/-- how a call binds its n values and its keywords ks -/
abbrev KB (K : PySem.W.Frag) (fd : FuncData) (ps : List Str) (n : Nat) (ks : List Str) (ss : List Src) (dvs : List V) : Prop := ∃ g, KBn K fd ps n ks g (fun vs zs => gS ss vs dvs zs)
section
variable {K : PySem.W.Frag} {x qual : Str} {params : Arguments} {body : List Stmt} {scope : Scope} {dvs : List V} {f : Addr} {fd : FuncData} {ps : List Str}
theorem FunD.kb (F : FunD K x qual params body scope dvs [] f fd) (n : Nat) (ks : List Str) (ss : List Src) (hd : dvs ≠ [])
    (h : ∀ (T : Addr) (kV doc pm : Value) (an : Option Addr) (cdv ct : Value) (us its ws : List Value), us.length = n → its.length = dvs.length → ws.length = ks.length →
      ∃ k, bindArgs (PySem.W.fnOf x qual params body scope (.ref T) kV doc pm an cdv ct) ⟨us, ks.zip ws⟩ = seqItems? (.ref T) >>= k ∧ k (some its.toArray) = pure (ps.zip (gS ss us its ws))) : KB K fd ps n ks ss dvs := by
  obtain ⟨its, b⟩ := F.kbindsD (ps := ps) n ks (fun {_} vs ds zs => gS ss vs ds zs) hd (fun r1 r2 r3 => gS_rel r1 r2 r3 ss) h
  exact ⟨_, b⟩
end
/-- C(..) by n values and the keywords ks -/
structure CDefN (P : Program) (w : World) (K : PySem.W.Frag) (mg : Str → Option Value) (base : Heap) (CX : CXT) (k : Nat) (x : Str) (C : Addr) (sp : Sp) (n : Nat) (ks : List Str) (ss : List Src) (dvs : List V) : Prop where
  ex : ∃ f fd ps sp0, mg x = some (.ref C) ∧ Mk K C f ∧ KB K fd ps (n + 1) ks (.pos 0 :: ss.map Src.up) dvs ∧ FnOk P w K mg base CX k f fd ps sp0 ∧ Conv C sp0 sp
/-- the reading of such a call -/
def tCN (sp : Sp) (n m : Nat) (ss : List Src) (dvs : List V) (E : XK) (t tk : TA) : TE := fun σ H Q => t σ H fun vs H1 => tk σ H1 fun zs H2 => vs.length = n ∧ zs.length = m ∧ sp (gS ss vs dvs zs) H2 Q E
section
variable {P : Program} {w : World} {K : PySem.W.Frag} {mg : Str → Option Value} {base : Heap} {CX : CXT} {k : Nat} {C : Addr} {x qual : Str} {sp : Sp} {st : Stmt} {dvs : List V} {n : Nat} {ks : List Str} {ss : List Src}
theorem CDefN.mono {j : Nat} (D : CDefN P w K mg base CX j x C sp n ks ss dvs) (h : j ≤ k) : CDefN P w K mg base CX k x C sp n ks ss dvs := by
  obtain ⟨f, fd, ps, sp0, a, b, c, d, e⟩ := D.ex
  exact ⟨f, fd, ps, sp0, a, b, c, d.mono h, e⟩
theorem CMk.kw {ps : List Str} (D : CMk P w K mg base CX k x C sp ps qual st dvs) (n : Nat) (ks : List Str) (ss : List Src) (hd : dvs ≠ [])
    (h : ∀ (T : Addr) (kV doc pm : Value) (an : Option Addr) (cdv ct : Value) (us its ws : List Value), us.length = n + 1 → its.length = dvs.length → ws.length = ks.length →
      ∃ k, bindArgs (PySem.W.fnOf "__init__" qual (defArgs st) (defBody st) (defScope st) (.ref T) kV doc pm an cdv ct) ⟨us, ks.zip ws⟩ = seqItems? (.ref T) >>= k ∧ k (some its.toArray) = pure (ps.zip (gS (.pos 0 :: ss.map Src.up) us its ws))) : CDefN P w K mg base CX k x C sp n ks ss dvs := by
  obtain ⟨f, fd, sp0, a, b, c, d, e, G⟩ := D.ex
  exact ⟨f, fd, ps, sp0, a, b, FunD.kb G (n + 1) ks _ hd h, d, e⟩
end
section
variable {X : Cx} {CX : CXT} {k n : Nat} {sp : Sp} {E : XK} {x : Str} {C : Addr} {p pos : PySem.Pos} {e : Expr} {es : List Expr} {kws : List Keyword} {t tk : TA} {ks : List Str} {ss : List Src} {dvs : List V}
theorem run_mkN {pins : List (Addr × Obj)} {σ : St} {H : Hp} {s : Shared} {Q : VK} {us ws : List Value} {vs zs : List V} {f : Addr} {fd : FuncData} {ps : List Str} {sp0 : Sp} {g : List Value → List Value → List Value} (M : Mk X.K C f) (F : FnOk X.prog X.w X.K X.mg X.base CX k f fd ps sp0) (cv : Conv C sp0 sp) (hr : Room (k + 1) X.A) (hb : KBn X.K fd ps (n + 1) ks g (fun vs zs => gS (.pos 0 :: ss.map Src.up) vs dvs zs))
    (hx : Passes CX X E) (I : Inv X pins σ H s) (r : Vals vs us) (rz : Vals zs ws) (l1 : vs.length = n) (l2 : zs.length = ks.length) (h : sp (gS ss vs dvs zs) H Q E) :
    wpAny (model X.prog X.w) X.A (call (.ref C) us (ks.zip ws)) (EP X pins σ Q) X.xe s := by
  refine run_makeN M F hr hb hx I r rz l1 l2 fun a da n1 n2 n3 => ?_
  rw [gS_up]
  exact cv _ H Q E h a da n1 n2 n3
theorem pe_mkN (D : CDefN X.prog X.w X.K X.mg X.base CX k x C sp n ks ss dvs) (hr : Room (k + 1) X.A) (hx : Passes CX X E) (ha : PA X (e :: es) t) (hkw : PK X kws tk) (hg : Gl X x := by rfl)
    (hall : (backToKw pos (keywordEach kws X.env)).all (·.1.isSome) = true := by rfl) (hks : (backToKw pos (keywordEach kws X.env)).filterMap (·.1) = ks := by rfl)
    (hdb : (x == ("__debug__" : Str)) = false := by decide) (he : starEach (e :: es) X.env = (false, eval e X.env) :: starEach es X.env := by rfl)
    (hpl : ((backTo pos (starEach (e :: es) X.env)).any (·.1) || (backToKw pos (keywordEach kws X.env)).any (·.1.isNone)) = false := by rfl) :
    PE X (.Call (.Name x p) (e :: es) kws pos) (tCN sp n ks.length ss dvs E t tk) := by
  obtain ⟨f, fd, ps, sp0, a, M, ⟨g, kb⟩, F, cv⟩ := D.ex
  refine ⟨fun pins s σ H Q I h => ?_⟩
  refine wpAny_Call_Name_kw (ld_glob I hg a ?_ hdb)
  refine PySem.W.callWith_KW (h₀ := X.base) I.ok.mod.kin M.kp hall (thn (ha.run pos pins s σ H _ I h) fun us s1 ⟨vs, H1, I1, r, q⟩ => ?_) hpl he
  refine thn (hkw.run pos pins s1 σ H1 _ I1 q) fun ws s2 ⟨zs, H2, I2, rz, l1, l2, q2⟩ => ⟨I2.kIn, ?_⟩
  rw [hks]
  exact run_mkN M F cv hr kb hx I2 r rz l1 l2 q2
end
/-! ### defs and methods by keywords -/
structure DefN (P : Program) (w : World) (K : PySem.W.Frag) (mg : Str → Option Value) (base : Heap) (CX : CXT) (k : Nat) (x : Str) (sp : Sp) (n : Nat) (ks : List Str) (ss : List Src) (dvs : List V) : Prop where
  ex : ∃ f fd ps, mg x = some (.ref f) ∧ PySem.W.keepIn K (.ref f) = true ∧ KB K fd ps n ks ss dvs ∧ FnOk P w K mg base CX k f fd ps sp
structure MDefN (P : Program) (w : World) (K : PySem.W.Frag) (mg : Str → Option Value) (base : Heap) (CX : CXT) (k : Nat) (C : Addr) (m : Str) (sp : Sp) (n : Nat) (ks : List Str) (ss : List Src) (dvs : List V) : Prop where
  ex : ∃ f fd ps, PySem.W.findIn K (.ref C) m = some (some (.ref f)) ∧ PySem.W.isFn K (.ref f) = true ∧ PySem.W.keepIn K (.ref f) = true ∧ KB K fd ps (n + 1) ks (.pos 0 :: ss.map Src.up) dvs ∧ FnOk P w K mg base CX k f fd ps sp
section
variable {P : Program} {w : World} {K : PySem.W.Frag} {mg : Str → Option Value} {base : Heap} {CX : CXT} {k : Nat} {C : Addr} {x m qual : Str} {sp : Sp} {st : Stmt} {dvs : List V} {n : Nat} {ks ps : List Str} {ss : List Src}
theorem DefN.mono {j : Nat} (D : DefN P w K mg base CX j x sp n ks ss dvs) (h : j ≤ k) : DefN P w K mg base CX k x sp n ks ss dvs := by
  obtain ⟨f, fd, ps, a, b, c, d⟩ := D.ex
  exact ⟨f, fd, ps, a, b, c, d.mono h⟩
theorem MDefN.mono {j : Nat} (D : MDefN P w K mg base CX j C m sp n ks ss dvs) (h : j ≤ k) : MDefN P w K mg base CX k C m sp n ks ss dvs := by
  obtain ⟨f, fd, ps, a, b, c, d, e⟩ := D.ex
  exact ⟨f, fd, ps, a, b, c, d, e.mono h⟩
theorem kb_of {fd : FuncData} (h : ∀ us ws : List Value, us.length = n → ws.length = ks.length → bindArgs fd ⟨us, ks.zip ws⟩ = pure (ps.zip (gS ss us [] ws))) : KB K fd ps n ks ss [] :=
  ⟨fun us ws => gS ss us [] ws, ⟨fun s us ws _ l1 l2 => .of_eq (h us ws l1 l2), fun r1 r2 => gS_rel r1 .nil r2 ss⟩⟩
theorem fd_eq {f : Addr} {fd fd' : FuncData} (h : ∃ oc od osl, K.lookup f = some ⟨oc, od, .func fd, osl⟩) (h' : ∃ oc od osl, K.lookup f = some ⟨oc, od, .func fd', osl⟩) : fd = fd' := by
  obtain ⟨_, _, _, h⟩ := h
  obtain ⟨_, _, _, h'⟩ := h'
  rw [h] at h'
  injection h' with h'
  injection h' with _ _ h' _
  injection h'
theorem Def.kw (D : Def P w K mg base CX k x ps sp) (F : FnAt K mg x st) (n : Nat) (ks : List Str) (ss : List Src)
    (h : ∀ (kV doc pm : Value) (an : Option Addr) (cdv ct : Value) (us ws : List Value), us.length = n → ws.length = ks.length → bindArgs (PySem.W.fnOf x x (defArgs st) (defBody st) (defScope st) .none kV doc pm an cdv ct) ⟨us, ks.zip ws⟩ = pure (ps.zip (gS ss us [] ws))) : DefN P w K mg base CX k x sp n ks ss [] := by
  obtain ⟨f, fd, a, b, c, d⟩ := D.ex
  obtain ⟨f', fd', a', G⟩ := F.ex
  rw [a] at a'
  injection a' with a'
  injection a' with a'
  subst a'
  have e := fd_eq c.lk (funLk G)
  subst e
  refine ⟨f, fd, ps, a, b, ?_, d⟩
  obtain ⟨oc, od, kV, doc, pm, an, cdv, ct, osl, rfl, _⟩ := G.ex
  exact kb_of (h kV doc pm an cdv ct)
theorem MDef.kw (D : MDef P w K mg base CX k C m ps sp) (F : MAt K C m qual st) (n : Nat) (ks : List Str) (ss : List Src)
    (h : ∀ (kV doc pm : Value) (an : Option Addr) (cdv ct : Value) (us ws : List Value), us.length = n + 1 → ws.length = ks.length → bindArgs (PySem.W.fnOf m qual (defArgs st) (defBody st) (defScope st) .none kV doc pm an cdv ct) ⟨us, ks.zip ws⟩ = pure (ps.zip (gS (.pos 0 :: ss.map Src.up) us [] ws))) : MDefN P w K mg base CX k C m sp n ks ss [] := by
  obtain ⟨f, fd, a, b, kp, c, d⟩ := D.ex
  obtain ⟨f', fd', a', b', G⟩ := F.ex
  rw [a] at a'
  injection a' with a'
  injection a' with a'
  injection a' with a'
  subst a'
  have e := fd_eq c.lk (funLk G)
  subst e
  refine ⟨f, fd, ps, a, b, kp, ?_, d⟩
  obtain ⟨oc, od, kV, doc, pm, an, cdv, ct, osl, rfl, _⟩ := G.ex
  exact kb_of (h kV doc pm an cdv ct)
end
section
variable {X : Cx} {CX : CXT} {k n : Nat} {sp : Sp} {E : XK} {x m : Str} {C : Addr} {p pos apos : PySem.Pos} {o e : Expr} {es : List Expr} {kws : List Keyword} {ta : TE} {t tk : TA} {ks : List Str} {ss : List Src} {dvs : List V}
theorem run_fN {pins : List (Addr × Obj)} {σ : St} {H : Hp} {s : Shared} {Q : VK} {us ws : List Value} {vs zs : List V} {f : Addr} {fd : FuncData} {ps : List Str} {g : List Value → List Value → List Value} {gV : List V → List V → List V} (F : FnOk X.prog X.w X.K X.mg X.base CX k f fd ps sp) (hr : Room k X.A) (hb : KBn X.K fd ps n ks g gV)
    (hx : Passes CX X E) (I : Inv X pins σ H s) (r : Vals vs us) (rz : Vals zs ws) (l1 : vs.length = n) (l2 : zs.length = ks.length) (h : sp (gV vs zs) H Q E) :
    wpAny (model X.prog X.w) X.A (call (.ref f) us (ks.zip ws)) (EP X pins σ Q) X.xe s := by
  have r2 := hb.rel r rz
  refine wpAny_call (codeAny_mono (F.run X.A X.stack s H ⟨us, ks.zip ws⟩ (g us ws) (gV vs zs) Q E hr I.env0 (hb.to s us ws I.kIn (r.length.symm.trans l1) (rz.length.symm.trans l2)) r2 h) fun r s' hq => ?_)
  cases r with
  | error e => exact hx pins σ H s e s' I hq
  | ok fl =>
    cases fl with
    | ret u => exact I.after hq
    | next => exact False.elim hq
    | brk => exact False.elim hq
    | cont => exact False.elim hq
theorem pe_fN0 (D : DefN X.prog X.w X.K X.mg X.base CX k x sp 0 ks ss dvs) (hr : Room k X.A) (hx : Passes CX X E) (hkw : PK X kws tk) (hg : Gl X x := by rfl)
    (hall : (backToKw pos (keywordEach kws X.env)).all (·.1.isSome) = true := by rfl) (hks : (backToKw pos (keywordEach kws X.env)).filterMap (·.1) = ks := by rfl)
    (hdb : (x == ("__debug__" : Str)) = false := by decide)
    (hpl : ((backTo pos (starEach [] X.env)).any (·.1) || (backToKw pos (keywordEach kws X.env)).any (·.1.isNone)) = false := by rfl) :
    PE X (.Call (.Name x p) [] kws pos) (tCN sp 0 ks.length ss dvs E tNil tk) := by
  obtain ⟨f, fd, ps, a, kp, ⟨g, kb⟩, F⟩ := D.ex
  refine ⟨fun pins s σ H Q I h => ?_⟩
  refine wpAny_Call_Name_kw (ld_glob I hg a ?_ hdb)
  refine PySem.W.callWith_KW0 (h₀ := X.base) I.ok.mod.kin kp hall ?_ hpl
  refine thn (hkw.run pos pins s σ H _ I h) fun ws s2 ⟨zs, H2, I2, rz, l1, l2, q2⟩ => ⟨I2.kIn, ?_⟩
  rw [hks]
  exact run_fN (us := []) (vs := []) F hr kb hx I2 .nil rz rfl l2 q2
/-- o.m(.., k = v) -/
def tMN (C : Addr) (m : Str) (sp : Sp) (n l : Nat) (ss : List Src) (dvs : List V) (E : XK) (ta : TE) (t tk : TA) : TE := fun σ H Q => ta σ H fun x H1 => ∃ a dx fs, x = .ref a ∧ H1 a = some (.ins C dx fs) ∧ fs.lookup m = none ∧ t σ H1 fun vs H2 => tk σ H2 fun zs H3 => vs.length = n ∧ zs.length = l ∧ sp (x :: gS ss vs dvs zs) H3 Q E
end
section
variable {X : Cx} {CX : CXT} {k : Nat} {C : Addr} {m : Str} {ps : List Str} {sp : Sp} {E : XK} {pos apos : PySem.Pos} {o : Expr} {ta : TE}
/-- o.m() -/
theorem pe_md0 {pl : Sem Bool} (D : MDef X.prog X.w X.K X.mg X.base CX k C m ps sp) (c : Cls X.K C) (hr : Room k X.A) (hx : Passes CX X E) (he : PE X o ta)
    (ht : eval (.Call (.Attribute o m apos) [] [] pos) X.env = (do
      let ov ← eval o X.env
      standAt apos.atName
      let (f, first) ← holding [ov] (getMethod ov m pl)
      callWith pos f first (backTo pos (starEach [] X.env)) (backToKw pos (keywordEach [] X.env))) := by rfl) :
    PE X (.Call (.Attribute o m apos) [] [] pos) (tMeth C m sp [] E ta tNil) := by
  obtain ⟨f, fd, a, b, kp, ⟨d, _⟩, g⟩ := D.ex
  exact pe_meth0 (pl := pl) he c ⟨a, b, kp⟩ g hr d .nil hx ht
/-- dict(xs) of pairs -/
def rDictP (K : PySem.W.Frag) : List V → Hp → VK → Prop := fun xs H Q => ∃ (a : Addr) (ps : List Addr) (kvs : List (Key × V)), xs = [.ref a] ∧ SqL K H a (ps.map V.ref) ∧ Paired (fun p kv => SqT K H p [kV kv.1, kv.2]) ps kvs ∧ ∀ p, H p = none → Q (.ref p) (upd H p (.dK (mergeK [] kvs)))
theorem c_dictPK {K : PySem.W.Frag} (h : X.K = K) (hc : X.calm = true) : CallR X (.type "dict") (rDictP K) := h ▸ call_dictP hc
end
theorem merge_new : ∀ {more acc : List (Key × V)}, (∀ q ∈ more, valV acc q.1 = none) → more.Pairwise (fun a b => a.1 ≠ b.1) → mergeK acc more = acc ++ more
  | [], acc, _, _ => (List.append_nil acc).symm
  | q :: more, acc, h, p => by
    have p' := List.pairwise_cons.mp p
    show mergeK (putK acc q.1 q.2) more = _
    rw [putK_new q.2 (h q (List.mem_cons_self ..)), merge_new (fun r hr => ?_) p'.2, List.append_assoc]
    · rfl
    · have h1 := h r (List.mem_cons_of_mem _ hr)
      have h2 := p'.1 r hr
      clear h p p'
      induction acc with
      | nil =>
        show valV [q] r.1 = none
        obtain ⟨a, b⟩ := q
        rw [valV_neg h2]
        rfl
      | cons c acc ih =>
        obtain ⟨a, b⟩ := c
        by_cases e : a = r.1
        · rw [e, valV_pos rfl] at h1
          cases h1
        · rw [valV_neg e] at h1
          rw [List.cons_append, valV_neg e]
          exact ih h1
section
variable {σ : St} {H : Hp} {Q : VK}
theorem e_CN {sp : Sp} {n m : Nat} {ss : List Src} {dvs : List V} {E : XK} {t tk : TA} (q : t σ H fun vs H1 => tk σ H1 fun zs H2 => vs.length = n ∧ zs.length = m ∧ sp (gS ss vs dvs zs) H2 Q E) : tCN sp n m ss dvs E t tk σ H Q := q
end
end Cw
set_option Elab.async false
set_option linter.all false
set_option maxRecDepth 100000
set_option maxHeartbeats 4000000
/-! names in plain words: no letter stands behind a greater or an equal one that it could be exchanged back to -/
namespace Cw
structure CrOk (cr : Nat → List Nat) : Prop where
  sym : ∀ a b, a ∈ cr b → b ∈ cr a
  irr : ∀ a, ¬ a ∈ cr a
/-- s may stand behind the letters of the list (the nearest first) -/
def okAt (cr : Nat → List Nat) (s : Nat) : List Nat → Prop
  | [] => True
  | t :: r => t ≠ s ∧ (t ∈ cr s → t < s ∧ okAt cr s r)
/-- a name, its last letter first -/
def NFr (cr : Nat → List Nat) : List Nat → Prop
  | [] => True
  | s :: r => okAt cr s r ∧ NFr cr r
def NF (cr : Nat → List Nat) (w : List Nat) : Prop := NFr cr w.reverse
section
variable {cr : Nat → List Nat} {s k x : Nat} {d e : List Nat}
theorem okAt_app : ∀ {q : List Nat}, okAt cr s (q ++ e) → (∀ y ∈ q, y ∈ cr s) → okAt cr s e
  | [], h, _ => h
  | y :: q, h, hq => okAt_app (q := q) (h.2 (hq y (List.mem_cons_self ..))).2 fun z hz => hq z (List.mem_cons_of_mem _ hz)
theorem okAt_lt : ∀ {q : List Nat}, okAt cr s (q ++ e) → (∀ y ∈ q, y ∈ cr s) → ∀ y ∈ q, y < s
  | [], _, _, y, hy => nomatch hy
  | z :: q, h, hq, y, hy => by
    have h2 := h.2 (hq z (List.mem_cons_self ..))
    rcases List.mem_cons.mp hy with rfl | hy
    · exact h2.1
    · exact okAt_lt h2.2 (fun z hz => hq z (List.mem_cons_of_mem _ hz)) y hy
theorem okAt_remove (hk : k ∈ cr s) : ∀ {q : List Nat}, okAt cr s (q ++ k :: e) → okAt cr s (q ++ e)
  | [], h => (h.2 hk).2
  | y :: q, h => ⟨h.1, fun z => ⟨(h.2 z).1, okAt_remove hk (h.2 z).2⟩⟩
theorem okAt_insert (hk : k ≠ s) : ∀ {q : List Nat}, okAt cr s (q ++ e) → ((∀ y ∈ q, y ∈ cr s) → k < s) → okAt cr s (q ++ k :: e)
  | [], h, hl => ⟨hk, fun _ => ⟨hl (fun _ z => nomatch z), h⟩⟩
  | y :: q, h, hl => ⟨h.1, fun z => ⟨(h.2 z).1, okAt_insert hk (h.2 z).2 fun hq => hl fun w hw => by
      rcases List.mem_cons.mp hw with rfl | hw
      · exact z
      · exact hq w hw⟩⟩
theorem NFr_right : ∀ {a b : List Nat}, NFr cr (a ++ b) → NFr cr b
  | [], _, h => h
  | _ :: a, b, h => NFr_right (a := a) h.2
theorem NFr_remove (ok : CrOk cr) : ∀ {d : List Nat}, (∀ y ∈ d, y ∈ cr k) → NFr cr (d ++ k :: e) → NFr cr (d ++ e)
  | [], _, h => h.2
  | y :: d, hd, h => ⟨okAt_remove (ok.sym _ _ (hd y (List.mem_cons_self ..))) h.1, NFr_remove ok (fun z hz => hd z (List.mem_cons_of_mem _ hz)) h.2⟩
theorem NFr_insert (ok : CrOk cr) {h0 : Nat} (hh : k < h0) (hok : okAt cr k e) : ∀ {d : List Nat}, (∀ y ∈ d, y ∈ cr k) → NFr cr (d ++ h0 :: e) → h0 ∈ cr k → NFr cr (d ++ h0 :: k :: e)
  | [], _, h, hc => ⟨okAt_insert (q := []) (by omega) h.1 fun _ => hh, hok, h.2⟩
  | y :: d, hd, h, hc => by
    have hy := hd y (List.mem_cons_self ..)
    refine ⟨?_, NFr_insert ok hh hok (fun z hz => hd z (List.mem_cons_of_mem _ hz)) h.2 hc⟩
    have h1 : okAt cr y ((d ++ [h0]) ++ e) := by
      rw [List.append_assoc]
      exact h.1
    have h2 : okAt cr y ((d ++ [h0]) ++ k :: e) := okAt_insert (fun z : k = y => ok.irr k (by rw [← z] at hy; exact hy)) h1 fun hq => by
      have := okAt_lt h1 hq h0 (by simp)
      omega
    rw [List.append_assoc] at h2
    exact h2
/-! ### what a step does -/
theorem splitB_spec (part : List Nat) : ∀ ra b : List Nat, ∃ c, (splitB part ra b).2 = c ++ b ∧ (∀ y ∈ c, y ∈ part) ∧ ra = c.reverse ++ (splitB part ra b).1 ∧ ∀ y, (splitB part ra b).1.head? = some y → ¬ y ∈ part
  | [], b => ⟨[], rfl, fun _ z => (nomatch z), rfl, fun _ z => (nomatch z)⟩
  | y :: r, b => by
    unfold splitB
    by_cases h : y ∈ part
    · rw [if_pos h]
      obtain ⟨c, h1, h2, h3, h4⟩ := splitB_spec part r (y :: b)
      refine ⟨c ++ [y], by rw [h1, List.append_assoc]; rfl, fun z hz => ?_, ?_, h4⟩
      · rcases List.mem_append.mp hz with z | z
        · exact h2 _ z
        · rw [List.mem_singleton.mp z]
          exact h
      · rw [List.reverse_append]
        show y :: r = y :: (c.reverse ++ _)
        rw [← h3]
    · rw [if_neg h]
      refine ⟨[], rfl, fun _ z => (nomatch z), rfl, fun z hz => ?_⟩
      injection hz with hz
      exact hz ▸ h
/-- the two ways of a step, the name's last letter first: d are exchanged, then the kind is found or not -/
theorem stepOf_cases (part name : List Nat) (k : Nat) : ∃ d e : List Nat, name.reverse = d ++ e ∧ (∀ y ∈ d, y ∈ part) ∧ (∀ y, e.head? = some y → ¬ y ∈ part) ∧
    ((∃ e', e = k :: e' ∧ (stepOf part name k).reverse = d ++ e') ∨ (e.head? ≠ some k ∧ (stepOf part name k).reverse = (putIn k d.reverse).reverse ++ e)) := by
  obtain ⟨c, h1, h2, h3, h4⟩ := splitB_spec part name.reverse []
  rw [List.append_nil] at h1
  refine ⟨c.reverse, (splitB part name.reverse []).1, h3, fun y hy => h2 y (List.mem_reverse.mp hy), h4, ?_⟩
  unfold stepOf
  rw [h1]
  generalize (splitB part name.reverse []).1 = ra
  unfold stepAt
  by_cases hc : ra.head? = some k
  · rw [if_pos hc]
    cases ra with
    | nil => cases hc
    | cons y r =>
      injection hc with hc
      subst hc
      exact .inl ⟨r, rfl, by simp⟩
  · rw [if_neg hc]
    exact .inr ⟨hc, by simp⟩
/-- the letters below k, the others -/
theorem putIn_split (k : Nat) (b : List Nat) : ∃ b1 b2, b = b1 ++ b2 ∧ putIn k b = b1 ++ k :: b2 ∧ (∀ y ∈ b1, y < k) ∧ ∀ y, b2.head? = some y → ¬ y < k := by
  refine ⟨b.takeWhile (fun c => decide (c < k)), b.dropWhile (fun c => decide (c < k)), List.takeWhile_append_dropWhile.symm, rfl, fun y hy => ?_, fun y hy => ?_⟩
  · have := List.all_eq_true.mp (List.all_takeWhile (p := fun c => decide (c < k)) (l := b)) y hy
    exact of_decide_eq_true this
  · have := List.head?_dropWhile_not (fun c => decide (c < k)) b
    rw [hy] at this
    simpa using this
theorem okAt_all : ∀ {q : List Nat}, (∀ y ∈ q, y < k) → okAt cr k e → (∀ y ∈ q, y ∈ cr k) → okAt cr k (q ++ e)
  | [], _, h, _ => h
  | y :: q, hl, h, hq => ⟨by have := hl y (List.mem_cons_self ..); omega, fun _ => ⟨hl y (List.mem_cons_self ..), okAt_all (fun z hz => hl z (List.mem_cons_of_mem _ hz)) h fun z hz => hq z (List.mem_cons_of_mem _ hz)⟩⟩
theorem okAt_stop (h1 : e.head? ≠ some k) (h2 : ∀ y, e.head? = some y → ¬ y ∈ cr k) : okAt cr k e := by
  cases e with
  | nil => trivial
  | cons y r => exact ⟨fun z => h1 (by rw [z]; rfl), fun z => absurd z (h2 y rfl)⟩
theorem NF_step (ok : CrOk cr) {name : List Nat} (h : NF cr name) : NF cr (stepOf (cr k) name k) := by
  obtain ⟨d, e, e1, hd, he, hc⟩ := stepOf_cases (cr k) name k
  unfold NF at h ⊢
  rw [e1] at h
  rcases hc with ⟨e', rfl, e2⟩ | ⟨hk, e2⟩
  · rw [e2]
    exact NFr_remove ok hd h
  · rw [e2]
    obtain ⟨b1, b2, eb, ep, hb1, hb2⟩ := putIn_split k d.reverse
    have ed : d = b2.reverse ++ b1.reverse := by
      have := congrArg List.reverse eb
      rw [List.reverse_reverse, List.reverse_append] at this
      exact this
    rw [ep, List.reverse_append, List.reverse_cons]
    have hd1 : ∀ y ∈ b1.reverse, y ∈ cr k := fun y hy => hd y (by rw [ed]; exact List.mem_append_right _ hy)
    have hok : okAt cr k (b1.reverse ++ e) := okAt_all (fun y hy => hb1 y (List.mem_reverse.mp hy)) (okAt_stop hk he) hd1
    have hn : NFr cr (b1.reverse ++ e) := by
      rw [ed, List.append_assoc] at h
      exact NFr_right h
    cases b2 with
    | nil =>
      show NFr cr (([] ++ [k] ++ b1.reverse) ++ e)
      exact ⟨hok, hn⟩
    | cons y r =>
      have hy : ¬ y < k := hb2 y rfl
      have hyc : y ∈ cr k := hd y (by rw [ed]; simp)
      have hne : y ≠ k := fun z => ok.irr k (z ▸ hyc)
      have e3 : ((y :: r).reverse ++ [k] ++ b1.reverse) ++ e = r.reverse ++ y :: k :: (b1.reverse ++ e) := by simp
      rw [e3]
      refine NFr_insert ok (by omega) hok (fun z hz => hd z (by rw [ed, List.reverse_cons]; exact List.mem_append_left _ (List.mem_append_left _ hz))) ?_ hyc
      rw [ed] at h
      have e4 : ((y :: r).reverse ++ b1.reverse) ++ e = r.reverse ++ y :: (b1.reverse ++ e) := by simp
      rw [e4] at h
      exact h
/-- a name with one letter more, if it is one -/
theorem step_snoc {name : List Nat} (h : okAt cr k name.reverse) : stepOf (cr k) name k = name ++ [k] := by
  obtain ⟨d, e, e1, hd, he, hc⟩ := stepOf_cases (cr k) name k
  rw [e1] at h
  have h2 := okAt_app h hd
  have h3 := okAt_lt h hd
  rcases hc with ⟨e', rfl, e2⟩ | ⟨hk, e2⟩
  · exact absurd rfl h2.1
  · obtain ⟨b1, b2, eb, ep, hb1, hb2⟩ := putIn_split k d.reverse
    have : b2 = [] := by
      cases b2 with
      | nil => rfl
      | cons y r =>
        have hy := hb2 y rfl
        have : y ∈ d := List.mem_reverse.mp (by rw [eb]; simp)
        exact absurd (h3 y this) hy
    rw [this] at ep eb
    rw [List.append_nil] at eb
    rw [ep, ← eb] at e2
    have e5 := congrArg List.reverse e2
    rw [List.reverse_reverse] at e5
    rw [e5]
    have e6 := congrArg List.reverse e1
    rw [List.reverse_reverse] at e6
    rw [e6]
    simp
end
/-! ### ways -/
def joinC (cr : Nat → List Nat) (name way : List Nat) : List Nat := way.foldl (fun n k => stepOf (cr k) n k) name
theorem joinOf_C (ks : List Nat) (ps : List (List Nat)) (name way : List Nat) : joinOf ks ps name way = joinC (crossOf ks ps) name way := rfl
section
variable {cr : Nat → List Nat}
theorem joinC_app (name a b : List Nat) : joinC cr name (a ++ b) = joinC cr (joinC cr name a) b := by
  unfold joinC
  rw [List.foldl_append]
theorem NF_join (ok : CrOk cr) : ∀ {way name : List Nat}, NF cr name → NF cr (joinC cr name way)
  | [], _, h => h
  | k :: r, name, h => NF_join (way := r) ok (NF_step ok h)
theorem NF_nil : NF cr [] := trivial
theorem NF_left {a b : List Nat} (h : NF cr (a ++ b)) : NF cr a := by
  unfold NF at h ⊢
  rw [List.reverse_append] at h
  exact NFr_right h
theorem join_NF : ∀ {way name : List Nat}, NF cr (name ++ way) → joinC cr name way = name ++ way
  | [], name, _ => (List.append_nil name).symm
  | k :: r, name, h => by
    have e : name ++ k :: r = (name ++ [k]) ++ r := by simp
    rw [e] at h ⊢
    have h1 : NF cr (name ++ [k]) := NF_left h
    have h2 : okAt cr k name.reverse := by
      unfold NF at h1
      rw [List.reverse_append] at h1
      exact h1.1
    show joinC cr (stepOf (cr k) name k) r = _
    rw [step_snoc h2]
    exact join_NF h
theorem is_NF (ok : CrOk cr) {w : List Nat} : joinC cr [] w = w ↔ NF cr w := ⟨fun h => h ▸ NF_join ok NF_nil, fun h => join_NF (name := []) h⟩
/-- the same by any two letters -/
theorem NF.two {w : List Nat} (h : NF cr w) {p q r : List Nat} {t s : Nat} (e : w = p ++ t :: (q ++ s :: r)) (hq : ∀ y ∈ q, y ∈ cr s) : t ≠ s ∧ (t ∈ cr s → t < s) := by
  unfold NF at h
  have e2 : w.reverse = r.reverse ++ s :: (q.reverse ++ t :: p.reverse) := by rw [e]; simp
  rw [e2] at h
  have h1 := (NFr_right h).1
  have h2 := okAt_app h1 fun y hy => hq y (List.mem_reverse.mp hy)
  exact ⟨h2.1, fun z => (h2.2 z).1⟩
end
end Cw
set_option Elab.async false
set_option linter.all false
set_option maxRecDepth 100000
set_option maxHeartbeats 4000000
/-! the vectors of the laws, in plain words -/
namespace Cw
/-- one coordinate of the marks, behind the door d -/
def thr (cr : Nat → List Nat) (d : Nat) (f : Nat → Int) : Nat → Int := fun e => if e = d then - f d else if e ∈ cr d then f e else f e + 2 * f d
/-- the first letter of the list is the last door -/
def act (cr : Nat → List Nat) (w : List Nat) (f : Nat → Int) : Nat → Int := w.foldr (thr cr) f
def unit (x : Nat) : Nat → Int := fun e => if e = x then 1 else 0
section
variable {cr : Nat → List Nat} {a b d e k : Nat} {f : Nat → Int} {w : List Nat}
theorem act_app (u v : List Nat) (f : Nat → Int) : act cr (u ++ v) f = act cr u (act cr v f) := by
  unfold act
  rw [List.foldr_append]
theorem thr_self : thr cr d f d = - f d := if_pos rfl
theorem thr_cr (ok : CrOk cr) (h : e ∈ cr d) : thr cr d f e = f e := by
  unfold thr
  rw [if_neg (fun z : e = d => ok.irr d (by rw [z] at h; exact h)), if_pos h]
theorem thr_not (h : e ≠ d) (h2 : ¬ e ∈ cr d) : thr cr d f e = f e + 2 * f d := by
  unfold thr
  rw [if_neg h, if_neg h2]
theorem thr_thr (ok : CrOk cr) : thr cr d (thr cr d f) = f := by
  funext e
  by_cases h : e = d
  · subst h
    rw [thr_self, thr_self]
    omega
  · by_cases h2 : e ∈ cr d
    · rw [thr_cr ok h2, thr_cr ok h2]
    · rw [thr_not h h2, thr_not h h2, thr_self]
      omega
theorem thr_comm (ok : CrOk cr) (h : a ∈ cr b) : thr cr a (thr cr b f) = thr cr b (thr cr a f) := by
  have h' := ok.sym _ _ h
  have ne : a ≠ b := fun z => ok.irr b (z ▸ h)
  funext e
  by_cases e1 : e = a
  · subst e1
    rw [thr_self, thr_cr ok h, thr_cr ok h, thr_self]
  · by_cases e2 : e = b
    · subst e2
      rw [thr_cr ok h', thr_self, thr_self, thr_cr ok h']
    · by_cases c1 : e ∈ cr a
      · by_cases c2 : e ∈ cr b
        · rw [thr_cr ok c1, thr_cr ok c2, thr_cr ok c2, thr_cr ok c1]
        · rw [thr_cr ok c1, thr_not e2 c2, thr_not e2 c2, thr_cr ok c1, thr_cr ok h']
      · by_cases c2 : e ∈ cr b
        · rw [thr_not e1 c1, thr_cr ok c2, thr_cr ok h, thr_cr ok c2, thr_not e1 c1]
        · rw [thr_not e1 c1, thr_not e2 c2, thr_cr ok h, thr_not e2 c2, thr_not e1 c1, thr_cr ok h']
          omega
theorem act_comm (ok : CrOk cr) : ∀ {q : List Nat}, (∀ y ∈ q, y ∈ cr k) → act cr q (thr cr k f) = thr cr k (act cr q f)
  | [], _ => rfl
  | y :: q, h => by
    show thr cr y (act cr q (thr cr k f)) = thr cr k (thr cr y (act cr q f))
    rw [act_comm ok fun z hz => h z (List.mem_cons_of_mem _ hz), thr_comm ok (h y (List.mem_cons_self ..))]
theorem act_step (ok : CrOk cr) (name : List Nat) (k : Nat) (f : Nat → Int) : act cr (stepOf (cr k) name k) f = act cr (name ++ [k]) f := by
  obtain ⟨d, e, e1, hd, he, hc⟩ := stepOf_cases (cr k) name k
  have e1' := congrArg List.reverse e1
  rw [List.reverse_reverse, List.reverse_append] at e1'
  have hd' : ∀ y ∈ d.reverse, y ∈ cr k := fun y hy => hd y (List.mem_reverse.mp hy)
  rcases hc with ⟨e', rfl, e2⟩ | ⟨hk, e2⟩
  · have e3 := congrArg List.reverse e2
    rw [List.reverse_reverse, List.reverse_append] at e3
    rw [e3, e1', List.reverse_cons, act_app, act_app, act_app, act_app]
    show _ = act cr e'.reverse (thr cr k (act cr d.reverse (thr cr k f)))
    rw [act_comm ok hd', thr_thr ok]
  · have e3 := congrArg List.reverse e2
    rw [List.reverse_reverse, List.reverse_append, List.reverse_reverse] at e3
    obtain ⟨b1, b2, eb, ep, hb1, hb2⟩ := putIn_split k d.reverse
    rw [e3, e1', ep, eb]
    have h2 : ∀ y ∈ b2, y ∈ cr k := fun y hy => hd' y (by rw [eb]; exact List.mem_append_right _ hy)
    simp only [act_app]
    show act cr e.reverse (act cr b1 (thr cr k (act cr b2 f))) = act cr e.reverse (act cr b1 (act cr b2 (thr cr k f)))
    rw [act_comm ok h2]
theorem act_join (ok : CrOk cr) : ∀ (way name : List Nat) (f : Nat → Int), act cr (joinC cr name way) f = act cr (name ++ way) f
  | [], name, f => by rw [List.append_nil]; rfl
  | k :: r, name, f => by
    show act cr (joinC cr (stepOf (cr k) name k) r) f = _
    rw [act_join ok r, act_app, act_step ok, ← act_app, List.append_assoc]
    rfl
/-! ### doors that lead back -/
def desc (cr : Nat → List Nat) (s : Nat) : List Nat → Prop
  | [] => False
  | t :: r => t = s ∨ (t ∈ cr s ∧ desc cr s r)
def Red (cr : Nat → List Nat) : List Nat → Prop
  | [] => True
  | t :: r => ¬ desc cr t r ∧ Red cr r
theorem desc_split {s : Nat} : ∀ {w : List Nat}, desc cr s w → ∃ p q, w = p ++ s :: q ∧ ∀ y ∈ p, y ∈ cr s
  | [], h => h.elim
  | t :: r, h => by
    rcases h with rfl | ⟨h1, h2⟩
    · exact ⟨[], r, rfl, fun _ z => (nomatch z)⟩
    · obtain ⟨p, q, rfl, hp⟩ := desc_split h2
      refine ⟨t :: p, q, rfl, fun y hy => ?_⟩
      rcases List.mem_cons.mp hy with rfl | hy
      · exact h1
      · exact hp y hy
theorem desc_of {s : Nat} : ∀ {p q : List Nat}, (∀ y ∈ p, y ∈ cr s) → desc cr s (p ++ s :: q)
  | [], _, _ => .inl rfl
  | y :: p, q, h => .inr ⟨h y (List.mem_cons_self ..), desc_of fun z hz => h z (List.mem_cons_of_mem _ hz)⟩
theorem desc_pass {s : Nat} (ok : CrOk cr) {q : List Nat} : ∀ {p : List Nat}, (∀ y ∈ p, y ∈ cr s) → (desc cr s (p ++ q) ↔ desc cr s q)
  | [], _ => Iff.rfl
  | y :: p, h => by
    have hy := h y (List.mem_cons_self ..)
    have ih := desc_pass (q := q) ok (p := p) fun z hz => h z (List.mem_cons_of_mem _ hz)
    constructor
    · rintro (rfl | ⟨_, h2⟩)
      · exact absurd hy (ok.irr _)
      · exact ih.mp h2
    · exact fun z => .inr ⟨hy, ih.mpr z⟩
/-- taken out: the door before its letter keeps what it is -/
theorem desc_out {s t : Nat} (ok : CrOk cr) (h : s ∈ cr t) {q : List Nat} : ∀ {p : List Nat}, desc cr t (p ++ q) → desc cr t (p ++ s :: q)
  | [], z => .inr ⟨h, z⟩
  | y :: p, z => by
    rcases z with z | ⟨z1, z2⟩
    · exact .inl z
    · exact .inr ⟨z1, desc_out ok h z2⟩
theorem Red_out {s : Nat} (ok : CrOk cr) {q : List Nat} : ∀ {p : List Nat}, (∀ y ∈ p, y ∈ cr s) → Red cr (p ++ s :: q) → Red cr (p ++ q)
  | [], _, h => h.2
  | y :: p, hp, h => ⟨fun z => h.1 (desc_out ok (ok.sym _ _ (hp y (List.mem_cons_self ..))) z), Red_out ok (fun z hz => hp z (List.mem_cons_of_mem _ hz)) h.2⟩
theorem Red_right : ∀ {p q : List Nat}, Red cr (p ++ q) → Red cr q
  | [], _, h => h
  | _ :: p, _, h => Red_right (p := p) h.2
/-- what is taken out of a reduced way -/
theorem Red_desc {s : Nat} (ok : CrOk cr) (h : Red cr w) (hs : desc cr s w) : ∃ u, Red cr u ∧ ¬ desc cr s u ∧ u.length + 1 = w.length ∧ (∀ f, act cr w f = thr cr s (act cr u f)) ∧ ∀ y ∈ u, y ∈ w := by
  obtain ⟨p, q, rfl, hp⟩ := desc_split hs
  refine ⟨p ++ q, Red_out ok hp h, ?_, by simp; omega, fun f => ?_, fun y hy => ?_⟩
  · rw [desc_pass ok hp]
    exact (Red_right h).1
  · rw [act_app, act_app]
    show act cr p (thr cr s (act cr q f)) = _
    rw [act_comm ok hp]
  · rcases List.mem_append.mp hy with z | z
    · exact List.mem_append_left _ z
    · exact List.mem_append_right _ (List.mem_cons_of_mem _ z)
end
/-- all coordinates are at least nought, one is above -/
def Pos (ls : List Nat) (v : Nat → Int) : Prop := (∀ x ∈ ls, 0 ≤ v x) ∧ ∃ x ∈ ls, 0 < v x
theorem mul_nn {c x : Int} (h : 0 ≤ c) (h2 : 0 ≤ x) : 0 ≤ c * x := Int.mul_nonneg h h2
theorem Pos.comb {ls : List Nat} {u v : Nat → Int} {c b : Int} (hu : Pos ls u) (hv : Pos ls v) (hc : 0 ≤ c) (hb : 0 < b) : Pos ls fun x => c * u x + b * v x := by
  refine ⟨fun x hx => ?_, ?_⟩
  · have := mul_nn hc (hu.1 x hx)
    have := mul_nn (Int.le_of_lt hb) (hv.1 x hx)
    show 0 ≤ c * u x + b * v x
    omega
  · obtain ⟨x, hx, h⟩ := hv.2
    refine ⟨x, hx, ?_⟩
    have := mul_nn hc (hu.1 x hx)
    have := Int.mul_pos hb h
    show 0 < c * u x + b * v x
    omega
theorem Pos.congr {ls : List Nat} {u v : Nat → Int} (hu : Pos ls u) (h : ∀ x ∈ ls, v x = u x) : Pos ls v := by
  refine ⟨fun x hx => h x hx ▸ hu.1 x hx, ?_⟩
  obtain ⟨x, hx, p⟩ := hu.2
  exact ⟨x, hx, h x hx ▸ p⟩
/-- the mark of the door e behind the way w, coordinate by coordinate -/
def mark (cr : Nat → List Nat) (w : List Nat) (e : Nat) : Nat → Int := fun x => act cr w (unit x) e
section
variable {cr : Nat → List Nat} {ls : List Nat}
theorem mark_pos (ok : CrOk cr) : ∀ (n : Nat) (w : List Nat), w.length = n → Red cr w → (∀ y ∈ w, y ∈ ls) →
    (∀ s ∈ ls, ¬ desc cr s w → Pos ls (mark cr w s)) ∧
    (∀ s ∈ ls, ∀ t ∈ ls, s ≠ t → ¬ s ∈ cr t → desc cr s w → ¬ desc cr t w → ∀ a b : Int, 0 ≤ a → a ≤ b → 0 < b → Pos ls fun x => a * mark cr w s x + b * mark cr w t x) := by
  intro n
  induction n using Nat.strongRecOn with
  | ind n ih =>
    intro w hn hr hw
    refine ⟨fun s hs hd => ?_, fun s hs t ht ne nc hd hd2 a b ha hab hb => ?_⟩
    · cases w with
      | nil =>
        refine ⟨fun x _ => ?_, s, hs, ?_⟩
        · show 0 ≤ unit x s
          unfold unit
          split <;> omega
        · show 0 < unit s s
          unfold unit
          rw [if_pos rfl]
          omega
      | cons t r =>
        have hr' : r.length < n := by rw [← hn]; simp
        have ht : t ∈ ls := hw t (List.mem_cons_self ..)
        have ne : s ≠ t := fun z => hd (.inl z.symm)
        obtain ⟨i1, i2⟩ := ih r.length hr' r rfl hr.2 fun y hy => hw y (List.mem_cons_of_mem _ hy)
        by_cases hc : s ∈ cr t
        · have hsr : ¬ desc cr s r := fun z => hd (.inr ⟨ok.sym _ _ hc, z⟩)
          refine (i1 s hs hsr).congr fun x _ => ?_
          show thr cr t (act cr r (unit x)) s = _
          rw [thr_cr ok hc]
          rfl
        · have key : ∀ x ∈ ls, mark cr (t :: r) s x = 1 * mark cr r s x + 2 * mark cr r t x := by
            intro x _
            show thr cr t (act cr r (unit x)) s = _
            rw [thr_not ne hc]
            show mark cr r s x + 2 * mark cr r t x = _
            omega
          by_cases hsr : desc cr s r
          · exact (i2 s hs t ht ne hc hsr hr.1 1 2 (by decide) (by decide) (by decide)).congr key
          · exact ((i1 s hs hsr).comb (i1 t ht hr.1) (by decide) (by decide)).congr key
    · obtain ⟨u, ru, du, lu, au, mu⟩ := Red_desc ok hr hd
      obtain ⟨i1, i2⟩ := ih u.length (by omega) u rfl ru fun y hy => hw y (mu y hy)
      have nc' : ¬ t ∈ cr s := fun z => nc (ok.sym _ _ z)
      have key : ∀ x ∈ ls, a * mark cr w s x + b * mark cr w t x = b * mark cr u t x + (2 * b - a) * mark cr u s x := by
        intro x _
        have e1 : mark cr w s x = - mark cr u s x := by
          show act cr w (unit x) s = _
          rw [au, thr_self]
          rfl
        have e2 : mark cr w t x = mark cr u t x + 2 * mark cr u s x := by
          show act cr w (unit x) t = _
          rw [au, thr_not ne.symm nc']
          rfl
        rw [e1, e2, Int.mul_neg, Int.mul_add, Int.sub_mul, ← Int.mul_assoc, Int.mul_comm b 2]
        omega
      by_cases htu : desc cr t u
      · exact (i2 t ht s hs ne.symm nc' htu du b (2 * b - a) (by omega) (by omega) (by omega)).congr key
      · exact ((i1 t ht htu).comb (i1 s hs du) (by omega) (by omega)).congr key
/-- a door leads back just if a coordinate of its mark is below nought -/
theorem mark_neg (ok : CrOk cr) {w : List Nat} (hr : Red cr w) (hw : ∀ y ∈ w, y ∈ ls) {s : Nat} (hs : s ∈ ls) : (∃ x ∈ ls, mark cr w s x < 0) ↔ desc cr s w := by
  constructor
  · rintro ⟨x, hx, h⟩
    by_cases hd : desc cr s w
    · exact hd
    · have := ((mark_pos ok _ w rfl hr hw).1 s hs hd).1 x hx
      omega
  · intro hd
    obtain ⟨u, ru, du, lu, au, mu⟩ := Red_desc ok hr hd
    obtain ⟨x, hx, h⟩ := ((mark_pos ok _ u rfl ru fun y hy => hw y (mu y hy)).1 s hs du).2
    refine ⟨x, hx, ?_⟩
    show act cr w (unit x) s < 0
    rw [au, thr_self]
    have : 0 < act cr u (unit x) s := h
    omega
/-! ### names by marks -/
theorem NF.tail {c : Nat} {r : List Nat} (h : NF cr (c :: r)) : NF cr r := by
  unfold NF at h ⊢
  rw [List.reverse_cons] at h
  have key : ∀ {a b : List Nat}, NFr cr (a ++ b) → NFr cr a := by
    intro a b
    induction a with
    | nil => intro _; trivial
    | cons s a ih =>
      intro h
      refine ⟨?_, ih h.2⟩
      have h1 := h.1
      clear h ih
      induction a with
      | nil => trivial
      | cons t a ih => exact ⟨h1.1, fun z => ⟨(h1.2 z).1, ih (h1.2 z).2⟩⟩
  exact key h
theorem NF.red : ∀ {w : List Nat}, NF cr w → Red cr w
  | [], _ => trivial
  | t :: r, h => by
    refine ⟨fun z => ?_, NF.red h.tail⟩
    obtain ⟨p, q, rfl, hp⟩ := desc_split z
    exact (h.two (p := []) (q := p) (r := q) rfl hp).1 rfl
/-- the first letter is the least door back -/
theorem NF.least {c s : Nat} {r : List Nat} (h : NF cr (c :: r)) (hs : desc cr s (c :: r)) : c ≤ s := by
  rcases hs with rfl | ⟨h1, h2⟩
  · exact Nat.le_refl _
  · obtain ⟨p, q, rfl, hp⟩ := desc_split h2
    exact Nat.le_of_lt ((h.two (p := []) (q := p) (r := q) rfl hp).2 h1)
/-- two names with the same marks are the same -/
theorem NF.uniq (ok : CrOk cr) : ∀ {w v : List Nat}, NF cr w → NF cr v → (∀ y ∈ w, y ∈ ls) → (∀ y ∈ v, y ∈ ls) → (∀ x ∈ ls, ∀ s, act cr w (unit x) s = act cr v (unit x) s) → w = v
  | [], [], _, _, _, _, _ => rfl
  | [], c :: v, h, h', hw, hv, he => by
    have := (mark_neg ok h'.red hv (hv c (List.mem_cons_self ..))).mpr (.inl rfl)
    obtain ⟨x, hx, z⟩ := this
    have := (mark_neg ok h.red hw (hv c (List.mem_cons_self ..))).mp ⟨x, hx, by unfold mark; rw [he x hx]; exact z⟩
    exact this.elim
  | c :: w, [], h, h', hw, hv, he => by
    have := (mark_neg ok h.red hw (hw c (List.mem_cons_self ..))).mpr (.inl rfl)
    obtain ⟨x, hx, z⟩ := this
    have := (mark_neg ok h'.red hv (hw c (List.mem_cons_self ..))).mp ⟨x, hx, by unfold mark; rw [← he x hx]; exact z⟩
    exact this.elim
  | c :: w, b :: v, h, h', hw, hv, he => by
    have hc := hw c (List.mem_cons_self ..)
    have hb := hv b (List.mem_cons_self ..)
    have h1 : desc cr c (b :: v) := by
      obtain ⟨x, hx, z⟩ := (mark_neg ok h.red hw hc).mpr (.inl rfl)
      exact (mark_neg ok h'.red hv hc).mp ⟨x, hx, by unfold mark; rw [← he x hx]; exact z⟩
    have h2 : desc cr b (c :: w) := by
      obtain ⟨x, hx, z⟩ := (mark_neg ok h'.red hv hb).mpr (.inl rfl)
      exact (mark_neg ok h.red hw hb).mp ⟨x, hx, by unfold mark; rw [he x hx]; exact z⟩
    have e1 := h.least h2
    have e2 := h'.least h1
    have e : c = b := by omega
    subst e
    congr 1
    refine NF.uniq ok h.tail h'.tail (fun y hy => hw y (List.mem_cons_of_mem _ hy)) (fun y hy => hv y (List.mem_cons_of_mem _ hy)) fun x hx s => ?_
    have e3 : act cr (c :: w) (unit x) = act cr (c :: v) (unit x) := funext (he x hx)
    have e4 := congrArg (thr cr c) e3
    have e5 : thr cr c (thr cr c (act cr w (unit x))) = thr cr c (thr cr c (act cr v (unit x))) := e4
    rw [thr_thr ok, thr_thr ok] at e5
    rw [e5]
end
end Cw
set_option Elab.async false
set_option linter.all false
set_option maxRecDepth 100000
set_option maxHeartbeats 4000000
/-! a drawn floor, in plain words -/
namespace Cw
theorem splitB_congr {p p' : List Nat} : ∀ {a b : List Nat}, (∀ c ∈ a, c ∈ p ↔ c ∈ p') → splitB p a b = splitB p' a b
  | [], b, _ => rfl
  | x :: r, b, h => by
    have hx := h x (List.mem_cons_self ..)
    unfold splitB
    by_cases c : x ∈ p
    · rw [if_pos c, if_pos (hx.mp c)]
      exact splitB_congr fun c hc => h c (List.mem_cons_of_mem _ hc)
    · rw [if_neg c, if_neg (fun z => c (hx.mpr z))]
theorem stepOf_congr {p p' name : List Nat} {k : Nat} (h : ∀ c ∈ name, c ∈ p ↔ c ∈ p') : stepOf p name k = stepOf p' name k := by
  unfold stepOf
  rw [splitB_congr (p' := p') fun c hc => h c (List.mem_reverse.mp hc)]
theorem joinC_congr {f f' : Nat → List Nat} {ls : List Nat} (h : ∀ k ∈ ls, ∀ c ∈ ls, c ∈ f k ↔ c ∈ f' k) : ∀ {way name : List Nat}, (∀ c ∈ name, c ∈ ls) → (∀ c ∈ way, c ∈ ls) → joinC f name way = joinC f' name way
  | [], name, _, _ => rfl
  | k :: r, name, hn, hw => by
    show joinC f (stepOf (f k) name k) r = joinC f' (stepOf (f' k) name k) r
    have hk := hw k (List.mem_cons_self ..)
    rw [stepOf_congr (p' := f' k) fun c hc => h k hk c (hn c hc)]
    refine joinC_congr h (fun c hc => ?_) fun c hc => hw c (List.mem_cons_of_mem _ hc)
    rcases stepOf_mem hc with e | e
    · rw [e]
      exact hk
    · exact hn c e
/-- the letters of a drawn floor and which cross -/
structure Fl (ls : List Nat) (f : Nat → List Nat) : Prop where
  tab : Tab ls f
  ok : CrOk f
  asc : ls.Pairwise (· < ·)
  pos : 0 < ls.length
theorem Flr.fl {num : Nat} {ls : List Nat} {rel : Nat → Nat → Bool} (h : Flr num ls rel) : Fl ls (crossBy ls rel) where
  tab := h.tab
  asc := cut_lt' h.cut
  pos := (cut_len h.cut).2.2
  ok := by
    refine ⟨fun a b hab => ?_, fun a ha => ?_⟩
    · obtain ⟨h1, h2⟩ := List.mem_filter.mp hab
      have h3 := h.ok.in b a h2
      refine List.mem_filter.mpr ⟨h3.1, ?_⟩
      rw [h.ok.sym]
      exact h2
    · obtain ⟨h1, h2⟩ := List.mem_filter.mp ha
      exact (h.ok.in a a h2).2.2 rfl
theorem Fl.plain {ls : List Nat} {f : Nat → List Nat} (h : Fl ls f) : Fl ls (fun _ => []) where
  tab := ⟨h.tab.nd, h.tab.lt, h.tab.len, fun _ _ _ z => (nomatch z), fun _ _ => by simp⟩
  ok := ⟨fun _ _ z => (nomatch z), fun _ z => (nomatch z)⟩
  asc := h.asc
  pos := h.pos
section
variable {ls : List Nat} {f : Nat → List Nat}
theorem cross_tab (T : Tab ls f) {k c : Nat} (hk : k ∈ ls) (hc : c ∈ ls) : c ∈ crossOf (ascOf ls) (tabPairs ls f) k ↔ c ∈ f k := by
  unfold crossOf
  rw [List.mem_filter, Bool.or_eq_true, decide_eq_true_iff, decide_eq_true_iff]
  have mk : ∀ a b, a ∈ ls → b ∈ f a → b ∈ ls → ascOf [a, b] ∈ ls.flatMap fun a => (f a).map fun b => ascOf [a, b] := fun a b ha hb _ => List.mem_flatMap.mpr ⟨a, ha, List.mem_map.mpr ⟨b, hb, rfl⟩⟩
  constructor
  · rintro ⟨_, h | h⟩
    · obtain ⟨a, b, e, _, _, _, hb⟩ := tabPairs_lt T h
      injection e with e1 e2
      injection e2 with e2
      rw [e1, e2]
      exact hb
    · obtain ⟨a, b, e, _, ha, _, hb⟩ := tabPairs_lt T h
      injection e with e1 e2
      injection e2 with e2
      rw [e1, e2]
      exact (T.sub a ha b hb).2.2
  · intro h
    refine ⟨ascOf_mem.mpr ⟨T.lt c hc, hc⟩, ?_⟩
    have s := T.sub k hk c h
    rcases Nat.lt_or_gt_of_ne s.2.1 with l | l
    · refine .inr (pairsOf_mem.mpr ⟨c, k, rfl, T.lt c hc, T.lt k hk, ?_⟩)
      have := mk k c hk h hc
      rw [(asc2 (T.lt c hc) (T.lt k hk) l).2] at this
      exact this
    · refine .inl (pairsOf_mem.mpr ⟨k, c, rfl, T.lt k hk, T.lt c hc, ?_⟩)
      have := mk k c hk h hc
      rw [(asc2 (T.lt k hk) (T.lt c hc) l).1] at this
      exact this
theorem joinOf_tab (T : Tab ls f) {name way : List Nat} (hn : ∀ c ∈ name, c ∈ ls) (hw : ∀ c ∈ way, c ∈ ls) : joinOf (ascOf ls) (tabPairs ls f) name way = joinC f name way := by
  rw [joinOf_C]
  exact joinC_congr (fun k hk c hc => cross_tab T hk hc) hn hw
theorem stepOf_tab (T : Tab ls f) {name : List Nat} {k : Nat} (hk : k ∈ ls) (hn : ∀ c ∈ name, c ∈ ls) : stepOf (crossOf (ascOf ls) (tabPairs ls f) k) name k = stepOf (f k) name k := stepOf_congr fun c hc => cross_tab T hk (hn c hc)
theorem tabPairs_plain (ls : List Nat) : tabPairs ls (fun _ => []) = [] := by
  unfold tabPairs
  have : (ls.flatMap fun a => ([] : List Nat).map fun b => ascOf [a, b]) = [] := by
    induction ls with
    | nil => rfl
    | cons a r ih => simp
  rw [this]
  decide +kernel
theorem joinC_mem' {cr : Nat → List Nat} {c : Nat} : ∀ {way name : List Nat}, c ∈ joinC cr name way → c ∈ name ∨ c ∈ way
  | [], name, h => .inl h
  | k :: r, name, h => by
    rcases joinC_mem' (way := r) (name := stepOf (cr k) name k) h with z | z
    · rcases stepOf_mem z with e | e
      · exact .inr (e ▸ List.mem_cons_self ..)
      · exact .inl e
    · exact .inr (List.mem_cons_of_mem _ z)
/-- the name of a way -/
abbrev nameOf (f : Nat → List Nat) (w : List Nat) : List Nat := joinC f [] w
theorem name_mem {w : List Nat} {c : Nat} (h : c ∈ nameOf f w) : c ∈ w := (joinC_mem' h).elim (fun z => (nomatch z)) id
theorem name_len (f : Nat → List Nat) (w : List Nat) : (nameOf f w).length ≤ w.length := by
  have key : ∀ (way name : List Nat), (joinC f name way).length ≤ name.length + way.length := by
    intro way
    induction way with
    | nil => intro name; exact Nat.le_refl _
    | cons k r ih =>
      intro name
      have := ih (stepOf (f k) name k)
      have := stepOf_len (f k) name k
      show (joinC f (stepOf (f k) name k) r).length ≤ _
      rw [List.length_cons]
      omega
  have := key w []
  rw [List.length_nil] at this
  show (joinC f [] w).length ≤ _
  omega
theorem name_NF (ok : CrOk f) (w : List Nat) : NF f (nameOf f w) := NF_join ok NF_nil
theorem name_name (ok : CrOk f) (w : List Nat) : nameOf f (nameOf f w) = nameOf f w := (is_NF ok).mpr (name_NF ok w)
theorem name_app (ok : CrOk f) (a b : List Nat) : nameOf f (joinC f (nameOf f a) b) = nameOf f (a ++ b) := by
  rw [← joinC_app]
  exact name_name ok _
/-- two ways with the same marks have one name -/
theorem name_eq (ok : CrOk f) {v w : List Nat} (h : ∀ g, act f v g = act f w g) : nameOf f v = nameOf f w := by
  refine NF.uniq (ls := v ++ w) ok (name_NF ok v) (name_NF ok w) (fun y hy => List.mem_append_left _ (name_mem hy)) (fun y hy => List.mem_append_right _ (name_mem hy)) fun x _ s => ?_
  have e1 := act_join ok v [] (unit x)
  have e2 := act_join ok w [] (unit x)
  rw [List.nil_append] at e1 e2
  rw [show act f (nameOf f v) (unit x) = act f v (unit x) from e1, show act f (nameOf f w) (unit x) = act f w (unit x) from e2, h]
theorem name_act (ok : CrOk f) (w : List Nat) (g : Nat → Int) : act f (nameOf f w) g = act f w g := act_join ok w [] g
theorem name_twice (ok : CrOk f) (a : List Nat) (k : Nat) : nameOf f (a ++ [k] ++ [k]) = nameOf f a := by
  refine name_eq ok fun g => ?_
  rw [List.append_assoc, act_app]
  show act f a (thr f k (thr f k g)) = _
  rw [thr_thr ok]
end
end Cw
set_option Elab.async false
set_option linter.all false
set_option maxRecDepth 100000
set_option maxHeartbeats 4000000
/-! more operators of classes of one's own: o + text, o[text], o == text -/
namespace PySem.W
open PySem PySem.Calls PyProof.Rows Builtin
section
variable {prog : Program} {w : World} {A : Around} {E : Value → Shared → Prop} {s : Shared} {K : Frag} {x C L f : Addr} {h0 : Heap} {m : Str → Option Value} {ox : Obj} {od : Option Obj}
theorem binop_own {b : Value} {T : String} {Q : Value → Shared → Prop} (F : Fr h0 L s.heap m) (X0 : K.In h0) (I : InstAt s.heap x ox C od) (hb : Looks (model prog w) s.heap (typeOf b) (.type T)) (hno : fillsNumberSlot (.type T) "add" = pure false) (hc : selfFirst K C = true)
    (hs : findIn K (.ref C) (PySem.dunder "add") = some (some (.ref f))) (hf : isFn K (.ref f) = true)
    (h : wpAny (model prog w) A (call (.ref f) [.ref x, b]) (CmpBack Q) E s) : wpAny (model prog w) A (binaryOp .Add (.ref x) b) Q E s := by
  have X := X0.keeps F.keep
  obtain ⟨cd, hcd, hm⟩ := any_some hc
  obtain ⟨rest, hm⟩ : ∃ rest, cd.mro = .ref C :: rest := by
    cases q : cd.mro with
    | nil => rw [q] at hm; cases hm
    | cons a r => rw [q] at hm; exact ⟨r, by rw [List.head?_cons] at hm; cases (beq_iff_eq.mp hm); rfl⟩
  have ne : (Value.ref C == Value.type T) = false := rfl
  unfold binaryOp
  refine wpAny_holding (wpAny_bind ?_)
  unfold binaryOp1
  refine wpAny_bind (I.type.here (wpAny_bind (hb.here (wpAny_bind ((fills_K X hcd hm hs).here ?_)))))
  simp only [ne, Bool.false_eq_true, if_false]
  refine wpAny_bind ?_
  show wpAny (model prog w) A (fillsNumberSlot (.type T) "add") _ _ _
  rw [hno]
  refine wpAny_pure ?_
  simp only [Bool.and_false, Bool.false_eq_true, if_false, Bool.false_and]
  refine wpAny_bind (wpAny_pure ?_)
  simp only [Bool.false_eq_true, if_false, if_true]
  refine wpAny_bind (m := tryMethod (.ref x) _ b) ?_
  unfold tryMethod
  refine wpAny_bind (special_fn X I hs (beq_iff_eq.mp hf) (wpAny_mono h (fun v s' hv => ?_) fun _ _ e => e))
  cases v <;> first | exact hv.elim | exact wpAny_pure (wpAny_pure (wpAny_pure hv))
end
end PySem.W
namespace Cw
open PySem PySem.Spec L2
section
variable {X : Cx} {CX : CXT} {k : Nat} {C : Addr} {m : Str} {ps : List Str} {sp : Sp} {E : XK}
/-- o op text, by the class's own method -/
def rMS (C : Addr) (sp : Sp) (E : XK) : R2 := fun x y H Q => ∃ a dx fs z, x = .ref a ∧ y = .str z ∧ H a = some (.ins C dx fs) ∧ sp [.ref a, .str z] H Q E
theorem op_addM (D : MDef X.prog X.w X.K X.mg X.base CX k C "__add__" ps sp) (hc : PySem.W.selfFirst X.K C = true) (hr : Room k X.A) (hx : Passes CX X E) : OpR X (binaryOp .Add) (rMS C sp E) := by
  obtain ⟨f, fd, h1, h2, kp, ⟨hb, _⟩, F⟩ := D.ex
  intro pins s σ H x y v u Q I rx ry h
  obtain ⟨a, dx, fs, z, rfl, rfl, ha, hq⟩ := h
  cases rx
  obtain ⟨t, rfl⟩ := ry
  obtain ⟨mA, J, _⟩ := ins_get I.hok ha
  obtain ⟨od, J, _⟩ := J.look
  obtain ⟨mm, hF⟩ := I.fr
  refine PySem.W.binop_own (T := "str") hF I.ok.mod.kin J .now PyProof.Rows.noFill_str_add hc h1 h2 ?_
  have z := run_fn (us := [.ref a, .str z t]) (vs := [.ref a, .str z]) (dvs := []) F hr hb .nil hx I (.cons rfl (.cons ⟨t, rfl⟩ .nil)) hq
  refine wpAny_mono z (fun v s' q => ?_) fun _ _ q => q
  obtain ⟨y, H', I', r, q⟩ := q
  have k : EP X pins σ Q v s' := ⟨y, H', I', r, q⟩
  cases v <;> first | exact k | (exfalso; cases y <;> first | (obtain ⟨_, r⟩ := r; cases r) | cases r)
end
section
variable {σ : St} {H : Hp} {Q : VK} {K : PySem.W.Frag}
theorem v_MS {C : Addr} {sp : Sp} {E : XK} {a dx : Addr} {fs : List (Str × V)} {z : Str} (h : H a = some (.ins C dx fs)) (q : sp [.ref a, .str z] H Q E) : rMS C sp E (.ref a) (.str z) H Q := ⟨a, dx, fs, z, rfl, rfl, h, q⟩
end
end Cw
set_option Elab.async false
set_option linter.all false
set_option maxRecDepth 100000
set_option maxHeartbeats 4000000
/-! tables of vectors -/
namespace Cw
open PySem PySem.Spec L2
def marksKV (ls : List Nat) (A : Nat → Addr) : List (Key × V) := ls.map fun c => ((Sum.inr (tx [c]) : Key), V.ref (A c))
def vecV (ls : List Nat) (v : Nat → Int) : List V := ls.map fun x => V.int (v x)
structure MarksAt (H : Hp) (m : Addr) (ls : List Nat) (M : Nat → Nat → Int) : Prop where
  ex : ∃ A : Nat → Addr, H m = some (.dK (marksKV ls A)) ∧ ∀ c ∈ ls, H (A c) = some (.tup (vecV ls (M c)))
theorem MarksAt.same {H H' : Hp} {m : Addr} {ls : List Nat} {M : Nat → Nat → Int} (h : MarksAt H m ls M) (s : Same H H') : MarksAt H' m ls M := by
  obtain ⟨A, a, b⟩ := h.ex
  exact ⟨A, s _ _ a, fun c hc => s _ _ (b c hc)⟩
theorem MarksAt.congr {H : Hp} {m : Addr} {ls : List Nat} {M M' : Nat → Nat → Int} (h : MarksAt H m ls M) (e : ∀ c ∈ ls, ∀ x ∈ ls, M c x = M' c x) : MarksAt H m ls M' := by
  obtain ⟨A, a, b⟩ := h.ex
  refine ⟨A, a, fun c hc => ?_⟩
  rw [b c hc]
  congr 2
  exact List.map_congr_left fun x hx => by rw [e c hc x hx]
theorem marks_get {H : Hp} {d : Addr} {ls : List Nat} {A : Nat → Addr} {k : Nat} (h : H d = some (.dK (marksKV ls A))) (hk : k ∈ ls) : DGet H d (.str (tx [k])) (some (.ref (A k))) := dget_let (g := fun c => V.ref (A c)) h hk
theorem marks_getF {H : Hp} {d : Addr} {o : Obj} {ls : List Nat} {A : Nat → Addr} {k : Nat} (h : H d = some (.frz o (.dK (marksKV ls A)))) (hk : k ∈ ls) : DGet H d (.str (tx [k])) (some (.ref (A k))) :=
  .inl ⟨_, Sum.inr (tx [k]), .inr ⟨o, h⟩, rfl, (letV_some (g := fun c => V.ref (A c)) hk).symm⟩
theorem marks_new {H : Hp} {d p : Addr} {l : List Nat} {A : Nat → Addr} {k : Nat} (h : H d = some (.dK (marksKV l A))) (hk : ¬ k ∈ l) (hl : l.length < 1000000) : DPut H d (.str (tx [k])) (.ref p) (upd H d (.dK (marksKV (l ++ [k]) (fun c => if c = k then p else A c)))) := by
  have e := DPut.cross (l := [k]) (v := V.ref p) h (letV_none (g := fun c => V.ref (A c)) hk) (by unfold marksKV; rw [List.length_map]; exact hl)
  have e2 : marksKV (l ++ [k]) (fun c => if c = k then p else A c) = marksKV l A ++ [((Sum.inr (tx [k]) : Key), V.ref p)] := by
    unfold marksKV
    rw [List.map_append]
    congr 1
    · refine List.map_congr_left fun c hc => ?_
      show (_, V.ref (if c = k then p else A c)) = _
      rw [if_neg (fun z : c = k => hk (z ▸ hc))]
    · show [((Sum.inr (tx [k]) : Key), V.ref (if k = k then p else A k))] = _
      rw [if_pos rfl]
  rw [e2]
  exact e
theorem vecV_len (ls : List Nat) (v : Nat → Int) : (vecV ls v).length = ls.length := by unfold vecV; rw [List.length_map]
/-- the keys of a table by letters -/
theorem walk_let {d : Addr} {o : Obj} {ls : List Nat} {g : Nat → V} : Walk (Itk d o (ls.map fun c => ((Sum.inr (tx [c]) : Key), g c))) ls.length (fun H => H d = some (.frz o (.dK (ls.map fun c => ((Sum.inr (tx [c]) : Key), g c))))) (YFn fun k => .str (tx [ls.getD k 0])) := by
  have w := walk_keys (d := d) (o := o) (kvs := ls.map fun c => ((Sum.inr (tx [c]) : Key), g c))
  rw [List.length_map] at w
  refine w.mono (fun _ z => z) fun i H x H' hi _ y => ?_
  obtain ⟨rfl, kk, vv, hkv, rfl⟩ := y
  refine ⟨rfl, ?_⟩
  rw [List.getElem?_map, List.getElem?_eq_getElem hi] at hkv
  injection hkv with hkv
  injection hkv with a b
  show _ = V.str (tx [ls.getD i 0])
  rw [← a, List.getD_eq_getElem?_getD, List.getElem?_eq_getElem hi]
  rfl
section
variable {K : PySem.W.Frag} {a : Addr} {ls : List Nat} {f : Nat → V}
theorem yat_map {i : Nat} {H H' : Hp} {x : V} (hi : i < ls.length) (y : YAt (ls.map f) i H x H') : YFn (fun k => f (ls.getD k 0)) i H x H' := by
  obtain ⟨rfl, e⟩ := y
  refine ⟨rfl, ?_⟩
  rw [List.getElem?_map, List.getElem?_eq_getElem hi] at e
  injection e with e
  show _ = f (ls.getD i 0)
  rw [List.getD_eq_getElem?_getD, List.getElem?_eq_getElem hi]
  exact e.symm
theorem walk_listM : Walk (Itl K a) ls.length (fun H => SqL K H a (ls.map f)) (YFn fun k => f (ls.getD k 0)) := by
  have w := walk_list (K := K) (a := a) (xs := ls.map f)
  rw [List.length_map] at w
  exact w.mono (fun _ z => z) fun i H x H' hi _ y => yat_map hi y
theorem walk_tupM : Walk (Itt K a) ls.length (fun H => SqT K H a (ls.map f)) (YFn fun k => f (ls.getD k 0)) := by
  have w := walk_tup (K := K) (a := a) (xs := ls.map f)
  rw [List.length_map] at w
  exact w.mono (fun _ z => z) fun i H x H' hi _ y => yat_map hi y
end
section
variable {σ : St} {H : Hp} {Q : VK} {te : TE} {K : PySem.W.Frag}
theorem e_iT {R : It → Hp → Prop} (q : te σ H fun x H1 => ∃ a, x = .ref a ∧ (∃ xs, SqT K H1 a xs) ∧ R (Itt K a) H1) : iTup K te σ H R := q
theorem v_iT {P : Addr → Prop} {a : Addr} {xs : List V} (h : H a = some (.tup xs)) (q : P a) : ∃ a', V.ref a = .ref a' ∧ (∃ xs, SqT K H a' xs) ∧ P a' := ⟨a, rfl, ⟨xs, SqT.of h⟩, q⟩
theorem v_lenT {p : Addr} {ys : List V} (h : H p = some (.tup ys)) (q : Q (.int ys.length) H) : rLen K [.ref p] H Q := ⟨p, ys, rfl, .inr (SqT.of h), q⟩
theorem v_ixT {p : Addr} {xs : List V} {a : Int} {v : V} (h : H p = some (.tup xs)) (c : atI xs a = some v) (q : Q v H) : rIxT K (.ref p) (.int a) H Q := ⟨p, xs, a, v, rfl, rfl, SqT.of h, c, q⟩
theorem at_vec {ls : List Nat} {v : Nat → Int} {i : Nat} (h : i < ls.length) : atI (vecV ls v) ((i : Nat) : Int) = some (V.int (v (ls.getD i 0))) := by
  refine atI_nat ?_
  unfold vecV
  rw [List.getElem?_map, List.getElem?_eq_getElem h, List.getD_eq_getElem?_getD, List.getElem?_eq_getElem h]
  rfl
theorem vals_all {σ : St} {i : Nat} {tt : TT} {te : TE} {P : Addr → Hp → Prop} {J : It} {G : Hp → Prop} {ls : List Nat} {it f : Nat → V} (w : Walk J ls.length G (YFn fun k => it (ls.getD k 0))) (hG : ∀ H', Same H H' → G H') (hn : ls.length ≤ 1000000)
    (ht : ∀ c ∈ ls, ∀ H1, Same H H1 → ∀ R : Bool → Hp → Prop, (∀ H2, Same H1 H2 → R true H2) → tt ((wipe σ [i]).set i (some (it c))) H1 R)
    (he : ∀ c ∈ ls, ∀ H1, Same H H1 → ∀ R : VK, (∀ H2, Same H1 H2 → R (f c) H2) → te ((wipe σ [i]).set i (some (it c))) H1 R)
    (q : ∀ D H', H D = none → Same H H' → H' D = some (.lst (ls.map f)) → P D H') :
    ∀ D, H D = none → ∃ W : Nat → Nat → Hp → Prop, (∃ m, W 0 m (upd H D (.lst []))) ∧ ∀ k m H, W k m H →
      (J.stop k H ∧ P D H) ∨ (J.go k H ∧ ∃ Nx : Hp → Prop, (∀ H', Nx H' → ∃ m', m' < m ∧ W (k + 1) m' H') ∧ ∀ x H', J.yld k H x H' → (gName i) x (wipe σ [i]) H' fun s2 H2 => wipe s2 [i] = wipe σ [i] ∧ tt s2 H2 fun c H3 =>
        if c = true then te s2 H3 fun y H4 => ∃ acc, H4 D = some (.lst acc) ∧ acc.length < sizeLine ∧ Nx (upd H4 D (.lst (acc ++ [y]))) else Nx H3) := by
  refine lc_gen (b := fun _ => true) (f := fun k => f (ls.getD k 0)) w hG hn (fun k hk H1 s1 R r => ht _ (getD_mem hk) H1 s1 R r) (fun k hk c H1 s1 R r => he _ (getD_mem hk) H1 s1 R r) (fun D H' hD s' e => q D H' hD s' ?_)
  rw [e, range_map ls (fun _ => true) f, List.filter_eq_self.mpr (fun _ _ => rfl)]
theorem vals_some {σ : St} {i : Nat} {tt : TT} {te : TE} {P : Addr → Hp → Prop} {J : It} {G : Hp → Prop} {ls : List Nat} {it f : Nat → V} {b : Nat → Bool} (w : Walk J ls.length G (YFn fun k => it (ls.getD k 0))) (hG : ∀ H', Same H H' → G H') (hn : ls.length ≤ 1000000)
    (ht : ∀ c ∈ ls, ∀ H1, Same H H1 → ∀ R : Bool → Hp → Prop, (∀ H2, Same H1 H2 → R (b c) H2) → tt ((wipe σ [i]).set i (some (it c))) H1 R)
    (he : ∀ c ∈ ls, b c = true → ∀ H1, Same H H1 → ∀ R : VK, (∀ H2, Same H1 H2 → R (f c) H2) → te ((wipe σ [i]).set i (some (it c))) H1 R)
    (q : ∀ D H', H D = none → Same H H' → H' D = some (.lst ((ls.filter b).map f)) → P D H') :
    ∀ D, H D = none → ∃ W : Nat → Nat → Hp → Prop, (∃ m, W 0 m (upd H D (.lst []))) ∧ ∀ k m H, W k m H →
      (J.stop k H ∧ P D H) ∨ (J.go k H ∧ ∃ Nx : Hp → Prop, (∀ H', Nx H' → ∃ m', m' < m ∧ W (k + 1) m' H') ∧ ∀ x H', J.yld k H x H' → (gName i) x (wipe σ [i]) H' fun s2 H2 => wipe s2 [i] = wipe σ [i] ∧ tt s2 H2 fun c H3 =>
        if c = true then te s2 H3 fun y H4 => ∃ acc, H4 D = some (.lst acc) ∧ acc.length < sizeLine ∧ Nx (upd H4 D (.lst (acc ++ [y]))) else Nx H3) := by
  refine lc_gen (b := fun k => b (ls.getD k 0)) (f := fun k => f (ls.getD k 0)) w hG hn (fun k hk H1 s1 R r => ht _ (getD_mem hk) H1 s1 R r) (fun k hk c H1 s1 R r => he _ (getD_mem hk) c H1 s1 R r) (fun D H' hD s' e => q D H' hD s' ?_)
  rw [e, range_map ls b f]
end
theorem cr_minK {X : Cx} {K : PySem.W.Frag} (h : X.K = K) (hc : X.calm = true) : CallR X (.builtin "min") (rMin K) := h ▸ cr_min hc
/-- the scope of a comprehension: its own names, the names of the module and those of the def -/
def lcSc (loc glo fre : List String) : Scope := { kind := .function, names := (loc.map fun x => (Str.ofString x, NameKind.local)) ++ (glo.map fun x => (Str.ofString x, NameKind.globalImplicit)) ++ (fre.map fun x => (Str.ofString x, NameKind.cell)), isGenerator := false, isCoroutine := false }
end Cw
namespace Cw
open PySem PySem.Spec L2
/-- [.. for i in range(len(ls))] -/
theorem vals_rng {σ : St} {H : Hp} {i : Nat} {tt : TT} {te : TE} {P : Addr → Hp → Prop} {ls : List Nat} {f : Nat → V} (hn : ls.length ≤ 1000000)
    (ht : ∀ j, j < ls.length → ∀ H1, Same H H1 → ∀ R : Bool → Hp → Prop, (∀ H2, Same H1 H2 → R true H2) → tt ((wipe σ [i]).set i (some (.int (j : Nat)))) H1 R)
    (he : ∀ j, j < ls.length → ∀ H1, Same H H1 → ∀ R : VK, (∀ H2, Same H1 H2 → R (f (ls.getD j 0)) H2) → te ((wipe σ [i]).set i (some (.int (j : Nat)))) H1 R)
    (q : ∀ D H', H D = none → Same H H' → H' D = some (.lst (ls.map f)) → P D H') :
    ∀ D, H D = none → ∃ W : Nat → Nat → Hp → Prop, (∃ m, W 0 m (upd H D (.lst []))) ∧ ∀ k m H, W k m H →
      ((Itr 0 ((ls.length : Nat) : Int).toNat).stop k H ∧ P D H) ∨ ((Itr 0 ((ls.length : Nat) : Int).toNat).go k H ∧ ∃ Nx : Hp → Prop, (∀ H', Nx H' → ∃ m', m' < m ∧ W (k + 1) m' H') ∧ ∀ x H', (Itr 0 ((ls.length : Nat) : Int).toNat).yld k H x H' → (gName i) x (wipe σ [i]) H' fun s2 H2 => wipe s2 [i] = wipe σ [i] ∧ tt s2 H2 fun c H3 =>
        if c = true then te s2 H3 fun y H4 => ∃ acc, H4 D = some (.lst acc) ∧ acc.length < sizeLine ∧ Nx (upd H4 D (.lst (acc ++ [y]))) else Nx H3) := by
  rw [Int.toNat_natCast]
  refine lc_gen (b := fun _ => true) (f := fun k => f (ls.getD k 0)) (it := fun k => .int ((k : Nat) : Int)) (walk_rI (fun k => ((k : Nat) : Int)) (fun k => Int.zero_add _)) (fun _ _ => trivial) hn (fun k hk H1 s1 R r => ht k hk H1 s1 R r) (fun k hk c H1 s1 R r => he k hk H1 s1 R r) (fun D H' hD s' e => q D H' hD s' ?_)
  rw [e, range_map ls (fun _ => true) f, List.filter_eq_self.mpr (fun _ _ => rfl)]
end Cw
set_option Elab.async false
set_option linter.all false
set_option maxRecDepth 100000
set_option maxHeartbeats 4000000
/-! ways turned back; the doors that lead nearer -/
namespace Cw
section
variable {cr f : Nat → List Nat} {ls : List Nat}
theorem act_rev (ok : CrOk f) : ∀ (w : List Nat) (g : Nat → Int), act f w.reverse (act f w g) = g
  | [], g => rfl
  | k :: r, g => by
    rw [List.reverse_cons, act_app]
    show act f r.reverse (thr f k (thr f k (act f r g))) = g
    rw [thr_thr ok, act_rev ok r]
theorem act_rev' (ok : CrOk f) (w : List Nat) (g : Nat → Int) : act f w (act f w.reverse g) = g := by
  have := act_rev ok w.reverse g
  rw [List.reverse_reverse] at this
  exact this
theorem act_rev_eq (ok : CrOk f) {v w : List Nat} (h : ∀ g, act f v g = act f w g) (g : Nat → Int) : act f v.reverse g = act f w.reverse g := by
  have e1 := act_rev' ok w g
  rw [← h] at e1
  have e2 := congrArg (act f v.reverse) e1
  rw [act_rev ok] at e2
  exact e2.symm
/-- the name of a way turned back -/
theorem name_rev (ok : CrOk f) (w : List Nat) : nameOf f (nameOf f w).reverse = nameOf f w.reverse := name_eq ok fun g => act_rev_eq ok (name_act ok w) g
theorem name_cat (ok : CrOk f) (a b : List Nat) : nameOf f (nameOf f a ++ nameOf f b) = nameOf f (a ++ b) := name_eq ok fun g => by
  rw [act_app, act_app, name_act ok, name_act ok]
theorem name_catR (ok : CrOk f) (a b : List Nat) : nameOf f (a ++ nameOf f b) = nameOf f (a ++ b) := name_eq ok fun g => by
  rw [act_app, act_app, name_act ok]
theorem name_back (ok : CrOk f) (a : List Nat) : nameOf f (a.reverse ++ a) = [] := name_eq (w := []) ok fun g => by
  rw [act_app, act_rev ok]
  rfl
theorem name_there (ok : CrOk f) (a b : List Nat) : nameOf f (a ++ (a.reverse ++ b)) = nameOf f b := name_eq ok fun g => by
  rw [act_app, act_app, act_rev' ok]
/-- the way from one room to another one -/
def wayC (f : Nat → List Nat) (a b : List Nat) : List Nat := nameOf f (a.reverse ++ b)
theorem way_rev (ok : CrOk f) (a b : List Nat) : nameOf f (wayC f a b).reverse = wayC f b a := by
  unfold wayC
  rw [name_rev ok, List.reverse_append, List.reverse_reverse]
theorem way_len_le (ok : CrOk f) (a b : List Nat) : (wayC f b a).length ≤ (wayC f a b).length := by
  rw [← way_rev ok a b]
  have := name_len f (wayC f a b).reverse
  rw [List.length_reverse] at this
  exact this
theorem way_len (ok : CrOk f) (a b : List Nat) : (wayC f b a).length = (wayC f a b).length := Nat.le_antisymm (way_len_le ok a b) (way_len_le ok b a)
theorem way_tri (ok : CrOk f) (a b c : List Nat) : (wayC f a b).length ≤ (wayC f a c).length + (wayC f c b).length := by
  have e : wayC f a b = nameOf f (wayC f a c ++ wayC f c b) := by
    unfold wayC
    rw [name_cat ok]
    refine name_eq ok fun g => ?_
    simp only [act_app]
    rw [act_rev' ok]
  rw [e, ← List.length_append]
  exact name_len f _
theorem way_self (ok : CrOk f) (a : List Nat) : wayC f a a = [] := name_back ok a
theorem way_goes (ok : CrOk f) (a b : List Nat) : nameOf f (a ++ wayC f a b) = nameOf f b := by
  unfold wayC
  rw [name_catR ok, name_there ok]
/-! ### odd and even -/
/-! ### doors nearer -/
instance descDec (cr : Nat → List Nat) (s : Nat) : (w : List Nat) → Decidable (desc cr s w)
  | [] => isFalse id
  | t :: r => by
    have := descDec cr s r
    exact inferInstanceAs (Decidable (t = s ∨ (t ∈ cr s ∧ desc cr s r)))
theorem Red_iff : ∀ {w : List Nat}, Red cr w ↔ ∀ p t q r, w = p ++ t :: (q ++ t :: r) → ¬ ∀ y ∈ q, y ∈ cr t
  | [] => ⟨fun _ p t q r e => (by cases p <;> cases e), fun _ => trivial⟩
  | x :: w => by
    constructor
    · intro h p t q r e hq
      cases p with
      | nil =>
        injection e with e1 e2
        subst e1
        exact h.1 (e2 ▸ desc_of hq)
      | cons y p =>
        injection e with e1 e2
        exact Red_iff.mp h.2 p t q r e2 hq
    · intro h
      refine ⟨fun z => ?_, Red_iff.mpr fun p t q r e hq => h (x :: p) t q r (by rw [e]; rfl) hq⟩
      obtain ⟨p, q, e, hp⟩ := desc_split z
      exact h [] x p q (by rw [e]; rfl) hp
theorem Red.rev {w : List Nat} (h : Red cr w) : Red cr w.reverse := by
  rw [Red_iff]
  intro p t q r e hq
  have e2 := congrArg List.reverse e
  rw [List.reverse_reverse] at e2
  refine Red_iff.mp h r.reverse t q.reverse p.reverse ?_ fun y hy => hq y (List.mem_reverse.mp hy)
  rw [e2]
  simp
/-- the doors of a room that lead back -/
theorem backs_desc (ok : CrOk f) {w : List Nat} (hw : ∀ y ∈ w, y ∈ ls) : (ls.filter fun c => decide (∃ x ∈ ls, act f w.reverse (unit x) c < 0)) = ls.filter fun c => decide (desc f c (nameOf f w).reverse) := by
  refine List.filter_congr fun c hc => ?_
  have h1 := mark_neg (ls := ls) ok (name_NF ok w).red.rev (fun y hy => hw y (name_mem (List.mem_reverse.mp hy))) hc
  rw [Bool.eq_iff_iff, decide_eq_true_iff, decide_eq_true_iff, ← h1]
  unfold mark
  have e : ∀ g, act f (nameOf f w).reverse g = act f w.reverse g := act_rev_eq ok (name_act ok w)
  simp only [e]
theorem step_len_desc (ok : CrOk cr) (name : List Nat) (k : Nat) : (desc cr k name.reverse → (stepOf (cr k) name k).length + 1 = name.length) ∧ (¬ desc cr k name.reverse → (stepOf (cr k) name k).length = name.length + 1) := by
  obtain ⟨d, e, e1, hd, he, hc⟩ := stepOf_cases (cr k) name k
  have l1 := congrArg List.length e1
  rw [List.length_reverse, List.length_append] at l1
  rw [e1]
  have hp := desc_pass (q := e) ok hd
  rcases hc with ⟨e', rfl, e2⟩ | ⟨hk, e2⟩
  · have l2 := congrArg List.length e2
    rw [List.length_reverse, List.length_append] at l2
    rw [List.length_cons] at l1
    exact ⟨fun _ => by omega, fun z => absurd (hp.mpr (.inl rfl)) z⟩
  · have l2 := congrArg List.length e2
    rw [List.length_reverse, List.length_append, List.length_reverse, putIn_len, List.length_reverse] at l2
    refine ⟨fun z => ?_, fun _ => by omega⟩
    have z := hp.mp z
    cases e with
    | nil => exact z.elim
    | cons y r =>
      rcases z with z | ⟨z, _⟩
      · exact absurd (by rw [z]; rfl) hk
      · exact absurd z (he y rfl)
/-- letters of a way that all before them cross -/
def frees (f : Nat → List Nat) (ks : List Nat) (p : List Nat) : List Nat := p.foldl (fun free k => free.filter fun o => decide (o ∈ f k)) ks
def founds (f : Nat → List Nat) : List Nat → List Nat → List Nat
  | _, [] => []
  | free, k :: r => (if k ∈ free then [k] else []) ++ founds f (free.filter fun o => decide (o ∈ f k)) r
end
end Cw
set_option Elab.async false
set_option linter.all false
set_option maxRecDepth 100000
set_option maxHeartbeats 4000000
/-! walls in plain words: two doors of one kind lie in one wall just if their marks agree but for the sign -/
namespace Cw
/-! ### sums of coordinates -/
def sumL : List Nat → (Nat → Int) → Int
  | [], _ => 0
  | x :: r, v => v x + sumL r v
theorem sumL_congr {u v : Nat → Int} : ∀ {ls : List Nat}, (∀ x ∈ ls, u x = v x) → sumL ls u = sumL ls v
  | [], _ => rfl
  | x :: r, h => by
    show u x + sumL r u = v x + sumL r v
    rw [h x (List.mem_cons_self ..), sumL_congr fun y hy => h y (List.mem_cons_of_mem _ hy)]
theorem sumL_comb (a b : Int) (u v : Nat → Int) : ∀ ls : List Nat, sumL ls (fun x => a * u x + b * v x) = a * sumL ls u + b * sumL ls v
  | [] => by simp [sumL]
  | x :: r => by
    show (a * u x + b * v x) + sumL r _ = a * (u x + sumL r u) + b * (v x + sumL r v)
    rw [sumL_comb a b u v r, Int.mul_add, Int.mul_add]
    omega
theorem sumL_nonneg {v : Nat → Int} : ∀ {ls : List Nat}, (∀ x ∈ ls, 0 ≤ v x) → 0 ≤ sumL ls v
  | [], _ => by simp [sumL]
  | x :: r, h => by
    show 0 ≤ v x + sumL r v
    have := h x (List.mem_cons_self ..)
    have := sumL_nonneg (ls := r) fun y hy => h y (List.mem_cons_of_mem _ hy)
    omega
theorem sumL_nonpos {v : Nat → Int} : ∀ {ls : List Nat}, (∀ x ∈ ls, v x ≤ 0) → sumL ls v ≤ 0
  | [], _ => by simp [sumL]
  | x :: r, h => by
    show v x + sumL r v ≤ 0
    have := h x (List.mem_cons_self ..)
    have := sumL_nonpos (ls := r) fun y hy => h y (List.mem_cons_of_mem _ hy)
    omega
theorem sumL_pos {v : Nat → Int} : ∀ {ls : List Nat}, Pos ls v → 1 ≤ sumL ls v
  | [], h => by
    obtain ⟨x, hx, _⟩ := h.2
    cases hx
  | y :: r, h => by
    show 1 ≤ v y + sumL r v
    have h1 := h.1 y (List.mem_cons_self ..)
    have h2 := sumL_nonneg (ls := r) fun z hz => h.1 z (List.mem_cons_of_mem _ hz)
    obtain ⟨x, hx, hp⟩ := h.2
    rcases List.mem_cons.mp hx with rfl | hx
    · omega
    · have := sumL_pos (ls := r) ⟨fun z hz => h.1 z (List.mem_cons_of_mem _ hz), x, hx, hp⟩
      omega
theorem sumL_out {g : Nat → Int} {s : Nat} : ∀ {ls : List Nat}, ¬ s ∈ ls → sumL ls (fun x => g x * unit x s) = 0
  | [], _ => rfl
  | y :: r, h => by
    show g y * unit y s + sumL r _ = 0
    rw [sumL_out fun z => h (List.mem_cons_of_mem _ z)]
    unfold unit
    rw [if_neg fun z : s = y => h (z ▸ List.mem_cons_self ..)]
    simp
theorem sumL_unit {g : Nat → Int} {s : Nat} : ∀ {ls : List Nat}, ls.Nodup → s ∈ ls → sumL ls (fun x => g x * unit x s) = g s
  | [], _, h => nomatch h
  | y :: r, hn, h => by
    show g y * unit y s + sumL r _ = g s
    have hn' := List.nodup_cons.mp hn
    by_cases e : s = y
    · subst e
      rw [sumL_out hn'.1]
      unfold unit
      rw [if_pos rfl]
      omega
    · rw [sumL_unit hn'.2 ((List.mem_cons.mp h).resolve_left e)]
      unfold unit
      rw [if_neg e]
      omega
theorem sumL_one {s : Nat} {ls : List Nat} (hn : ls.Nodup) (hs : s ∈ ls) : sumL ls (fun x => unit x s) = 1 := by
  have := sumL_unit (g := fun _ => 1) hn hs
  rw [← this]
  exact sumL_congr fun x _ => by omega
section
variable {f : Nat → List Nat} {ls : List Nat} {s t : Nat}
/-- a way acts as a matrix of whole numbers -/
theorem act_lin (hn : ls.Nodup) (ok : CrOk f) (g : Nat → Int) : ∀ {w : List Nat} {s : Nat}, (∀ y ∈ w, y ∈ ls) → s ∈ ls → act f w g s = sumL ls fun x => g x * mark f w s x
  | [], s, _, hs => (sumL_unit hn hs).symm
  | t :: r, s, hw, hs => by
    have ht := hw t (List.mem_cons_self ..)
    have hr : ∀ y ∈ r, y ∈ ls := fun y hy => hw y (List.mem_cons_of_mem _ hy)
    show thr f t (act f r g) s = _
    by_cases e : s = t
    · subst e
      rw [thr_self, act_lin hn ok g hr hs]
      have := sumL_comb (-1) 0 (fun x => g x * mark f r s x) (fun _ => 0) ls
      have e2 : sumL ls (fun x => g x * mark f (s :: r) s x) = sumL ls fun x => -1 * (g x * mark f r s x) + 0 * 0 := sumL_congr fun x _ => by
        show g x * thr f s (act f r (unit x)) s = _
        rw [thr_self, Int.mul_neg]
        show -(g x * mark f r s x) = _
        omega
      rw [e2, this]
      omega
    · by_cases c : s ∈ f t
      · rw [thr_cr ok c, act_lin hn ok g hr hs]
        refine sumL_congr fun x _ => ?_
        show _ = g x * thr f t (act f r (unit x)) s
        rw [thr_cr ok c]
        rfl
      · rw [thr_not e c, act_lin hn ok g hr hs, act_lin hn ok g hr ht]
        have := sumL_comb 1 2 (fun x => g x * mark f r s x) (fun x => g x * mark f r t x) ls
        have e2 : sumL ls (fun x => g x * mark f (t :: r) s x) = sumL ls fun x => 1 * (g x * mark f r s x) + 2 * (g x * mark f r t x) := sumL_congr fun x _ => by
          show g x * thr f t (act f r (unit x)) s = _
          rw [thr_not e c]
          show g x * (mark f r s x + 2 * mark f r t x) = _
          rw [Int.mul_add, ← Int.mul_assoc, Int.mul_comm (g x) 2, Int.mul_assoc]
          omega
        rw [e2, this]
        omega
theorem mark_nn (ok : CrOk f) {w : List Nat} (hr : Red f w) (hw : ∀ y ∈ w, y ∈ ls) (hs : s ∈ ls) (hd : ¬ desc f s w) : Pos ls (mark f w s) := (mark_pos ok _ w rfl hr hw).1 s hs hd
theorem mark_np (ok : CrOk f) {w : List Nat} (hr : Red f w) (hw : ∀ y ∈ w, y ∈ ls) (hs : s ∈ ls) (hd : desc f s w) : ∀ x ∈ ls, mark f w s x ≤ 0 := by
  intro x hx
  obtain ⟨u, ru, du, lu, au, mu⟩ := Red_desc ok hr hd
  have := (mark_nn ok ru (fun y hy => hw y (mu y hy)) hs du).1 x hx
  show act f w (unit x) s ≤ 0
  rw [au, thr_self]
  have : 0 ≤ act f u (unit x) s := this
  omega
/-- a way that leaves the mark of a kind goes through kinds that cross it -/
theorem mark_fix (hn : ls.Nodup) (ok : CrOk f) (hs : s ∈ ls) : ∀ {w : List Nat}, Red f w → (∀ y ∈ w, y ∈ ls) → (∀ x ∈ ls, mark f w s x = unit x s) → ∀ y ∈ w, y ∈ f s
  | [], _, _, _, y, hy => nomatch hy
  | t :: r, hr, hw, he, y, hy => by
    have ht := hw t (List.mem_cons_self ..)
    have hr' : ∀ y ∈ r, y ∈ ls := fun y hy => hw y (List.mem_cons_of_mem _ hy)
    have S1 : sumL ls (mark f (t :: r) s) = 1 := by rw [sumL_congr he, sumL_one hn hs]
    have Pt := sumL_pos (mark_nn ok hr.2 hr' ht hr.1)
    by_cases e : s = t
    · subst e
      have e2 : sumL ls (mark f (s :: r) s) = sumL ls fun x => -1 * mark f r s x + 0 * mark f r s x := sumL_congr fun x _ => by
        show thr f s (act f r (unit x)) s = _
        rw [thr_self]
        show - mark f r s x = _
        omega
      rw [e2, sumL_comb] at S1
      omega
    · by_cases c : s ∈ f t
      · have ih := mark_fix hn ok hs hr.2 hr' fun x hx => by
          rw [← he x hx]
          show act f r (unit x) s = thr f t (act f r (unit x)) s
          rw [thr_cr ok c]
        rcases List.mem_cons.mp hy with rfl | hy
        · exact ok.sym _ _ c
        · exact ih y hy
      · have e2 : sumL ls (mark f (t :: r) s) = sumL ls fun x => 1 * mark f r s x + 2 * mark f r t x := sumL_congr fun x _ => by
          show thr f t (act f r (unit x)) s = _
          rw [thr_not e c]
          show mark f r s x + 2 * mark f r t x = _
          omega
        rw [e2, sumL_comb] at S1
        by_cases d : desc f s r
        · have := sumL_pos ((mark_pos ok _ r rfl hr.2 hr').2 s hs t ht e c d hr.1 1 1 (by decide) (by decide) (by decide))
          rw [sumL_comb] at this
          omega
        · have := sumL_pos (mark_nn ok hr.2 hr' hs d)
          omega
theorem mark_zero (ok : CrOk f) {x : Nat} : ∀ {w : List Nat} {s : Nat}, ¬ x ∈ w → x ≠ s → mark f w s x = 0
  | [], s, _, h => by
    show unit x s = 0
    unfold unit
    rw [if_neg fun z : s = x => h z.symm]
  | t :: r, s, hw, h => by
    have h1 : ¬ x ∈ r := fun z => hw (List.mem_cons_of_mem _ z)
    have h2 : x ≠ t := fun z => hw (z ▸ List.mem_cons_self ..)
    have e1 := mark_zero ok h1 h
    have e2 := mark_zero ok h1 h2
    show thr f t (act f r (unit x)) s = 0
    have e1 : act f r (unit x) s = 0 := e1
    have e2 : act f r (unit x) t = 0 := e2
    unfold thr
    split
    · omega
    · split <;> omega
theorem act_of_name (ok : CrOk f) (w : List Nat) (g : Nat → Int) : act f (nameOf f w).reverse g = act f w.reverse g := act_rev_eq ok (name_act ok w) g
/-- two rooms from which no door of a kind that crosses s leads back, with one mark of s, are one -/
theorem wall_uniq (hn : ls.Nodup) (ok : CrOk f) (hs : s ∈ ls) {m n : List Nat} (hm : NF f m) (hn' : NF f n) (im : ∀ y ∈ m, y ∈ ls) (in' : ∀ y ∈ n, y ∈ ls)
    (dm : ∀ t ∈ f s, ¬ desc f t m.reverse) (dn : ∀ t ∈ f s, ¬ desc f t n.reverse) (he : ∀ x ∈ ls, mark f m.reverse s x = mark f n.reverse s x) : m = n := by
  have imr : ∀ y ∈ m.reverse, y ∈ ls := fun y hy => im y (List.mem_reverse.mp hy)
  have inr' : ∀ y ∈ n.reverse, y ∈ ls := fun y hy => in' y (List.mem_reverse.mp hy)
  have au : ∀ g, act f (wayC f n m).reverse g = act f m.reverse (act f n g) := fun g => by
    unfold wayC
    rw [act_of_name ok, List.reverse_append, List.reverse_reverse, act_app]
  have iu : ∀ y ∈ (wayC f n m).reverse, y ∈ ls := fun y hy => by
    rcases List.mem_append.mp (name_mem (List.mem_reverse.mp hy)) with z | z
    · exact in' y (List.mem_reverse.mp z)
    · exact im y z
  have ru : Red f (wayC f n m).reverse := (name_NF ok _).red.rev
  have fx : ∀ x ∈ ls, mark f (wayC f n m).reverse s x = unit x s := by
    intro x hx
    show act f (wayC f n m).reverse (unit x) s = _
    rw [au, act_lin hn ok _ imr hs, sumL_congr (v := fun y => act f n (unit x) y * mark f n.reverse s y) fun y hy => by rw [he y hy], ← act_lin hn ok _ inr' hs, act_rev ok]
  have uin := mark_fix hn ok hs ru iu fx
  have hg := way_goes ok n m
  have am : ∀ g, act f m.reverse g = act f (wayC f n m).reverse (act f n.reverse g) := fun g => by
    rw [← act_app, ← List.reverse_append, ← act_of_name ok (n ++ wayC f n m), hg, act_of_name ok]
  cases hu : (wayC f n m).reverse with
  | nil =>
    have : wayC f n m = [] := by simpa using hu
    rw [this, List.append_nil] at hg
    have e1 : nameOf f n = n := (is_NF ok).mpr hn'
    have e2 : nameOf f m = m := (is_NF ok).mpr hm
    rw [e1, e2] at hg
    exact hg.symm
  | cons t r =>
    have tin : t ∈ f s := uin t (by rw [hu]; exact List.mem_cons_self ..)
    have tls : t ∈ ls := iu t (by rw [hu]; exact List.mem_cons_self ..)
    have hd : desc f t (wayC f n m).reverse := by rw [hu]; exact .inl rfl
    obtain ⟨x, hx, hp⟩ := (mark_nn ok hm.red.rev imr tls (dm t tin)).2
    have e1 : mark f m.reverse t x = sumL ls fun y => act f n.reverse (unit x) y * mark f (wayC f n m).reverse t y := by
      show act f m.reverse (unit x) t = _
      rw [am, act_lin hn ok _ iu tls]
    have e2 : (sumL ls fun y => act f n.reverse (unit x) y * mark f (wayC f n m).reverse t y) ≤ 0 := by
      refine sumL_nonpos fun y hy => ?_
      have np := mark_np ok ru iu tls hd y hy
      by_cases c : y ∈ f s
      · have := (mark_nn ok hn'.red.rev inr' hy (dn y c)).1 x hx
        have this : 0 ≤ act f n.reverse (unit x) y := this
        exact Int.mul_nonpos_of_nonneg_of_nonpos this np
      · have z := mark_zero ok (x := y) (w := (wayC f n m).reverse) (s := t) (fun z => c (uin y z)) (fun z => c (z ▸ tin))
        rw [z]
        omega
    omega
/-! ### the end of a way that may be left off -/
/-- letters out of free that may be brought ahead, and the rest -/
def splitA (f : Nat → List Nat) : List Nat → List Nat → List Nat × List Nat
  | _, [] => ([], [])
  | free, k :: r => if k ∈ free then (k :: (splitA f free r).1, (splitA f free r).2) else ((splitA f (free.filter fun o => decide (o ∈ f k)) r).1, k :: (splitA f (free.filter fun o => decide (o ∈ f k)) r).2)
theorem splitA_in (f : Nat → List Nat) : ∀ (w free : List Nat), ∀ y ∈ (splitA f free w).1, y ∈ free
  | [], _, y, hy => nomatch hy
  | k :: r, free, y, hy => by
    unfold splitA at hy
    by_cases c : k ∈ free
    · rw [if_pos c] at hy
      rcases List.mem_cons.mp hy with rfl | hy
      · exact c
      · exact splitA_in f r free y hy
    · rw [if_neg c] at hy
      exact (List.mem_filter.mp (splitA_in f r _ y hy)).1
theorem splitA_mem1 (f : Nat → List Nat) : ∀ (w free : List Nat), ∀ y ∈ (splitA f free w).1, y ∈ w
  | [], _, y, hy => nomatch hy
  | k :: r, free, y, hy => by
    unfold splitA at hy
    by_cases c : k ∈ free
    · rw [if_pos c] at hy
      rcases List.mem_cons.mp hy with rfl | hy
      · exact List.mem_cons_self ..
      · exact List.mem_cons_of_mem _ (splitA_mem1 f r free y hy)
    · rw [if_neg c] at hy
      exact List.mem_cons_of_mem _ (splitA_mem1 f r _ y hy)
theorem splitA_mem2 (f : Nat → List Nat) : ∀ (w free : List Nat), ∀ y ∈ (splitA f free w).2, y ∈ w
  | [], _, y, hy => nomatch hy
  | k :: r, free, y, hy => by
    unfold splitA at hy
    by_cases c : k ∈ free
    · rw [if_pos c] at hy
      exact List.mem_cons_of_mem _ (splitA_mem2 f r free y hy)
    · rw [if_neg c] at hy
      rcases List.mem_cons.mp hy with rfl | hy
      · exact List.mem_cons_self ..
      · exact List.mem_cons_of_mem _ (splitA_mem2 f r _ y hy)
theorem splitA_len (f : Nat → List Nat) : ∀ (w free : List Nat), (splitA f free w).1.length + (splitA f free w).2.length = w.length
  | [], _ => rfl
  | k :: r, free => by
    unfold splitA
    by_cases c : k ∈ free
    · rw [if_pos c]
      have := splitA_len f r free
      simp only [List.length_cons]
      omega
    · rw [if_neg c]
      have := splitA_len f r (free.filter fun o => decide (o ∈ f k))
      simp only [List.length_cons]
      omega
theorem splitA_nil (f : Nat → List Nat) : ∀ w : List Nat, splitA f [] w = ([], w)
  | [] => rfl
  | k :: r => by
    unfold splitA
    rw [if_neg (fun z => nomatch z)]
    show ((splitA f [] r).1, k :: (splitA f [] r).2) = _
    rw [splitA_nil f r]
theorem splitA_act (ok : CrOk f) (g : Nat → Int) : ∀ (w free : List Nat), act f ((splitA f free w).1 ++ (splitA f free w).2) g = act f w g
  | [], _ => rfl
  | k :: r, free => by
    unfold splitA
    by_cases c : k ∈ free
    · rw [if_pos c]
      show thr f k (act f ((splitA f free r).1 ++ (splitA f free r).2) g) = thr f k (act f r g)
      rw [splitA_act ok g r free]
    · rw [if_neg c]
      show act f ((splitA f _ r).1 ++ k :: (splitA f _ r).2) g = thr f k (act f r g)
      rw [← splitA_act ok g r (free.filter fun o => decide (o ∈ f k)), act_app, act_app]
      show act f (splitA f _ r).1 (thr f k (act f (splitA f _ r).2 g)) = _
      rw [act_comm ok fun y hy => of_decide_eq_true (List.mem_filter.mp (splitA_in f r _ y hy)).2]
theorem splitA_desc (ok : CrOk f) : ∀ (w free : List Nat), ∀ t ∈ free, ¬ desc f t (splitA f free w).2
  | [], _, t, _ => id
  | k :: r, free, t, ht => by
    unfold splitA
    by_cases c : k ∈ free
    · rw [if_pos c]
      exact splitA_desc ok r free t ht
    · rw [if_neg c]
      rintro (z | ⟨z1, z2⟩)
      · exact c (z ▸ ht)
      · exact splitA_desc ok r _ t (List.mem_filter.mpr ⟨ht, decide_eq_true (ok.sym _ _ z1)⟩) z2
theorem splitA_back {k : Nat} : ∀ {w free : List Nat}, (∀ y ∈ free, y ∈ f k) → desc f k (splitA f free w).2 → desc f k w
  | [], _, _, h => h
  | c :: r, free, hf, h => by
    unfold splitA at h
    by_cases e : c ∈ free
    · rw [if_pos e] at h
      exact .inr ⟨hf c e, splitA_back hf h⟩
    · rw [if_neg e] at h
      rcases h with h | ⟨h1, h2⟩
      · exact .inl h
      · exact .inr ⟨h1, splitA_back (fun y hy => hf y (List.mem_filter.mp hy).1) h2⟩
theorem okAt_rest {k : Nat} : ∀ {w free : List Nat}, (∀ y ∈ free, y ∈ f k) → okAt f k w → okAt f k (splitA f free w).2
  | [], _, _, h => h
  | c :: r, free, hf, h => by
    unfold splitA
    by_cases e : c ∈ free
    · rw [if_pos e]
      exact okAt_rest hf (h.2 (hf c e)).2
    · rw [if_neg e]
      exact ⟨h.1, fun z => ⟨(h.2 z).1, okAt_rest (fun y hy => hf y (List.mem_filter.mp hy).1) (h.2 z).2⟩⟩
theorem NFr_rest : ∀ {w free : List Nat}, NFr f w → NFr f (splitA f free w).2
  | [], _, h => h
  | c :: r, free, h => by
    unfold splitA
    by_cases e : c ∈ free
    · rw [if_pos e]
      exact NFr_rest h.2
    · rw [if_neg e]
      exact ⟨okAt_rest (fun y hy => of_decide_eq_true (List.mem_filter.mp hy).2) h.1, NFr_rest h.2⟩
theorem splitA_congr {g : Nat → List Nat} : ∀ {w free free' : List Nat}, (∀ c ∈ w, c ∈ free ↔ c ∈ free') → (∀ k ∈ w, ∀ c ∈ w, c ∈ f k ↔ c ∈ g k) → splitA f free w = splitA g free' w
  | [], _, _, _, _ => rfl
  | k :: r, free, free', h1, h2 => by
    have hk := h1 k (List.mem_cons_self ..)
    have h2' : ∀ k ∈ r, ∀ c ∈ r, c ∈ f k ↔ c ∈ g k := fun y hy c hc => h2 y (List.mem_cons_of_mem _ hy) c (List.mem_cons_of_mem _ hc)
    unfold splitA
    by_cases c : k ∈ free
    · rw [if_pos c, if_pos (hk.mp c), splitA_congr (fun y hy => h1 y (List.mem_cons_of_mem _ hy)) h2']
    · rw [if_neg c, if_neg fun z => c (hk.mpr z), splitA_congr (free' := free'.filter fun o => decide (o ∈ g k)) (fun y hy => ?_) h2']
      rw [List.mem_filter, List.mem_filter, decide_eq_true_iff, decide_eq_true_iff, h1 y (List.mem_cons_of_mem _ hy), h2 k (List.mem_cons_self ..) y (List.mem_cons_of_mem _ hy)]
/-! ### where a wall begins -/
def nearC (f : Nat → List Nat) (name : List Nat) (s : Nat) : List Nat := if desc f s name.reverse then stepOf (f s) name s else name
def startC (f : Nat → List Nat) (name : List Nat) (s : Nat) : List Nat := (splitA f (f s) (nearC f name s).reverse).2.reverse
theorem near_not (ok : CrOk f) {name : List Nat} (h : NF f name) (s : Nat) : ¬ desc f s (nearC f name s).reverse := by
  unfold nearC
  by_cases c : desc f s name.reverse
  · rw [if_pos c]
    intro z
    have l1 := (step_len_desc ok name s).1 c
    have l2 := (step_len_desc ok (stepOf (f s) name s) s).1 z
    have e : stepOf (f s) (stepOf (f s) name s) s = name := by
      have e1 : nameOf f name = name := (is_NF ok).mpr h
      have e2 := name_twice ok name s
      rw [e1] at e2
      have e3 : nameOf f (name ++ [s] ++ [s]) = stepOf (f s) (stepOf (f s) (nameOf f name) s) s := by
        show joinC f [] (name ++ [s] ++ [s]) = _
        rw [joinC_app, joinC_app]
        rfl
      rw [e3, e1] at e2
      exact e2
    rw [e] at l2
    omega
  · rw [if_neg c]
    exact c
theorem near_NF (ok : CrOk f) {name : List Nat} (h : NF f name) (s : Nat) : NF f (nearC f name s) := by
  unfold nearC
  split
  · exact NF_step ok h
  · exact h
theorem near_mem {name : List Nat} {s c : Nat} (h : c ∈ nearC f name s) : c = s ∨ c ∈ name := by
  unfold nearC at h
  split at h
  · exact stepOf_mem h
  · exact .inr h
theorem start_NF (ok : CrOk f) {name : List Nat} (h : NF f name) (s : Nat) : NF f (startC f name s) := by
  unfold startC NF
  rw [List.reverse_reverse]
  exact NFr_rest (near_NF ok h s)
theorem start_not (ok : CrOk f) {name : List Nat} (h : NF f name) (s : Nat) : ¬ desc f s (startC f name s).reverse := by
  unfold startC
  rw [List.reverse_reverse]
  exact fun z => near_not ok h s (splitA_back (fun y hy => hy) z)
theorem start_free (ok : CrOk f) (name : List Nat) (s : Nat) : ∀ t ∈ f s, ¬ desc f t (startC f name s).reverse := by
  unfold startC
  rw [List.reverse_reverse]
  exact splitA_desc ok _ _
theorem start_mem {name : List Nat} {s c : Nat} (h : c ∈ startC f name s) : c = s ∨ c ∈ name := near_mem (List.mem_reverse.mp (splitA_mem2 f _ _ c (List.mem_reverse.mp h)))
theorem mark_along (ok : CrOk f) {g : Nat → Int} {v : List Nat} : ∀ {u : List Nat}, (∀ y ∈ u, y ∈ f s) → act f (u ++ v) g s = act f v g s
  | [], _ => rfl
  | y :: u, h => by
    show thr f y (act f (u ++ v) g) s = _
    rw [thr_cr ok (ok.sym _ _ (h y (List.mem_cons_self ..))), mark_along ok fun z hz => h z (List.mem_cons_of_mem _ hz)]
theorem start_mark (ok : CrOk f) (name : List Nat) (s : Nat) (g : Nat → Int) : act f (startC f name s).reverse g s = act f (nearC f name s).reverse g s := by
  unfold startC
  rw [List.reverse_reverse, ← splitA_act ok g (nearC f name s).reverse (f s)]
  exact (mark_along ok (splitA_in f _ _)).symm
theorem near_mark (ok : CrOk f) (name : List Nat) (s : Nat) (g : Nat → Int) : act f (nearC f name s).reverse g s = if desc f s name.reverse then - act f name.reverse g s else act f name.reverse g s := by
  unfold nearC
  by_cases c : desc f s name.reverse
  · rw [if_pos c, if_pos c, act_rev_eq ok (fun g => act_step ok name s g), List.reverse_append]
    show thr f s (act f name.reverse g) s = _
    rw [thr_self]
  · rw [if_neg c, if_neg c]
/-- the mark or its opposite, whichever is not below nought -/
def posM (f : Nat → List Nat) (ls : List Nat) (w : List Nat) (s : Nat) : Nat → Int := if ∃ x ∈ ls, act f w.reverse (unit x) s < 0 then fun x => - act f w.reverse (unit x) s else fun x => act f w.reverse (unit x) s
theorem pos_start (ok : CrOk f) {w : List Nat} (hw : ∀ y ∈ w, y ∈ ls) (hs : s ∈ ls) (x : Nat) : posM f ls w s x = mark f (startC f (nameOf f w) s).reverse s x := by
  have hr := (name_NF ok w).red.rev
  have h1 := mark_neg (ls := ls) ok hr (fun y hy => hw y (name_mem (List.mem_reverse.mp hy))) hs
  show _ = act f (startC f (nameOf f w) s).reverse (unit x) s
  rw [start_mark ok, near_mark ok]
  unfold posM
  have e : (∃ x ∈ ls, act f w.reverse (unit x) s < 0) ↔ desc f s (nameOf f w).reverse := by
    rw [← h1]
    unfold mark
    simp only [act_of_name ok]
  by_cases c : desc f s (nameOf f w).reverse
  · rw [if_pos c, if_pos (e.mpr c), act_of_name ok]
  · rw [if_neg c, if_neg fun z => c (e.mp z), act_of_name ok]
/-- one wall, by the marks -/
theorem wall_iff (hn : ls.Nodup) (ok : CrOk f) (hs : s ∈ ls) {v w : List Nat} (hv : ∀ y ∈ v, y ∈ ls) (hw : ∀ y ∈ w, y ∈ ls) : startC f (nameOf f v) s = startC f (nameOf f w) s ↔ ∀ x ∈ ls, posM f ls v s x = posM f ls w s x := by
  constructor
  · intro h x _
    rw [pos_start ok hv hs, pos_start ok hw hs, h]
  · intro h
    have mem : ∀ {w : List Nat}, (∀ y ∈ w, y ∈ ls) → ∀ y ∈ startC f (nameOf f w) s, y ∈ ls := fun hw y hy => (start_mem hy).elim (fun z => z ▸ hs) fun z => hw y (name_mem z)
    refine wall_uniq hn ok hs (start_NF ok (name_NF ok v) s) (start_NF ok (name_NF ok w) s) (mem hv) (mem hw) (start_free ok _ s) (start_free ok _ s) fun x hx => ?_
    rw [← pos_start ok hv hs, ← pos_start ok hw hs]
    exact h x hx
end
end Cw
set_option Elab.async false
set_option linter.all false
set_option maxRecDepth 100000
set_option maxHeartbeats 4000000
/-! more words: >, upper, list + list, parts of texts, values that are no texts -/
namespace Cw
open PySem PySem.Spec L2
section
variable {X : Cx}
theorem op_cat1 : OpR X (binaryOp .Add) rCat := op_cat
end
section
variable {σ : St} {H : Hp} {Q : VK} {K : PySem.W.Frag}
theorem v_cat {l b : Addr} {xs zs : List V} (h1 : H l = some (.lst xs)) (h2 : H b = some (.lst zs)) (hl : xs.length + zs.length ≤ 1000000) (q : ∀ p H', H p = none → Same H H' → H' p = some (.lst (xs ++ zs)) → Q (.ref p) H') : rCat (.ref l) (.ref b) H Q :=
  ⟨l, b, xs, zs, rfl, rfl, h1, h2, szl hl, fun p hp => q p _ hp (Same.new hp) upd_same⟩
end
end Cw
set_option Elab.async false
set_option linter.all false
set_option maxRecDepth 100000
set_option maxHeartbeats 4000000
/-! classes without defaults; == with an object of another class -/
namespace Cw
open PySem PySem.Spec L2
section
variable {P : Program} {w : World} {K : PySem.W.Frag} {mg : Str → Option Value} {base : Heap} {CX : CXT} {k : Nat} {C : Addr} {x qual : Str} {ps N : List Str} {sp sp0 : Sp} {st : Stmt}
/-- C(..) by its __init__, which has no defaults -/
structure CMk0 (P : Program) (w : World) (K : PySem.W.Frag) (mg : Str → Option Value) (base : Heap) (CX : CXT) (k : Nat) (x : Str) (C : Addr) (sp : Sp) (ps : List Str) (qual : Str) (st : Stmt) : Prop where
  ex : ∃ f fd sp0, mg x = some (.ref C) ∧ Mk K C f ∧ Binds K fd ps [] ∧ FnOk P w K mg base CX k f fd ps sp0 ∧ Conv C sp0 sp ∧ Fun K "__init__" qual st f fd
theorem CMk0.cdef (D : CMk0 P w K mg base CX k x C sp ps qual st) : CDef P w K mg base CX k x C sp := by
  obtain ⟨f, fd, sp0, a, b, c, d, e, _⟩ := D.ex
  exact ⟨f, fd, ps, sp0, a, b, c, d, e⟩
theorem MAt.make0 (F : MAt K C "__init__" qual st) (cf : ClsF K mg x C) (S : FnScope N ps (defScope st))
    (hb : ∀ (kV doc pm : Value) (an : Option Addr) (cdv ct : Value) (us : List Value), us.length = ps.length → bindArgs (PySem.W.fnOf "__init__" qual (defArgs st) (defBody st) (defScope st) .none kV doc pm an cdv ct) ⟨us, []⟩ = pure (ps.zip us))
    (len : ∀ vs H Q E, sp0 vs H Q E → vs.length = ps.length) (cv : Conv C sp0 sp)
    (hbody : ∀ (f : Addr) (cdv : Value) (A : Around) (outer : List Env) (s : Shared) (H : Hp) (vs : List V) (Q : VK) (E : XK), Room k (A.deeper (PyProof.Rows.envOfC qual (defScope st) s.heap.objs.size f cdv)) → sp0 vs H Q E →
      ∃ t, PSs (cxOf CX0 P w K mg base N qual (defScope st) f cdv A outer s H E).nox (defBody st) t ∧ t { nx := fun _ H' => Q .non H', rt := Q } (start N vs) H) : CMk0 P w K mg base CX0 (k + 1) x C sp ps qual st := by
  obtain ⟨f, fd, h1, h2, F⟩ := F.ex
  exact ⟨f, fd, sp0, cf.at, ⟨cf.mks, h1, h2, cf.kp⟩, F.binds hb, F.ok S len fun cdv A outer s H vs Q E hr h => hbody f cdv A outer s H vs Q E hr h, cv, F⟩
theorem CMk0.kw (D : CMk0 P w K mg base CX k x C sp ps qual st) (n : Nat) (ks : List Str) (ss : List Src)
    (h : ∀ (kV doc pm : Value) (an : Option Addr) (cdv ct : Value) (us ws : List Value), us.length = n + 1 → ws.length = ks.length → bindArgs (PySem.W.fnOf "__init__" qual (defArgs st) (defBody st) (defScope st) .none kV doc pm an cdv ct) ⟨us, ks.zip ws⟩ = pure (ps.zip (gS (.pos 0 :: ss.map Src.up) us [] ws))) : CDefN P w K mg base CX k x C sp n ks ss [] := by
  obtain ⟨f, fd, sp0, a, b, c, d, e, G⟩ := D.ex
  refine ⟨f, fd, ps, sp0, a, b, ?_, d, e⟩
  obtain ⟨oc, od, kV, doc, pm, an, cdv, ct, osl, rfl, _⟩ := G.ex
  exact kb_of (h kV doc pm an cdv ct)
end
section
variable {X : Cx} {CX : CXT} {k : Nat} {C C' : Addr} {m : Str} {ps : List Str} {sp : Sp} {E : XK}
def rMX (C C' : Addr) (sp : Sp) (E : XK) : R2 := fun x y H Q => ∃ a b dx dy fs gs, x = .ref a ∧ y = .ref b ∧ H a = some (.ins C dx fs) ∧ H b = some (.ins C' dy gs) ∧ sp [.ref a, .ref b] H Q E
theorem op_eqMX (D : MDef X.prog X.w X.K X.mg X.base CX k C "__eq__" ps sp) (hn : PySem.W.notFirst X.K C (.ref C') = true) (hr : Room k X.A) (hx : Passes CX X E) : OpR X (compareOp .Eq) (rMX C C' sp E) := by
  obtain ⟨f, fd, h1, h2, kp, ⟨hb, _⟩, F⟩ := D.ex
  intro pins s σ H x y v u Q I rx ry h
  obtain ⟨a, b, dx, dy, fs, gs, rfl, rfl, ha, hb', hq⟩ := h
  cases rx
  cases ry
  obtain ⟨mA, J, _⟩ := ins_get I.hok ha
  obtain ⟨mB, J', _⟩ := ins_get I.hok hb'
  obtain ⟨od, J, _⟩ := J.look
  obtain ⟨od', J', _⟩ := J'.look
  obtain ⟨mm, hF⟩ := I.fr
  show wpAny (model X.prog X.w) X.A (richCompare .Eq _ _) _ _ _
  refine PySem.W.cmp_K (op := .Eq) (tb := .ref C') hr.units0 hF I.ok.mod.kin J J'.type hn h1 h2 ?_
  have z := run_fn (us := [.ref a, .ref b]) (vs := [.ref a, .ref b]) (dvs := []) F hr hb .nil hx I (.cons rfl (.cons rfl .nil)) hq
  refine wpAny_mono z (fun v s' q => ?_) fun _ _ q => q
  obtain ⟨y, H', I', r, q⟩ := q
  have k : EP X pins σ Q v s' := ⟨y, H', I', r, q⟩
  cases v <;> first | exact k | (exfalso; cases y <;> first | (obtain ⟨_, r⟩ := r; cases r) | cases r)
end
end Cw
set_option Elab.async false
set_option linter.all false
set_option maxRecDepth 100000
set_option maxHeartbeats 4000000
/-! more of walls in plain words -/
namespace Cw
section
variable {f : Nat → List Nat} {ls : List Nat} {s t : Nat}
/-- a door from its other side -/
theorem pos_thr (ok : CrOk f) {w : List Nat} (hw : ∀ y ∈ w, y ∈ ls) (hs : s ∈ ls) : posM f ls (w ++ [s]) s = posM f ls w s := by
  have hr := (name_NF ok w).red.rev
  have hm : ∀ y ∈ (nameOf f w).reverse, y ∈ ls := fun y hy => hw y (name_mem (List.mem_reverse.mp hy))
  have e1 : ∀ x, act f (w ++ [s]).reverse (unit x) s = - act f w.reverse (unit x) s := fun x => by
    rw [List.reverse_append]
    show thr f s (act f w.reverse (unit x)) s = _
    rw [thr_self]
  have e2 : ∀ x, mark f (nameOf f w).reverse s x = act f w.reverse (unit x) s := fun x => by
    unfold mark
    rw [act_of_name ok]
  unfold posM
  simp only [e1]
  by_cases c : desc f s (nameOf f w).reverse
  · have h1 := mark_np ok hr hm hs c
    have h2 := (mark_neg (ls := ls) ok hr hm hs).mpr c
    simp only [e2] at h1 h2
    rw [if_pos h2, if_neg]
    rintro ⟨x, hx, z⟩
    have := h1 x hx
    omega
  · have h1 := mark_nn ok hr hm hs c
    obtain ⟨h1, x, hx, h2⟩ := h1
    simp only [e2] at h1 h2
    rw [if_pos ⟨x, hx, by omega⟩, if_neg]
    · funext y
      omega
    · rintro ⟨y, hy, z⟩
      have := h1 y hy
      omega
theorem wall_thr (hn : ls.Nodup) (ok : CrOk f) (hs : s ∈ ls) {w : List Nat} (hw : ∀ y ∈ w, y ∈ ls) : startC f (nameOf f (w ++ [s])) s = startC f (nameOf f w) s := by
  refine (wall_iff hn ok hs (fun y hy => ?_) hw).mpr fun x _ => by rw [pos_thr ok hw hs]
  rcases List.mem_append.mp hy with z | z
  · exact hw y z
  · rw [List.mem_singleton.mp z]
    exact hs
end
end Cw
set_option Elab.async false
set_option linter.all false
set_option maxRecDepth 100000
set_option maxHeartbeats 4000000
/-! rooms beyond a wall, by the marks of the doors of a shortest way -/
namespace Cw
section
variable {f : Nat → List Nat} {ls : List Nat} {s c : Nat}
theorem int_one {k t : Int} (h : k * t = 1) (hk : 0 < k) : k = 1 := by
  have ht : 0 < t := by
    rcases Int.lt_or_le 0 t with z | z
    · exact z
    · have := Int.mul_nonpos_of_nonneg_of_nonpos (Int.le_of_lt hk) z
      omega
  have h1 : k * 1 ≤ k * t := Int.mul_le_mul_of_nonneg_left (by omega) (by omega)
  omega
theorem unit_thr {x e : Nat} (hx : x ≠ c) : thr f c (unit x) e = unit x e := by
  have h0 : unit x c = 0 := by
    unfold unit
    rw [if_neg hx.symm]
  unfold thr
  by_cases h : e = c
  · rw [if_pos h, h, h0]
    rfl
  · rw [if_neg h]
    split
    · rfl
    · rw [h0]
      omega
/-- what stands on one side of all, in a word -/
theorem sign_def (ok : CrOk f) {w : List Nat} (hw : ∀ y ∈ w, y ∈ ls) (hs : s ∈ ls) : Pos ls (mark f w s) ∨ ((∀ x ∈ ls, mark f w s x ≤ 0) ∧ ∃ x ∈ ls, mark f w s x < 0) := by
  have hm : ∀ y ∈ nameOf f w, y ∈ ls := fun y hy => hw y (name_mem hy)
  have hr := (name_NF ok w).red
  have e : ∀ x, mark f (nameOf f w) s x = mark f w s x := fun x => by
    unfold mark
    rw [name_act ok]
  by_cases d : desc f s (nameOf f w)
  · right
    have h1 := mark_np ok hr hm hs d
    have h2 := (mark_neg (ls := ls) ok hr hm hs).mpr d
    simp only [e] at h1 h2
    exact ⟨h1, h2⟩
  · left
    exact (mark_nn ok hr hm hs d).congr fun x _ => (e x).symm
end
end Cw
set_option Elab.async false
set_option linter.all false
set_option maxRecDepth 100000
set_option maxHeartbeats 4000000
/-! the middle of three rooms, in plain words -/
namespace Cw
section
variable {f : Nat → List Nat} {ls : List Nat} {s t c : Nat}
/-- the mark has a coordinate below nought -/
def Ng (f : Nat → List Nat) (ls : List Nat) (w : List Nat) (s : Nat) : Prop := ∃ x ∈ ls, mark f w s x < 0
theorem ng_desc (ok : CrOk f) {w : List Nat} (hr : Red f w) (hw : ∀ y ∈ w, y ∈ ls) (hs : s ∈ ls) : Ng f ls w s ↔ desc f s w := mark_neg ok hr hw hs
theorem ng_name (ok : CrOk f) (w : List Nat) (s : Nat) : Ng f ls (nameOf f w) s ↔ Ng f ls w s := by
  unfold Ng mark
  simp only [name_act ok]
theorem ng_act {v w : List Nat} (h : ∀ g, act f v g = act f w g) (s : Nat) : Ng f ls v s ↔ Ng f ls w s := by
  unfold Ng mark
  simp only [h]
theorem not_ng (ok : CrOk f) {w : List Nat} (hw : ∀ y ∈ w, y ∈ ls) (hs : s ∈ ls) : ¬ Ng f ls w s ↔ Pos ls (mark f w s) := by
  constructor
  · intro h
    exact (sign_def ok hw hs).resolve_right fun z => h z.2
  · rintro ⟨h1, _⟩ ⟨x, hx, z⟩
    have := h1 x hx
    omega
theorem ng_np (ok : CrOk f) {w : List Nat} (hw : ∀ y ∈ w, y ∈ ls) (hs : s ∈ ls) (h : Ng f ls w s) : ∀ x ∈ ls, mark f w s x ≤ 0 := by
  rcases sign_def ok hw hs with z | z
  · exact absurd h ((not_ng ok hw hs).mpr z)
  · exact z.1
theorem desc_left {s : Nat} {b : List Nat} : ∀ {a : List Nat}, desc f s a → desc f s (a ++ b)
  | [], h => h.elim
  | y :: a, h => by
    rcases h with h | ⟨h1, h2⟩
    · exact .inl h
    · exact .inr ⟨h1, desc_left h2⟩
theorem Red_left {b : List Nat} : ∀ {a : List Nat}, Red f (a ++ b) → Red f a
  | [], _ => trivial
  | y :: a, h => ⟨fun z => h.1 (desc_left z), Red_left h.2⟩
/-- where the sign turns along a way, one door of the way lies in the wall -/
theorem turn_door (hn : ls.Nodup) (ok : CrOk f) {z : List Nat} (hz : ∀ y ∈ z, y ∈ ls) (hs : s ∈ ls) : ∀ (u : List Nat), (∀ y ∈ u, y ∈ ls) → ¬ (Ng f ls z s ↔ Ng f ls (z ++ u) s) → ∃ p c q, u = p ++ c :: q ∧ ((∀ g, act f (z ++ p) g s = g c) ∨ (∀ g, act f (z ++ p) g s = - g c)) := by
  intro u hu h
  -- the first place where the sign turns
  have key : ∀ (p q : List Nat), u = p ++ q → ¬ (Ng f ls (z ++ p) s ↔ Ng f ls (z ++ u) s) → ∃ p c q, u = p ++ c :: q ∧ ¬ (Ng f ls (z ++ p) s ↔ Ng f ls (z ++ (p ++ [c])) s) := by
    intro p q
    induction q generalizing p with
    | nil =>
      intro e h
      rw [List.append_nil] at e
      rw [e] at h
      exact absurd Iff.rfl h
    | cons c q ih =>
      intro e h
      by_cases d : Ng f ls (z ++ p) s ↔ Ng f ls (z ++ (p ++ [c])) s
      · refine ih (p ++ [c]) (by rw [e, List.append_assoc]; rfl) fun w => h (d.trans w)
      · exact ⟨p, c, q, e, d⟩
  obtain ⟨p, c, q, e, d⟩ := key [] u rfl (by rw [List.append_nil]; exact h)
  refine ⟨p, c, q, e, ?_⟩
  subst e
  have hc : c ∈ ls := hu c (List.mem_append_right _ (List.mem_cons_self ..))
  have hzp : ∀ y ∈ z ++ p, y ∈ ls := fun y hy => (List.mem_append.mp hy).elim (hz y) fun w => hu y (List.mem_append_left _ w)
  have hzc : ∀ y ∈ z ++ (p ++ [c]), y ∈ ls := fun y hy => by
    rw [← List.append_assoc] at hy
    rcases List.mem_append.mp hy with w | w
    · exact hzp y w
    · rw [List.mem_singleton.mp w]
      exact hc
  have same : ∀ x, x ≠ c → mark f (z ++ (p ++ [c])) s x = mark f (z ++ p) s x := fun x hx => by
    unfold mark
    rw [← List.append_assoc, act_app]
    show act f (z ++ p) (thr f c (unit x)) s = _
    rw [show thr f c (unit x) = unit x from funext fun e => unit_thr hx]
  have eq0 : ∀ x ∈ ls, x ≠ c → mark f (z ++ p) s x = 0 := by
    intro x hx hxc
    have e := same x hxc
    by_cases n : Ng f ls (z ++ p) s
    · have n2 : ¬ Ng f ls (z ++ (p ++ [c])) s := fun w => d ⟨fun _ => w, fun _ => n⟩
      have a1 := ng_np ok hzp hs n x hx
      have a2 := ((not_ng ok hzc hs).mp n2).1 x hx
      omega
    · have n2 : Ng f ls (z ++ (p ++ [c])) s := Classical.byContradiction fun w => d ⟨fun a => absurd a n, fun a => absurd a w⟩
      have a1 := ((not_ng ok hzp hs).mp n).1 x hx
      have a2 := ng_np ok hzc hs n2 x hx
      omega
  have lin : ∀ g, act f (z ++ p) g s = mark f (z ++ p) s c * g c := by
    intro g
    rw [act_lin hn ok g hzp hs]
    have e2 : sumL ls (fun x => g x * mark f (z ++ p) s x) = sumL ls fun x => (mark f (z ++ p) s c * g x) * unit x c := sumL_congr fun x hx => by
      unfold unit
      by_cases e : c = x
      · rw [if_pos e, ← e, Int.mul_one, Int.mul_comm]
      · rw [if_neg e, eq0 x hx fun w => e w.symm]
        omega
    rw [e2]
    exact sumL_unit (g := fun x => mark f (z ++ p) s c * g x) hn hc
  have h1 := lin (act f (z ++ p).reverse (unit s))
  rw [act_rev' ok] at h1
  have hu1 : unit s s = 1 := if_pos rfl
  rw [hu1] at h1
  rcases Int.lt_or_le 0 (mark f (z ++ p) s c) with k0 | k0
  · have one := int_one h1.symm k0
    exact .inl fun g => by rw [lin, one, Int.one_mul]
  · have hk : mark f (z ++ p) s c ≠ 0 := fun w => by rw [w] at h1; omega
    have one : - mark f (z ++ p) s c = 1 := int_one (t := - act f (z ++ p).reverse (unit s) c) (by rw [Int.neg_mul_neg]; exact h1.symm) (by omega)
    exact .inr fun g => by
      rw [lin]
      have : mark f (z ++ p) s c = -1 := by omega
      rw [this]
      omega
end
end Cw
set_option Elab.async false
set_option linter.all false
set_option maxRecDepth 100000
set_option maxHeartbeats 4000000
/-! the room between each two of three -/
namespace Cw
section
variable {f : Nat → List Nat} {ls : List Nat} {s t k : Nat}
theorem red_of_len (ok : CrOk f) {w : List Nat} (h : (nameOf f w).length = w.length) : Red f w := by
  rw [Red_iff]
  intro p t q r e hq
  have e2 : nameOf f w = nameOf f (p ++ (q ++ r)) := name_eq ok fun g => by
    rw [e]
    simp only [act_app]
    show act f p (thr f t (act f (q ++ t :: r) g)) = _
    rw [act_app]
    show act f p (thr f t (act f q (thr f t (act f r g)))) = _
    rw [act_comm ok hq, thr_thr ok]
  have l1 := name_len f (p ++ (q ++ r))
  rw [← e2, h, e] at l1
  simp only [List.length_append, List.length_cons] at l1
  omega
/-- one letter less -/
theorem erase_desc (ok : CrOk f) {w : List Nat} (h : desc f k w) : ∃ p q, w = p ++ k :: q ∧ (∀ y ∈ p, y ∈ f k) ∧ w.erase k = p ++ q := by
  obtain ⟨p, q, rfl, hp⟩ := desc_split h
  refine ⟨p, q, rfl, hp, ?_⟩
  rw [List.erase_append_right _ fun z => ok.irr k (hp k z), List.erase_cons_head]
theorem erase_red (ok : CrOk f) {w : List Nat} (h : desc f k w) (hr : Red f w) : Red f (w.erase k) := by
  obtain ⟨p, q, rfl, hp, e⟩ := erase_desc ok h
  rw [e]
  exact Red_out ok hp hr
theorem erase_act (ok : CrOk f) {w : List Nat} (h : desc f k w) (g : Nat → Int) : act f (k :: w.erase k) g = act f w g := by
  obtain ⟨p, q, rfl, hp, e⟩ := erase_desc ok h
  rw [e]
  show thr f k (act f (p ++ q) g) = _
  rw [act_app, act_app]
  show _ = act f p (thr f k (act f q g))
  rw [act_comm ok hp]
theorem erase_len {w : List Nat} (h : desc f k w) : (w.erase k).length + 1 = w.length := by
  obtain ⟨p, q, rfl, hp⟩ := desc_split h
  have : k ∈ p ++ k :: q := List.mem_append_right _ (List.mem_cons_self ..)
  rw [List.length_erase_of_mem this]
  have : 0 < (p ++ k :: q).length := by rw [List.length_append, List.length_cons]; omega
  omega
/-- what is in common at the beginning of two ways, and the rests -/
structure Share (f : Nat → List Nat) (ls u v fd u' v' : List Nat) : Prop where
  au : ∀ g, act f u g = act f (fd ++ u') g
  av : ∀ g, act f v g = act f (fd ++ v') g
  ru : Red f u'
  rv : Red f v'
  mu : ∀ y ∈ u', y ∈ ls
  mv : ∀ y ∈ v', y ∈ ls
  mf : ∀ y ∈ fd, y ∈ ls
  lu : fd.length + u'.length = u.length
  lv : fd.length + v'.length = v.length
theorem Share.start {u v : List Nat} (ru : Red f u) (rv : Red f v) (mu : ∀ y ∈ u, y ∈ ls) (mv : ∀ y ∈ v, y ∈ ls) : Share f ls u v [] u v := ⟨fun _ => rfl, fun _ => rfl, ru, rv, mu, mv, fun _ z => (nomatch z), by simp, by simp⟩
theorem Share.step (ok : CrOk f) {u v fd u' v' : List Nat} (h : Share f ls u v fd u' v') (hk : k ∈ ls) (hu : desc f k u') (hv : desc f k v') : Share f ls u v (fd ++ [k]) (u'.erase k) (v'.erase k) where
  au := fun g => by rw [h.au, List.append_assoc, act_app, act_app]; show _ = act f fd (act f (k :: u'.erase k) g); rw [erase_act ok hu]
  av := fun g => by rw [h.av, List.append_assoc, act_app, act_app]; show _ = act f fd (act f (k :: v'.erase k) g); rw [erase_act ok hv]
  ru := erase_red ok hu h.ru
  rv := erase_red ok hv h.rv
  mu := fun y hy => h.mu y (List.mem_of_mem_erase hy)
  mv := fun y hy => h.mv y (List.mem_of_mem_erase hy)
  mf := fun y hy => (List.mem_append.mp hy).elim (h.mf y) fun z => by rw [List.mem_singleton.mp z]; exact hk
  lu := by
    have := erase_len hu
    have := h.lu
    rw [List.length_append, List.length_singleton]
    omega
  lv := by
    have := erase_len hv
    have := h.lv
    rw [List.length_append, List.length_singleton]
    omega
/-- the middle of three rooms, by all walls -/
structure Mid (f : Nat → List Nat) (ls a b c M : List Nat) : Prop where
  nf : NF f M
  mem : ∀ y ∈ M, y ∈ ls
  by' : ∀ z : List Nat, (∀ y ∈ z, y ∈ ls) → ∀ s ∈ ls, (Ng f ls (z ++ M) s ↔ (Ng f ls (z ++ a) s ∧ Ng f ls (z ++ b) s) ∨ (Ng f ls (z ++ a) s ∧ Ng f ls (z ++ c) s) ∨ (Ng f ls (z ++ b) s ∧ Ng f ls (z ++ c) s))
theorem ng_nil {s : Nat} : ¬ Ng f ls [] s := by
  rintro ⟨x, _, h⟩
  have h : unit x s < 0 := h
  unfold unit at h
  split at h <;> omega
theorem ng_back (ok : CrOk f) (m : List Nat) (s : Nat) : ¬ Ng f ls (m.reverse ++ m) s := fun z => ng_nil (f := f) (ls := ls) (s := s) ((ng_act (w := []) (fun g => by rw [act_app, act_rev ok]; rfl) s).mp z)
/-- rooms that no wall parts are one -/
theorem room_uniq (ok : CrOk f) {M N : List Nat} (hM : NF f M) (hN : NF f N) (mM : ∀ y ∈ M, y ∈ ls) (mN : ∀ y ∈ N, y ∈ ls) (h : ∀ s ∈ ls, ¬ Ng f ls (M.reverse ++ N) s) : M = N := by
  have hw : ∀ y ∈ wayC f M N, y ∈ ls := fun y hy => by
    rcases List.mem_append.mp (name_mem hy) with z | z
    · exact mM y (List.mem_reverse.mp z)
    · exact mN y z
  have e : wayC f M N = [] := by
    cases hc : wayC f M N with
    | nil => rfl
    | cons t r =>
      exfalso
      have ht : t ∈ ls := hw t (by rw [hc]; exact List.mem_cons_self ..)
      refine h t ht ((ng_name ok _ t).mp ((ng_desc ok (name_NF ok _).red hw ht).mpr ?_))
      show desc f t (wayC f M N)
      rw [hc]
      exact .inl rfl
  have := way_goes ok M N
  rw [e, List.append_nil] at this
  have e1 : nameOf f M = M := (is_NF ok).mpr hM
  have e2 : nameOf f N = N := (is_NF ok).mpr hN
  rw [e1, e2] at this
  exact this
theorem Mid.uniq (ok : CrOk f) {a b c a' b' c' M N : List Nat} (h : Mid f ls a b c M) (h' : Mid f ls a' b' c' N)
    (hp : ∀ z : List Nat, (∀ y ∈ z, y ∈ ls) → ∀ s ∈ ls, (((Ng f ls (z ++ a) s ∧ Ng f ls (z ++ b) s) ∨ (Ng f ls (z ++ a) s ∧ Ng f ls (z ++ c) s) ∨ (Ng f ls (z ++ b) s ∧ Ng f ls (z ++ c) s)) ↔ ((Ng f ls (z ++ a') s ∧ Ng f ls (z ++ b') s) ∨ (Ng f ls (z ++ a') s ∧ Ng f ls (z ++ c') s) ∨ (Ng f ls (z ++ b') s ∧ Ng f ls (z ++ c') s)))) : M = N := by
  refine room_uniq (ls := ls) ok h.nf h'.nf h.mem h'.mem fun s hs z => ng_back (ls := ls) ok M s ?_
  have mz : ∀ y ∈ M.reverse, y ∈ ls := fun y hy => h.mem y (List.mem_reverse.mp hy)
  exact (h.by' _ mz s hs).mpr ((hp _ mz s hs).mpr ((h'.by' _ mz s hs).mp z))
end
end Cw
set_option Elab.async false
set_option linter.all false
set_option maxRecDepth 100000
set_option maxHeartbeats 4000000
/-! text.replace(letter, "", 1): the first such letter is left out -/
namespace Cw
open PySem PySem.Spec L2 PyProof.Rows Builtin Builtin.Str
/-! ### def without_first(way, kind): return way.replace(kind, "", 1) -/
/-- its promise, of raw arguments -/
def CutRun (P : Program) (w : World) (K : PySem.W.Frag) (mg : Str → Option Value) (base : Heap) (CX : CXT) (k : Nat) (f : Addr) : Prop :=
  ∀ (A : Around) (outer : List Env) (s : Shared) (H : Hp) (p q : List Nat) (c : Nat) (t u : Tok) (Q : VK) (E : XK), Room k A → Env0 P w K mg base A outer s H → u ≠ 0 → u < s.toks → ¬ c ∈ p → (p ++ c :: q).length ≤ 1000000 → Q (.str (tx (p ++ q))) H →
    codeAny (model P w) A (.call (.ref f) ⟨[.str (tx (p ++ c :: q)) t, .str (tx [c]) u], []⟩) (CR CX outer P w H s Q E) s
end Cw
set_option Elab.async false
set_option linter.all false
set_option maxRecDepth 100000
set_option maxHeartbeats 4000000
/-! a loop over a text whose letters go on to text.replace: the letter's token is carried in its name -/
namespace Cw
open PySem PySem.Spec L2
section
variable {X : Cx} {pins : List (Addr × Obj)} {σ : St} {H : Hp} {s : Shared}
/-- the letter c stands under the name x, with the token u -/
def RawAt (X : Cx) (x : Str) (c : Nat) (u : Tok) (s : Shared) : Prop := ∃ m, s.heap.Ns X.env.locals m ∧ m x = some (.str (tx [c]) u) ∧ u ≠ 0 ∧ u < s.toks
end
/-! ### judgements that carry the letter -/
def PSsR (X : Cx) (ix : Nat) (x : Str) (st : List Stmt) (t : TS) : Prop :=
  ∀ (pins : List (Addr × Obj)) (s : Shared) (σ : St) (H : Hp) (D : Ends) (c : Nat) (u : Tok), Inv X pins σ H s → σ[ix]? = some (some (.str (tx [c]))) → RawAt X x c u s → t D σ H → wpAny (model X.prog X.w) X.A (execs st X.env) (SP X pins D) X.xe s
section
variable {X : Cx} {ix : Nat} {x : Str} {rest : List Stmt} {u : TS}
theorem PSsR.of (h : PSs X rest u) : PSsR X ix x rest u := fun pins s σ H D _ _ I _ _ q => h.run pins s σ H D I q
end
end Cw
set_option Elab.async false
set_option linter.all false
set_option maxRecDepth 100000
set_option maxHeartbeats 4000000
/-! the middle lies between -/
namespace Cw
section
variable {f : Nat → List Nat} {ls : List Nat} {s : Nat}
def Btw (f : Nat → List Nat) (a b M : List Nat) : Prop := (wayC f a M).length + (wayC f M b).length = (wayC f a b).length
/-- the middle, between the first room and the others -/
structure MidX (f : Nat → List Nat) (ls a b c M : List Nat) : Prop extends Mid f ls a b c M where
  ab : Btw f a b M
  ac : Btw f a c M
end
end Cw
set_option Elab.async false
set_option linter.all false
set_option maxRecDepth 100000
set_option maxHeartbeats 4000000
/-! ''.join(d): the keys of a dict, one behind another -/
namespace PySem
open Builtin Builtin.Str
theorem keyit_len : typeLookup (.type "dict_keyiterator") "__len__" = pure none := by rw [typeLookup_type, builtinLookup_eq_fast]; kernel_rfl
section
variable {prog : Program} {w : World} {A : Around} {E : Value → Shared → Prop} {s : Shared} {J : Addr} {fp wr : List Addr} {G : Array GenState → Array GenState → Prop} {m : Nat} {P : Nat → Value → Prop} {Z : Nat → Shared → Prop}
theorem collect_keyit {Q : List Value → Shared → Prop} (W : WalksS prog w A.in1 J fp wr G m P Z) (ty : ∀ i s, Z i s → s.TypeIs (.ref J) "dict_keyiterator") (z0 : Z 0 s) (lt : ∀ b ∈ fp, b < s.heap.objs.size) (mem : J ∈ fp) (sz : m ≤ sizeLine)
    (hQ : ∀ s' acc, Moved wr G s s' → ItemsOf P acc m → Q acc.toList s') : wpAny (model prog w) A (collect (.ref J)) Q E s := by
  have out : s.heap.objs.size ∉ fp := fun z => absurd (lt _ z) (Nat.lt_irrefl _)
  have ne : s.heap.objs.size ≠ J := fun z => out (z.symm ▸ mem)
  let L : Obj := { cls := .type "list", data := .seq ([] : List Value).toArray }
  have z1 := W.frame 0 s (s.heap.push L) s.toks z0 (Nat.le_refl _) fun _ _ _ e => Heap.get?_push_of_some _ e
  have at1 : (s.heap.push L).get? s.heap.objs.size = some L := Heap.get?_push_size _ rfl
  have t1 := ty 0 _ z1
  have d1 : Builtin.List.listSameRef (.ref s.heap.objs.size) (.ref J) = false := by simp [Builtin.List.listSameRef, ne]
  unfold collect
  apply wpAny_bind
  apply wpAny_runValue
  apply codeAny_builtin F.entry_proto_collect
  rw [show A.under (.builtin "proto.collect" ⟨[.ref J], []⟩) = A.in1 from Around.under_plainId F.plain_proto_collect _]
  show wpAny (model prog w) A.in1 (newList [] >>= fun l => again (.builtin "list.__iadd__" ⟨[l, Value.ref J], []⟩)) _ _ s
  refine wpAny_bind (wpAny_newObj_type (wpAny_pure ⟨plainId_quiet F.plain_list_iadd _, (?_ : codeAny _ _ _ _ _)⟩))
  apply codeAny_builtin F.entry_list_iadd
  rw [show A.under (.builtin "list.__iadd__" ⟨[.ref s.heap.objs.size, .ref J], []⟩) = A.in1 from Around.under_plainId F.plain_list_iadd _]
  show wpAny (model prog w) A.in1 (Builtin.List.listExtendWith (.ref s.heap.objs.size) (.ref J) (.ref s.heap.objs.size)) _ _ { s with heap := s.heap.push L }
  unfold Builtin.List.listExtendWith
  apply wpAny_bind
  refine wpAny_typeOf t1 ?_
  rw [if_neg (show ¬ _ by rw [d1]; decide)]
  apply wpAny_bind
  refine W.self 0 _ _ _ z1 ?_
  apply wpAny_bind
  apply wpAny_holding
  unfold Builtin.List.listLengthHint
  apply wpAny_bind
  refine wpAny_specialOf t1 keyit_len ?_
  show wpAny (model prog w) A.in1 (specialOf (Value.ref J) (Str.ofString "__length_hint__") >>= fun _ => _) _ _ _
  apply wpAny_bind
  refine wpAny_specialOf t1 F.slot_dict_keyiterator_length_hint.lookup ?_
  generalize hj : ("dict_keyiterator.__length_hint__" : String) = jd
  wp_delta
  rw [show splitId jd = some ("dict_keyiterator", "__length_hint__") by subst hj; decide +kernel]
  subst hj
  apply wpAny_bind
  refine wpAny_isInstance (b := true) t1 (by rw [isSubtype_type]; kernel_rfl) ?_
  apply wpAny_pure
  rw [if_neg (by decide)]
  apply wpAny_pure
  refine ⟨plainId_quiet F.plain_extend_loop _, codeAny_extend_loopS W sz _ out _ m 0 _ _ _ rfl (Nat.zero_le _) z1 at1 (ItemsOf.nil P) fun s2 acc c mv at2 items => ?_⟩
  apply wpAny_bind
  refine wpAny_load at2 ?_
  apply wpAny_pure
  exact hQ s2 acc (Moved.drop_new (o := L) (tk := s.toks) mv (Nat.le_refl _)) items
end
section
variable {prog : Program} {w : World} {A : Around} {E : Value → Shared → Prop} {s : Shared} {sep : Str} {t : Tok} {Q : Value → Shared → Prop}
theorem join_keys {K : Type} [DecidableEq K] {knd : KeyKind prog w K} {d : Addr} {kvs : List (K × Value)} {ep : Nat} (nf : A.handled = none) (lo : (d == sysModules) = false) (hm : s.heap.DictAt knd d kvs ep) (sz : kvs.length ≤ sizeLine)
    (str : ∀ (i : Nat) (k : K) (x v : Value), kvs[i]? = some (k, x) → knd.is k v = true → ∃ y u, v = Value.str y u)
    (hq : ∀ h' (l : List (Str × Tok)), (∀ b o, s.heap.get? b = some o → h'.get? b = some o) → ItemsOf (fun (i : Nat) v => ∃ k x, kvs[i]? = some (k, x) ∧ knd.is k v = true) (strValues l).toArray kvs.length → JoinOk sep (l.map (·.1)) = true ∧ ∀ t' k, Q (.str (Txt.join sep (l.map (·.1))) t') { s with heap := h', toks := k }) :
    wpAny (model prog w) A (call (.builtin "str.join") [.str sep t, .ref d]) Q E s := by
  apply wpAny_call
  refine codeAny_call_builtin F.slot_str_join.plain F.entry_str_join (F.slot_str_join.check _ _ _ _ _ _ _ _ (typeIs_str _ _ _) (F.args_str_join_2 _ _) ?_)
  rw [join_tree_other]
  apply wpAny_bind
  refine wpAny_typeOf hm.dictOf.typeIs ?_
  show wpAny (model prog w) A.in1 ((pyIter (.ref d)).tryCatch _ >>= fun it => collect it >>= fun xs => joinTail sep xs) _ _ s
  apply wpAny_bind
  apply wpAny_tryCatch
  refine wpAny_pyIter_dict lo hm ?_
  have ne : d ≠ s.heap.objs.size := Nat.ne_of_lt hm.lt_size
  have W := (Walks.dictKeys (knd := knd) (A := A.in1.in1) nf s.heap.objs.size d ne kvs ep).toS
  apply wpAny_bind
  refine collect_keyit W (fun _ _ st => st.1.typeIs) ⟨⟨_, Heap.get?_push_size _ rfl, rfl, rfl⟩, hm.push _⟩ (fun b hb => ?_) (by simp) sz fun s2 acc mv items => ?_
  · rcases List.mem_cons.mp hb with rfl | hb
    · exact Heap.lt_size (Heap.get?_push_size _ rfl)
    · rw [List.mem_singleton.mp hb]
      exact (hm.push _).lt_size
  obtain ⟨l, hl⟩ := exists_strValues acc.toList fun v hv => by
    obtain ⟨j, hj, rfl⟩ := Array.mem_iff_getElem.mp (Array.mem_toList_iff.mp hv)
    obtain ⟨k, x, e1, e2⟩ := items.2 j _ (Array.getElem?_eq_getElem hj)
    exact str j k x _ e1 e2
  have items : ItemsOf (fun (i : Nat) v => ∃ k x, kvs[i]? = some (k, x) ∧ knd.is k v = true) (strValues l).toArray kvs.length := by
    rw [hl]
    simpa using items
  rw [← hl]
  have same : ∀ k, ({ s2 with toks := k } : Shared) = { s with heap := s2.heap, toks := k } := by
    intro k
    obtain ⟨g1, g2, g3⟩ : s2.gens = s.gens ∧ s2.drawn = s.drawn ∧ s2.os = s.os := ⟨mv.gens, mv.drawn, mv.os⟩
    obtain ⟨hp, g, d, tk, os⟩ := s2
    obtain ⟨hp0, g0, d0, tk0, os0⟩ := s
    simp only at g1 g2 g3
    subst g1; subst g2; subst g3
    rfl
  obtain ⟨jk, post⟩ := hq s2.heap l (fun b o e => mv.heap b o (fun z => absurd (Heap.lt_size e) (by rw [List.mem_singleton.mp z]; exact Nat.lt_irrefl _)) (Heap.get?_push_of_some _ e)) items
  have jk' := jk
  unfold JoinOk at jk'
  rw [Bool.not_eq_true'] at jk'
  have g1 : Gives (joinTail sep (strValues l)) (joinMade sep l) := by
    clear post items hl
    have z := gives_joinTail sep l jk'
    rcases l with _ | ⟨a, _ | ⟨b, r⟩⟩
    · exact z
    · exact z
    · exact z
  exact g1 prog w A (wants Q E) s2 (post_join l ⟨joinFit_length jk', fun t' k => by rw [same k]; exact post t' k⟩)
end
end PySem

namespace Cw
open PySem PySem.Spec L2 PyProof.Rows
section
variable {X : Cx} {K : PySem.W.Frag}
/-- the letters that are the keys of a dict -/
def rJoinD : V → List V → Hp → VK → Prop := fun x xs H Q => ∃ (p : Addr) (ls : List Nat) (g : Nat → V), x = .str (tx []) ∧ xs = [.ref p] ∧ H p = some (.dK (ls.map fun c => ((Sum.inr (tx [c]) : Key), g c))) ∧ ls.length ≤ 1000 ∧ Q (.str (tx ls)) H
theorem mt_joinD (hc : X.calm = true) : MtR X "str.join" rJoinD := by
  intro pins s σ H x xs v us Q I rx rs h
  obtain ⟨p, ls, g, rfl, rfl, hp, hl, h⟩ := h
  obtain ⟨t, rfl⟩ := rx
  cases rs with
  | cons r1 rs =>
    cases rs
    cases r1
    obtain ⟨z, lo, vs, rk, hd⟩ := (show ObjOk X.prog X.w H s.heap p (.dK _) from I.hok p _ hp)
    obtain ⟨ep, hat⟩ := hd.dictAt
    have len : vs.length = ls.length := by
      have := Paired.length rk
      rw [List.length_map] at this
      exact this.symm
    have key : ∀ (i : Nat) (k : Key) (y : Value), vs[i]? = some (k, y) → ∃ c, ls[i]? = some c ∧ k = Sum.inr (tx [c]) := by
      intro i k y e
      have e1 := KV.keys rk
      have e2 : (vs.map (·.1))[i]? = some k := by rw [List.getElem?_map, e]; rfl
      rw [← e1, List.map_map, List.getElem?_map] at e2
      cases hc : ls[i]? with
      | none => rw [hc] at e2; cases e2
      | some c =>
        rw [hc] at e2
        injection e2 with e2
        exact ⟨c, rfl, e2.symm⟩
    refine join_keys (knd := mixKind X.prog X.w) (I.ok.hd hc) lo hat (by rw [len]; exact szl (by omega)) (fun i k y u e1 e2 => ?_) (fun h' l hk items => ?_)
    · obtain ⟨c, _, rfl⟩ := key i k y e1
      have e2 : keyIs (Sum.inr (tx [c])) u = true := e2
      rcases keyIs_shape e2 with ⟨j, t, e, _⟩ | ⟨x, t, _, e⟩
      · cases e
      · exact ⟨x, t, e⟩
    · have l1 : l.length = ls.length := by
        have := items.1
        rw [len] at this
        simpa [strValues] using this
      have e : l.map (·.1) = (ls.map fun c => [c]).map tx := by
        apply List.ext_getElem?
        intro j
        rw [List.map_map, List.getElem?_map, List.getElem?_map]
        cases hj : l[j]? with
        | none =>
          have := List.getElem?_eq_none_iff.mp hj
          rw [List.getElem?_eq_none (by omega)]
          rfl
        | some q =>
          obtain ⟨k, y, e1, e2⟩ := items.2 j (.str q.1 q.2) (by simp [strValues, hj])
          obtain ⟨c, hc, rfl⟩ := key j k y e1
          rw [hc]
          have e2 : keyIs (Sum.inr (tx [c])) (.str q.1 q.2) = true := e2
          rcases keyIs_shape e2 with ⟨_, _, e, _⟩ | ⟨x, t, ex, e⟩
          · cases e
          · injection ex with ex
            injection e with e _
            show some q.1 = some (tx [c])
            rw [e, ← ex]
      have fl : (ls.map fun c => [c]).flatten = ls := by
        clear e l1 items key len hd lo z hp h hl rk
        induction ls with
        | nil => rfl
        | cons c r ih => rw [List.map_cons, List.flatten_cons, ih]; rfl
      rw [e, join_empty, fl]
      refine ⟨?_, fun t' k => ⟨.str (tx ls), H, I.kept hk, ⟨t', rfl⟩, h⟩⟩
      refine joinOk_of ?_
      rw [List.map_map, List.map_map]
      have s1 : (ls.map (Str.length ∘ tx ∘ fun c => [c])).sum = ls.length := by
        clear e l1 items key len hd lo z hp h hl rk fl
        induction ls with
        | nil => rfl
        | cons c r ih =>
          rw [List.map_cons, List.sum_cons, ih, List.length_cons]
          show (tx [c]).length + r.length = _
          rw [tx_len, List.length_singleton]
          omega
      have s2 : (tx []).length = 0 := by rw [tx_len]; rfl
      rw [s2, Nat.mul_zero, Nat.add_zero]
      exact Nat.le_trans (Nat.le_of_eq s1) (by omega)
theorem pe_joinD {o e : Expr} {to te : TE} {apos pos : PySem.Pos} (hc : X.calm = true) (ho : PE X o to) (he : PE X e te) (hs : starEach [e] X.env = [(false, eval e X.env)] := by rfl) (hbase : attributeBase o "join" X.env (eval o X.env) = eval o X.env := by rfl) (hline : (apos.endLine == pos.line) = true := by rfl) :
    PE X (.Call (.Attribute o "join" apos) [e] [] pos) (tM1 rJoinD to te) := pe_m1 PySem.F.slot_str_join PySem.F.type_str_join (mt_joinD hc) ho he hs hbase hline
theorem v_joinD {H : Hp} {Q : VK} {p : Addr} {ls : List Nat} {g : Nat → V} (h : H p = some (.dK (ls.map fun c => ((Sum.inr (tx [c]) : Key), g c)))) (l : ls.length ≤ 1000) (q : Q (.str (tx ls)) H) : rJoinD (.str (tx [])) [.ref p] H Q := ⟨p, ls, g, rfl, rfl, h, l, q⟩
end
/-- [e for x in ..]: e makes new objects; Rel tells of each item what it is -/
theorem lc_mapA {σ : L2.St} {H : Hp} {i : Nat} {tt : TT} {te : TE} {P : Addr → Hp → Prop} {J : It} {n : Nat} {G : Hp → Prop} {it : Nat → V} (Rel : Nat → V → Hp → Prop) (w : Walk J n G (fun k H x H' => H' = H ∧ x = it k)) (hG : ∀ H', Same H H' → G H') (hn : n ≤ 1000000)
    (m1 : ∀ k v H1 H2, Rel k v H1 → Same H1 H2 → Rel k v H2) (m2 : ∀ k v H1 H2 D l, Rel k v H1 → H1 D = some (.lst l) → Keep D H1 H2 → Rel k v H2)
    (ht : ∀ k, k < n → ∀ H1, Same H H1 → ∀ R : Bool → Hp → Prop, (∀ H2, Same H1 H2 → R true H2) → tt ((wipe σ [i]).set i (some (it k))) H1 R)
    (he : ∀ k, k < n → ∀ H1, Same H H1 → ∀ R : VK, (∀ v H2, Same H1 H2 → Rel k v H2 → R v H2) → te ((wipe σ [i]).set i (some (it k))) H1 R)
    (q : ∀ D H' vs, H D = none → Same H H' → H' D = some (.lst vs) → vs.length = n → (∀ k v, vs[k]? = some v → Rel k v H') → P D H') :
    ∀ D, H D = none → ∃ W : Nat → Nat → Hp → Prop, (∃ m, W 0 m (upd H D (.lst []))) ∧ ∀ k m H, W k m H →
      (J.stop k H ∧ P D H) ∨ (J.go k H ∧ ∃ Nx : Hp → Prop, (∀ H', Nx H' → ∃ m', m' < m ∧ W (k + 1) m' H') ∧ ∀ x H', J.yld k H x H' → (gName i) x (wipe σ [i]) H' fun s2 H2 => wipe s2 [i] = wipe σ [i] ∧ tt s2 H2 fun c H3 =>
        if c = true then te s2 H3 fun y H4 => ∃ acc, H4 D = some (.lst acc) ∧ acc.length < sizeLine ∧ Nx (upd H4 D (.lst (acc ++ [y]))) else Nx H3) := by
  intro D hD
  refine lc_it w (vs := [i]) (σ := σ) (g := gName i) (tt := tt) (te := te) (Qd := fun H' => P D H') (fun k H' => Same H H' ∧ ∃ vs, H' D = some (.lst vs) ∧ vs.length = k ∧ ∀ j v, vs[j]? = some v → Rel j v H')
    ⟨Same.new hD, [], upd_same, rfl, fun j v z => by simp at z⟩ (fun k H' _ p => hG H' p.1) (fun k x H1 H2 hk p y => ?_) (fun H' p => ?_)
  · obtain ⟨p1, vs, p2, p3, p4⟩ := p
    obtain ⟨rfl, rfl⟩ := y
    refine ⟨wipe1, ht k hk _ p1 _ fun H3 s3 => ?_⟩
    rw [if_pos rfl]
    refine he k hk _ (p1.trans s3) _ fun v H4 s4 r4 => ?_
    have e4 := s4 _ _ (s3 _ _ p2)
    refine ⟨vs, e4, szlt (by omega), fun a o ha => ?_, vs ++ [v], upd_same, by rw [List.length_append, p3]; rfl, fun j u hj => ?_⟩
    · rw [upd_ne (ne_of_none ha hD)]
      exact s4 _ _ (s3 _ _ (p1 _ _ ha))
    · by_cases c : j < vs.length
      · rw [List.getElem?_append_left c] at hj
        exact m2 _ _ _ _ D vs (m1 _ _ _ _ (p4 j u hj) (s3.trans s4)) e4 Keep.put
      · have e : j = vs.length := by
          have := (List.getElem?_eq_some_iff.mp hj).1
          rw [List.length_append, List.length_singleton] at this
          omega
        rw [e, List.getElem?_append_right (Nat.le_refl _), Nat.sub_self] at hj
        injection hj with hj
        rw [e, ← hj, p3]
        exact m2 _ _ _ _ D vs r4 e4 Keep.put
  · obtain ⟨p1, vs, p2, p3, p4⟩ := p
    exact q D H' vs hD p1 p2 p3 p4
section
variable {σ : L2.St} {H : Hp} {Q : VK} {te ta : TE} {D : Ends} {K : PySem.W.Frag} {n : Nat} {t : TGs}
theorem s_asgL (q : te σ H fun v H1 => gLst K n t v σ H1 fun σ2 H2 => D.nx σ2 H2) : tAsg te (gLst K n t) D σ H := q
theorem e_MN {C : Addr} {m : Str} {sp : Sp} {n l : Nat} {ss : List Src} {dvs : List V} {E : XK} {t tk : TA} (q : ta σ H fun x H1 => ∃ a dx fs, x = .ref a ∧ H1 a = some (.ins C dx fs) ∧ fs.lookup m = none ∧ t σ H1 fun vs H2 => tk σ H2 fun zs H3 => vs.length = n ∧ zs.length = l ∧ sp (x :: gS ss vs dvs zs) H3 Q E) : tMN C m sp n l ss dvs E ta t tk σ H Q := q
end
end Cw
set_option Elab.async false
set_option linter.all false
set_option maxRecDepth 100000
set_option maxHeartbeats 4000000
/-! the product of two marks: how two walls lie -/
namespace Cw
section
variable {f : Nat → List Nat} {ls : List Nat} {s t c : Nat}
/-! ### the kind of a wall by its mark -/
theorem act_par (f : Nat → List Nat) (g : Nat → Int) : ∀ (w : List Nat) (s : Nat), ∃ k : Int, act f w g s = g s + 2 * k
  | [], s => ⟨0, by show g s = _; omega⟩
  | d :: r, s => by
    obtain ⟨k, h⟩ := act_par f g r s
    obtain ⟨j, h'⟩ := act_par f g r d
    show ∃ k : Int, thr f d (act f r g) s = _
    unfold thr
    split
    · rename_i e
      refine ⟨- g d - j, ?_⟩
      rw [h', e]
      omega
    · split
      · exact ⟨k, h⟩
      · refine ⟨k + (g d + 2 * j), ?_⟩
        rw [h, h']
        omega
theorem root_kind {v w : List Nat} (hs : s ∈ ls) (h : ∀ x ∈ ls, act f v (unit x) s = act f w (unit x) t) : s = t := by
  have h := h s hs
  obtain ⟨k, e1⟩ := act_par f (unit s) v s
  obtain ⟨j, e2⟩ := act_par f (unit s) w t
  rw [e1, e2] at h
  unfold unit at h
  rw [if_pos rfl] at h
  by_cases e : t = s
  · exact e.symm
  · rw [if_neg e] at h
    omega
/-! ### the product -/
def bt (f : Nat → List Nat) (t : Nat) : Nat → Int := fun e => if e = t then 1 else if e ∈ f t then 0 else -1
theorem bt_self : bt f t t = 1 := if_pos rfl
theorem bt_in (ok : CrOk f) (h : s ∈ f t) : bt f t s = 0 := by
  unfold bt
  rw [if_neg fun z : s = t => ok.irr t (z ▸ h), if_pos h]
theorem bt_out (h : s ≠ t) (h2 : ¬ s ∈ f t) : bt f t s = -1 := by
  unfold bt
  rw [if_neg h, if_neg h2]
theorem col_eq (ok : CrOk f) (x : Nat) : thr f c (unit c) x = unit c x - 2 * bt f x c := by
  have u1 : unit c c = 1 := if_pos rfl
  unfold thr
  by_cases e : x = c
  · rw [if_pos e, e, u1, bt_self]
    rfl
  · have u2 : unit c x = 0 := if_neg e
    rw [if_neg e, u1, u2]
    by_cases h : x ∈ f c
    · rw [if_pos h, bt_in ok (ok.sym _ _ h)]
      rfl
    · rw [if_neg h, bt_out (fun z => e z.symm) fun z => h (ok.sym _ _ z)]
      rfl
theorem psi_act (hn : ls.Nodup) (ok : CrOk f) (ht : t ∈ ls) : ∀ {n : List Nat} {e : Nat}, (∀ y ∈ n, y ∈ ls) → e ∈ ls → sumL ls (fun y => mark f n.reverse t y * bt f y e) = act f n (bt f t) e
  | [], e, _, he => by
    have h := sumL_unit (g := fun y => bt f y e) hn ht
    rw [← show bt f t e = act f [] (bt f t) e from rfl, ← h]
    exact sumL_congr fun y _ => by
      show unit y t * bt f y e = bt f y e * unit y t
      rw [Int.mul_comm]
  | c :: n, e, hw, he => by
    have hc := hw c (List.mem_cons_self ..)
    have hn' : ∀ y ∈ n, y ∈ ls := fun y hy => hw y (List.mem_cons_of_mem _ hy)
    have hnr : ∀ y ∈ n.reverse, y ∈ ls := fun y hy => hn' y (List.mem_reverse.mp hy)
    have ie := psi_act hn ok ht hn' he
    have ic := psi_act hn ok ht hn' hc
    have key : ∀ y ∈ ls, mark f (c :: n).reverse t y = 1 * mark f n.reverse t y + (-2 * act f n (bt f t) c) * unit y c := by
      intro y hy
      have e1 : mark f (c :: n).reverse t y = act f n.reverse (thr f c (unit y)) t := by
        unfold mark
        rw [List.reverse_cons, act_app]
        rfl
      by_cases hyc : y = c
      · subst hyc
        rw [e1, act_lin hn ok _ hnr ht, show unit y y = 1 from if_pos rfl, ← ic]
        have e2 : sumL ls (fun x => thr f y (unit y) x * mark f n.reverse t x) = sumL ls fun x => 1 * (mark f n.reverse t x * unit x y) + (-2) * (mark f n.reverse t x * bt f x y) := sumL_congr fun x _ => by
          have u : unit y x = unit x y := by
            unfold unit
            by_cases q : x = y
            · rw [if_pos q, if_pos q.symm]
            · rw [if_neg q, if_neg fun z => q z.symm]
          rw [col_eq ok, u, Int.sub_mul, Int.mul_comm (unit x y), Int.mul_assoc, Int.mul_comm (bt f x y)]
          omega
        rw [e2, sumL_comb, sumL_unit (g := fun x => mark f n.reverse t x) hn hc]
        omega
      · rw [e1, show thr f c (unit y) = unit y from funext fun e => unit_thr hyc, show unit y c = 0 from if_neg fun z => hyc z.symm]
        show mark f n.reverse t y = _
        omega
    have e3 : sumL ls (fun y => mark f (c :: n).reverse t y * bt f y e) = sumL ls fun y => 1 * (mark f n.reverse t y * bt f y e) + (-2 * act f n (bt f t) c) * (bt f y e * unit y c) := sumL_congr fun y hy => by
      rw [key y hy, Int.add_mul, Int.mul_assoc, Int.mul_assoc, Int.mul_comm (unit y c)]
    rw [e3, sumL_comb, ie, sumL_unit (g := fun y => bt f y e) hn hc]
    show _ = thr f c (act f n (bt f t)) e
    by_cases h1 : e = c
    · rw [h1, thr_self, bt_self]
      omega
    · by_cases h2 : e ∈ f c
      · rw [thr_cr ok h2, bt_in ok h2]
        omega
      · rw [thr_not h1 h2, bt_out h1 h2]
        omega
/-- the first letter's coordinate -/
theorem mark_head (hn : ls.Nodup) (ok : CrOk f) (ht : t ∈ ls) {n : List Nat} (hn' : ∀ y ∈ n, y ∈ ls) (hc : c ∈ ls) : mark f (c :: n).reverse t c = mark f n.reverse t c - 2 * act f n (bt f t) c := by
  have hnr : ∀ y ∈ n.reverse, y ∈ ls := fun y hy => hn' y (List.mem_reverse.mp hy)
  have e1 : mark f (c :: n).reverse t c = act f n.reverse (thr f c (unit c)) t := by
    unfold mark
    rw [List.reverse_cons, act_app]
    rfl
  rw [e1, act_lin hn ok _ hnr ht, ← psi_act hn ok ht hn' hc]
  have e2 : sumL ls (fun x => thr f c (unit c) x * mark f n.reverse t x) = sumL ls fun x => 1 * (mark f n.reverse t x * unit x c) + (-2) * (mark f n.reverse t x * bt f x c) := sumL_congr fun x _ => by
    have u : unit c x = unit x c := by
      unfold unit
      by_cases q : x = c
      · rw [if_pos q, if_pos q.symm]
      · rw [if_neg q, if_neg fun z => q z.symm]
    rw [col_eq ok, u, Int.sub_mul, Int.mul_comm (unit x c), Int.mul_assoc, Int.mul_comm (bt f x c)]
    omega
  rw [e2, sumL_comb, sumL_unit (g := fun x => mark f n.reverse t x) hn hc]
  omega
def prodV (f : Nat → List Nat) (ls : List Nat) (a b : Nat → Int) : Int := sumL ls fun x => a x * sumL ls fun y => b y * bt f y x
theorem prod_act (hn : ls.Nodup) (ok : CrOk f) {m n : List Nat} (hm : ∀ y ∈ m, y ∈ ls) (hn' : ∀ y ∈ n, y ∈ ls) (hs : s ∈ ls) (ht : t ∈ ls) : prodV f ls (mark f m.reverse s) (mark f n.reverse t) = act f (m.reverse ++ n) (bt f t) s := by
  unfold prodV
  rw [act_app, act_lin hn ok _ (fun y hy => hm y (List.mem_reverse.mp hy)) hs]
  exact sumL_congr fun x hx => by rw [psi_act hn ok ht hn' hx, Int.mul_comm]
/-! ### its sign -/
/-- no door of the kind t, or of one that crosses it, leads back -/
structure Strt (f : Nat → List Nat) (t : Nat) (v : List Nat) : Prop where
  red : Red f v
  td : ¬ desc f t v.reverse
  fr : ∀ y ∈ f t, ¬ desc f y v.reverse
theorem Strt.tail {v : List Nat} (h : Strt f t (c :: v)) : Strt f t v where
  red := h.red.2
  td := fun z => h.td (by rw [List.reverse_cons]; exact desc_left z)
  fr := fun y hy z => h.fr y hy (by rw [List.reverse_cons]; exact desc_left z)
theorem desc_mem {s : Nat} : ∀ {w : List Nat}, desc f s w → s ∈ w
  | [], h => h.elim
  | y :: w, h => by
    rcases h with h | ⟨_, h⟩
    · exact h ▸ List.mem_cons_self ..
    · exact List.mem_cons_of_mem _ (desc_mem h)
theorem desc_thru (ok : CrOk f) {y : Nat} {pr : List Nat} (hp : ∀ z ∈ pr, z ∈ f s) : ∀ {qr : List Nat}, desc f y (qr ++ pr) → desc f y (qr ++ s :: pr)
  | [], h => .inr ⟨ok.sym _ _ (hp y (desc_mem h)), h⟩
  | z :: qr, h => by
    rcases h with h | ⟨h1, h2⟩
    · exact .inl h
    · exact .inr ⟨h1, desc_thru ok hp h2⟩
theorem Strt.out (ok : CrOk f) {p q : List Nat} (hp : ∀ y ∈ p, y ∈ f s) (h : Strt f t (p ++ s :: q)) : Strt f t (p ++ q) := by
  have key : ∀ y, desc f y (p ++ q).reverse → desc f y (p ++ s :: q).reverse := by
    intro y z
    rw [List.reverse_append] at z
    have e : (p ++ s :: q).reverse = q.reverse ++ s :: p.reverse := by simp
    rw [e]
    exact desc_thru ok (fun w hw => hp w (List.mem_reverse.mp hw)) z
  exact ⟨Red_out ok hp h.red, fun z => h.td (key _ z), fun y hy z => h.fr y hy (key y z)⟩
theorem neg_start (ok : CrOk f) {p q : List Nat} (st : Strt f t (p ++ s :: q)) (hp : ∀ y ∈ p, y ∈ f s) (i1 : ¬ (p ++ q = [] ∧ s = t) → act f (p ++ q) (bt f t) s ≤ 0 ∧ (act f (p ++ q) (bt f t) s = 0 → (∀ y ∈ p ++ q, y ∈ f s) ∧ t ∈ f s)) : act f (p ++ q) (bt f t) s ≤ -1 := by
  have er : (p ++ s :: q).reverse = q.reverse ++ s :: p.reverse := by simp
  have ex : ¬ (p ++ q = [] ∧ s = t) := by
    rintro ⟨e1, rfl⟩
    obtain ⟨rfl, rfl⟩ := List.append_eq_nil_iff.mp e1
    exact st.td (.inl rfl)
  obtain ⟨a1, a2⟩ := i1 ex
  by_cases z : act f (p ++ q) (bt f t) s = 0
  · obtain ⟨b1, b2⟩ := a2 z
    refine absurd ?_ (st.fr s (ok.sym _ _ b2))
    rw [er]
    exact desc_of fun y hy => b1 y (List.mem_append_right _ (List.mem_reverse.mp hy))
  · omega
theorem bsign (ok : CrOk f) (ht : t ∈ ls) : ∀ (n : Nat) (v : List Nat), v.length = n → Strt f t v → (∀ y ∈ v, y ∈ ls) →
    (∀ s ∈ ls, ¬ desc f s v → ¬ (v = [] ∧ s = t) → act f v (bt f t) s ≤ 0 ∧ (act f v (bt f t) s = 0 → (∀ y ∈ v, y ∈ f s) ∧ t ∈ f s)) ∧
    (∀ s ∈ ls, ∀ c ∈ ls, s ≠ c → ¬ s ∈ f c → desc f s v → ¬ desc f c v → ∀ a b : Int, 0 ≤ a → a < b → a * act f v (bt f t) s + b * act f v (bt f t) c < 0) := by
  intro n
  induction n using Nat.strongRecOn with
  | ind n ih =>
    intro v hv st hm
    refine ⟨fun s hs hd he => ?_, fun s hs c hc ne nc hd hd2 a b ha hab => ?_⟩
    · cases v with
      | nil =>
        have hst : s ≠ t := fun z => he ⟨rfl, z⟩
        show bt f t s ≤ 0 ∧ (bt f t s = 0 → _)
        by_cases c : s ∈ f t
        · rw [bt_in ok c]
          exact ⟨by omega, fun _ => ⟨fun _ z => (nomatch z), ok.sym _ _ c⟩⟩
        · rw [bt_out hst c]
          exact ⟨by omega, fun z => by omega⟩
      | cons c v =>
        have hl : v.length < n := by rw [← hv]; simp
        have hc : c ∈ ls := hm c (List.mem_cons_self ..)
        have ne : s ≠ c := fun z => hd (.inl z.symm)
        have rc : ¬ desc f c v := st.red.1
        obtain ⟨i1, i2⟩ := ih v.length hl v rfl st.tail fun y hy => hm y (List.mem_cons_of_mem _ hy)
        by_cases hsc : s ∈ f c
        · have e : act f (c :: v) (bt f t) s = act f v (bt f t) s := thr_cr ok hsc
          rw [e]
          have hcs := ok.sym _ _ hsc
          have ex : ¬ (v = [] ∧ s = t) := by
            rintro ⟨rfl, rfl⟩
            exact st.fr c hcs (.inl rfl)
          obtain ⟨a1, a2⟩ := i1 s hs (fun z => hd (.inr ⟨hcs, z⟩)) ex
          refine ⟨a1, fun z => ⟨fun y hy => ?_, (a2 z).2⟩⟩
          rcases List.mem_cons.mp hy with rfl | hy
          · exact hcs
          · exact (a2 z).1 y hy
        · have e : act f (c :: v) (bt f t) s = act f v (bt f t) s + 2 * act f v (bt f t) c := thr_not ne hsc
          rw [e]
          have pc : act f v (bt f t) c ≤ -1 := by
            have ex : ¬ (v = [] ∧ c = t) := by
              rintro ⟨rfl, rfl⟩
              exact st.td (.inl rfl)
            obtain ⟨a1, a2⟩ := i1 c hc rc ex
            by_cases z : act f v (bt f t) c = 0
            · obtain ⟨b1, b2⟩ := a2 z
              refine absurd ?_ (st.fr c (ok.sym _ _ b2))
              rw [List.reverse_cons]
              exact desc_of fun y hy => b1 y (List.mem_reverse.mp hy)
            · omega
          by_cases ds : desc f s v
          · have := i2 s hs c hc ne hsc ds rc 1 2 (by decide) (by decide)
            exact ⟨by omega, fun z => by omega⟩
          · by_cases ex : v = [] ∧ s = t
            · have : act f v (bt f t) s = 1 := by
                rw [ex.1, ex.2]
                exact bt_self
              exact ⟨by omega, fun z => by omega⟩
            · have := (i1 s hs ds ex).1
              exact ⟨by omega, fun z => by omega⟩
    · obtain ⟨p, q, rfl, hp⟩ := desc_split hd
      have su := st.out ok hp
      have nds : ¬ desc f s (p ++ q) := by
        rw [desc_pass ok hp]
        exact (Red_right st.red).1
      have eu : ∀ g, act f (p ++ s :: q) g = thr f s (act f (p ++ q) g) := fun g => by
        rw [act_app, act_app]
        show act f p (thr f s (act f q g)) = _
        rw [act_comm ok hp]
      have hl : (p ++ q).length < n := by
        rw [← hv]
        simp only [List.length_append, List.length_cons]
        omega
      obtain ⟨i1, i2⟩ := ih (p ++ q).length hl (p ++ q) rfl su fun y hy => hm y ((List.mem_append.mp hy).elim (fun z => List.mem_append_left _ z) fun z => List.mem_append_right _ (List.mem_cons_of_mem _ z))
      have nc' : ¬ c ∈ f s := fun z => nc (ok.sym _ _ z)
      rw [eu, thr_self, thr_not ne.symm nc']
      have ps := neg_start ok st hp (i1 s hs nds)
      by_cases dc : desc f c (p ++ q)
      · have := i2 c hc s hs ne.symm nc' dc nds b (2 * b - a) (by omega) (by omega)
        rw [Int.sub_mul, Int.mul_assoc] at this
        rw [Int.mul_neg, Int.mul_add, ← Int.mul_assoc, Int.mul_comm b 2, Int.mul_assoc]
        omega
      · by_cases ex : p ++ q = [] ∧ c = t
        · have e1 : act f (p ++ q) (bt f t) c = 1 := by
            rw [ex.1, ex.2]
            exact bt_self
          have e2 : act f (p ++ q) (bt f t) s = -1 := by
            rw [ex.1]
            exact bt_out (ex.2 ▸ ne) (ex.2 ▸ nc)
          rw [e1, e2]
          omega
        · have h1 := (i1 c hc dc ex).1
          have h2 : b * act f (p ++ q) (bt f t) c ≤ 0 := Int.mul_nonpos_of_nonneg_of_nonpos (by omega) h1
          have h3 : (2 * b - a) * act f (p ++ q) (bt f t) s < 0 := Int.mul_neg_of_pos_of_neg (by omega) (by omega)
          rw [Int.sub_mul, Int.mul_assoc] at h3
          rw [Int.mul_neg, Int.mul_add, ← Int.mul_assoc, Int.mul_comm b 2, Int.mul_assoc]
          omega
/-- how the wall of the kind s at home lies to the wall (v, t) -/
theorem b_pos (ok : CrOk f) (ht : t ∈ ls) {v : List Nat} (st : Strt f t v) (hm : ∀ y ∈ v, y ∈ ls) (hs : s ∈ ls) (hd : desc f s v) : 0 < act f v (bt f t) s := by
  obtain ⟨p, q, rfl, hp⟩ := desc_split hd
  have su := st.out ok hp
  have nds : ¬ desc f s (p ++ q) := by
    rw [desc_pass ok hp]
    exact (Red_right st.red).1
  have eu : ∀ g, act f (p ++ s :: q) g = thr f s (act f (p ++ q) g) := fun g => by
    rw [act_app, act_app]
    show act f p (thr f s (act f q g)) = _
    rw [act_comm ok hp]
  have i1 := (bsign ok ht _ (p ++ q) rfl su fun y hy => hm y ((List.mem_append.mp hy).elim (fun z => List.mem_append_left _ z) fun z => List.mem_append_right _ (List.mem_cons_of_mem _ z))).1 s hs nds
  have := neg_start ok st hp i1
  rw [eu, thr_self]
  omega
theorem b_zero (ok : CrOk f) (ht : t ∈ ls) {v : List Nat} (st : Strt f t v) (hm : ∀ y ∈ v, y ∈ ls) (hs : s ∈ ls) (ex : ¬ (v = [] ∧ s = t)) : act f v (bt f t) s = 0 ↔ (∀ y ∈ v, y ∈ f s) ∧ t ∈ f s := by
  constructor
  · intro h
    by_cases hd : desc f s v
    · have := b_pos ok ht st hm hs hd
      omega
    · exact ((bsign ok ht _ v rfl st hm).1 s hs hd ex).2 h
  · rintro ⟨h1, h2⟩
    have := mark_along (f := f) (s := s) (g := bt f t) (v := []) ok h1
    rw [List.append_nil] at this
    rw [this]
    exact bt_in ok (ok.sym _ _ h2)
end
end Cw
set_option Elab.async false
set_option linter.all false
set_option maxRecDepth 100000
set_option maxHeartbeats 4000000
/-! how two walls lie, by the product of their marks -/
namespace Cw
section
variable {f : Nat → List Nat} {ls : List Nat} {s t c : Nat}
theorem near_split (ok : CrOk f) {u : List Nat} (hd : desc f t u.reverse) : (∀ g, act f u g = act f (nearC f u t ++ [t]) g) ∧ (nearC f u t).length + 1 = u.length := by
  unfold nearC
  rw [if_pos hd]
  refine ⟨fun g => ?_, (step_len_desc ok u t).1 hd⟩
  rw [act_app, act_step ok, act_app]
  show act f u g = act f u (thr f t (thr f t g))
  rw [thr_thr ok]
theorem near_same {u : List Nat} (hd : ¬ desc f t u.reverse) : nearC f u t = u := by
  unfold nearC
  rw [if_neg hd]
theorem start_split (ok : CrOk f) (u : List Nat) (t : Nat) : ∃ y, (∀ z ∈ y, z ∈ f t) ∧ (∀ z ∈ y, z ∈ nearC f u t) ∧ (∀ g, act f (nearC f u t) g = act f (startC f u t ++ y) g) ∧ (startC f u t).length + y.length = (nearC f u t).length := by
  refine ⟨(splitA f (f t) (nearC f u t).reverse).1.reverse, fun z hz => splitA_in f _ _ z (List.mem_reverse.mp hz), fun z hz => List.mem_reverse.mp (splitA_mem1 f _ _ z (List.mem_reverse.mp hz)), fun g => ?_, ?_⟩
  · have h := act_rev_eq ok (fun g => splitA_act ok g (nearC f u t).reverse (f t)) g
    rw [List.reverse_append, List.reverse_reverse] at h
    exact h.symm
  · have h := splitA_len f (nearC f u t).reverse (f t)
    unfold startC
    rw [List.length_reverse] at *
    rw [List.length_reverse]
    omega
theorem red_cat (ok : CrOk f) {u w : List Nat} (hu : NF f u) (e : ∀ g, act f u g = act f w g) (l : w.length = u.length) : Red f w := by
  refine red_of_len ok ?_
  have e1 : nameOf f w = nameOf f u := (name_eq ok e).symm
  have e2 : nameOf f u = u := (is_NF ok).mpr hu
  rw [e1, e2, l]
theorem desc_act (ok : CrOk f) {u w : List Nat} (ru : Red f u) (rw' : Red f w) (mu : ∀ y ∈ u, y ∈ ls) (mw : ∀ y ∈ w, y ∈ ls) (hs : s ∈ ls) (e : ∀ g, act f u g = act f w g) : desc f s u ↔ desc f s w := by
  rw [← ng_desc ok ru mu hs, ← ng_desc ok rw' mw hs]
  exact ng_act e s
theorem Strt.of (ok : CrOk f) {u : List Nat} (hu : NF f u) (t : Nat) : Strt f t (startC f u t) := ⟨(start_NF ok hu t).red, start_not ok hu t, start_free ok u t⟩
theorem st_mem {u : List Nat} (mu : ∀ y ∈ u, y ∈ ls) (ht : t ∈ ls) : ∀ y ∈ startC f u t, y ∈ ls := fun y hy => (start_mem hy).elim (fun z => z ▸ ht) (mu y)
theorem nr_mem {u : List Nat} (mu : ∀ y ∈ u, y ∈ ls) (ht : t ∈ ls) : ∀ y ∈ nearC f u t, y ∈ ls := fun y hy => (near_mem hy).elim (fun z => z ▸ ht) (mu y)
/-- what begins the way to the wall begins the way to each of its doors -/
theorem desc_start (ok : CrOk f) {u : List Nat} (hu : NF f u) (mu : ∀ y ∈ u, y ∈ ls) (hs : s ∈ ls) (ht : t ∈ ls) (h : desc f s (startC f u t)) : desc f s u := by
  obtain ⟨y, y1, y2, ey, ly⟩ := start_split ok u t
  have my : ∀ z ∈ startC f u t ++ y, z ∈ ls := fun z hz => (List.mem_append.mp hz).elim (st_mem mu ht z) fun w => nr_mem mu ht z (y2 z w)
  have nn := near_NF ok hu t
  have r1 : Red f (startC f u t ++ y) := red_cat ok nn ey (by rw [List.length_append, ly])
  have d1 : desc f s (nearC f u t) := (desc_act ok nn.red r1 (nr_mem mu ht) my hs ey).mpr (desc_left h)
  by_cases hd : desc f t u.reverse
  · obtain ⟨e2, l2⟩ := near_split ok hd
    have r2 : Red f (nearC f u t ++ [t]) := red_cat ok hu e2 (by rw [List.length_append, List.length_singleton, l2])
    exact (desc_act ok hu.red r2 mu (fun z hz => (List.mem_append.mp hz).elim (nr_mem mu ht z) fun w => by rw [List.mem_singleton.mp w]; exact ht) hs e2).mpr (desc_left d1)
  · rw [near_same hd] at d1
    exact d1
theorem act_zero (ok : CrOk f) {g : Nat → Int} {E : List Nat} (hg : ∀ e ∈ E, g e = 0) : ∀ {w : List Nat} {c : Nat}, (∀ y ∈ w, y ∈ E) → c ∈ E → act f w g c = 0
  | [], c, _, hc => hg c hc
  | d :: r, c, hw, hc => by
    have hr : ∀ y ∈ r, y ∈ E := fun y hy => hw y (List.mem_cons_of_mem _ hy)
    have h1 := act_zero ok hg hr hc
    have h2 := act_zero ok hg hr (hw d (List.mem_cons_self ..))
    show thr f d (act f r g) c = 0
    unfold thr
    rw [h1, h2]
    split
    · rfl
    · split <;> rfl
theorem b_eq (hn : ls.Nodup) (ok : CrOk f) {u : List Nat} (mu : ∀ y ∈ u, y ∈ ls) (hs : s ∈ ls) (ht : t ∈ ls) : act f u (bt f t) s = if desc f t u.reverse then - act f (startC f u t) (bt f t) s else act f (startC f u t) (bt f t) s := by
  rw [← psi_act hn ok ht mu hs, ← psi_act hn ok ht (st_mem mu ht) hs]
  have e : ∀ y, mark f (startC f u t).reverse t y = if desc f t u.reverse then - mark f u.reverse t y else mark f u.reverse t y := fun y => by
    unfold mark
    rw [start_mark ok, near_mark ok]
  by_cases hd : desc f t u.reverse
  · rw [if_pos hd]
    have e2 : sumL ls (fun y => mark f (startC f u t).reverse t y * bt f y s) = sumL ls fun y => (-1) * (mark f u.reverse t y * bt f y s) + 0 * 0 := sumL_congr fun y _ => by
      rw [e, if_pos hd, Int.neg_mul]
      omega
    rw [e2, sumL_comb (-1) 0 (fun y => mark f u.reverse t y * bt f y s) (fun _ => 0)]
    omega
  · rw [if_neg hd]
    exact sumL_congr fun y _ => by rw [e, if_neg hd]
/-! ### two walls -/
structure W2 (f : Nat → List Nat) (ls : List Nat) (m : List Nat) (s : Nat) (n : List Nat) (t : Nat) : Prop where
  nd : ls.Nodup
  ok : CrOk f
  hs : s ∈ ls
  ht : t ∈ ls
  m1 : NF f m
  n1 : NF f n
  mm : ∀ y ∈ m, y ∈ ls
  mn : ∀ y ∈ n, y ∈ ls
  sm : Strt f s m
  sn : Strt f t n
section
variable {m n : List Nat}
theorem W2.symm (h : W2 f ls m s n t) : W2 f ls n t m s := ⟨h.nd, h.ok, h.ht, h.hs, h.n1, h.m1, h.mn, h.mm, h.sn, h.sm⟩
theorem W2.same (h : W2 f ls m s n t) : (∀ x ∈ ls, mark f m.reverse s x = mark f n.reverse t x) ↔ s = t ∧ m = n := by
  constructor
  · intro e
    have ek : s = t := root_kind h.hs e
    subst ek
    exact ⟨rfl, wall_uniq h.nd h.ok h.hs h.m1 h.n1 h.mm h.mn h.sm.fr h.sn.fr e⟩
  · rintro ⟨rfl, rfl⟩ x _
    rfl
theorem W2.mu (h : W2 f ls m s n t) : ∀ y ∈ wayC f m n, y ∈ ls := fun y hy => by
  rcases List.mem_append.mp (name_mem hy) with z | z
  · exact h.mm y (List.mem_reverse.mp z)
  · exact h.mn y z
/-- the product of the marks -/
theorem W2.prod (h : W2 f ls m s n t) : prodV f ls (mark f m.reverse s) (mark f n.reverse t) = act f (wayC f m n) (bt f t) s := by
  rw [prod_act h.nd h.ok h.mm h.mn h.hs h.ht]
  unfold wayC
  rw [name_act h.ok]
theorem W2.npos (h : W2 f ls m s n t) : Pos ls (mark f n.reverse t) := mark_nn h.ok h.n1.red.rev (fun y hy => h.mn y (List.mem_reverse.mp hy)) h.ht h.sn.td
theorem W2.mpos (h : W2 f ls m s n t) : Pos ls (mark f m.reverse s) := h.symm.npos
theorem W2.goes (h : W2 f ls m s n t) (g : Nat → Int) : act f n.reverse g = act f (wayC f m n).reverse (act f m.reverse g) := by
  have e := way_goes h.ok m n
  have e1 : nameOf f n = n := (is_NF h.ok).mpr h.n1
  rw [e1] at e
  rw [← act_app, ← List.reverse_append, ← act_of_name h.ok (m ++ wayC f m n), e]
theorem W2.uNF (h : W2 f ls m s n t) : NF f (wayC f m n) := name_NF h.ok _
theorem W2.vmark (h : W2 f ls m s n t) (g : Nat → Int) : act f (startC f (wayC f m n) t).reverse g t = if desc f t (wayC f m n).reverse then - act f (wayC f m n).reverse g t else act f (wayC f m n).reverse g t := by rw [start_mark h.ok, near_mark h.ok]
theorem W2.exc (h : W2 f ls m s n t) (ns : ¬ (s = t ∧ m = n)) : ¬ (startC f (wayC f m n) t = [] ∧ s = t) := by
  rintro ⟨e1, rfl⟩
  apply ns
  refine (h.same).mp fun x hx => ?_
  have hv := h.vmark (act f m.reverse (unit x))
  rw [e1, ← h.goes] at hv
  have hv : act f m.reverse (unit x) s = if desc f s (wayC f m n).reverse then - act f n.reverse (unit x) s else act f n.reverse (unit x) s := hv
  by_cases d : desc f s (wayC f m n).reverse
  · exfalso
    obtain ⟨y, hy, p1⟩ := h.npos.2
    have hw := h.vmark (act f m.reverse (unit y))
    rw [e1, ← h.goes, if_pos d] at hw
    have hw : act f m.reverse (unit y) s = - act f n.reverse (unit y) s := hw
    have p2 := h.mpos.1 y hy
    have p1 : 0 < act f n.reverse (unit y) s := p1
    have p2 : 0 ≤ act f m.reverse (unit y) s := p2
    omega
  · rw [if_neg d] at hv
    exact hv
theorem W2.vst (h : W2 f ls m s n t) : Strt f t (startC f (wayC f m n) t) := Strt.of h.ok h.uNF t
/-- a door of a kind that crosses t, or of t itself, behind the way to the wall: the walls cross or are one -/
theorem W2.along (h : W2 f ls m s n t) (ns : ¬ (s = t ∧ m = n)) (h0 : act f (startC f (wayC f m n) t) (bt f t) s ≠ 0) (hd : ¬ desc f s (startC f (wayC f m n) t)) {y : List Nat} (hy : ∀ z ∈ y, z ∈ f t ∨ z = t) (hy1 : ∀ p c q, y = p ++ c :: q → ∀ z ∈ p, z ∈ f t) (my : ∀ z ∈ y, z ∈ ls) : ¬ Ng f ls (startC f (wayC f m n) t ++ y) s := by
  have ok := h.ok
  have st := h.vst
  have ex := h.exc ns
  have mv := st_mem (f := f) h.mu h.ht
  generalize startC f (wayC f m n) t = v at st ex mv h0 hd
  intro z
  have n0 : ¬ Ng f ls v s := fun w => hd ((ng_desc ok st.red mv h.hs).mp w)
  obtain ⟨p, c, q, e, hg⟩ := turn_door h.nd ok mv h.hs y my fun w => n0 (w.mpr z)
  have hpt := hy1 p c q e
  have hcy : c ∈ y := by rw [e]; exact List.mem_append_right _ (List.mem_cons_self ..)
  have ez : ∀ g, act f v g s = act f (v ++ p) (act f p.reverse g) s := fun g => by rw [act_app, act_rev' ok]
  have hpr : ∀ z ∈ p.reverse, z ∈ f t := fun z hz => hpt z (List.mem_reverse.mp hz)
  rcases hy c hcy with hc | hc
  · have e0 : act f p.reverse (bt f t) c = 0 := act_zero ok (E := f t) (fun e he => bt_in ok he) hpr hc
    apply h0
    rcases hg with hg | hg
    · rw [ez, hg, e0]
    · rw [ez, hg, e0]
      rfl
  · subst hc
    have ea : ∀ g, act f p.reverse g c = g c := fun g => by
      have := mark_along (f := f) (s := c) (g := g) (v := []) ok hpr
      rw [List.append_nil] at this
      exact this
    rcases hg with hg | hg
    · have e1 : ∀ x, act f v (unit x) s = unit x c := fun x => by rw [ez, hg, ea]
      have ek : s = c := root_kind (w := []) h.hs fun x _ => e1 x
      subst ek
      have fx := mark_fix h.nd ok h.hs st.red mv fun x _ => e1 x
      apply ex
      refine ⟨?_, rfl⟩
      cases hv : v.reverse with
      | nil => simpa using hv
      | cons a r =>
        exfalso
        have ha : a ∈ v := List.mem_reverse.mp (by rw [hv]; exact List.mem_cons_self ..)
        exact st.fr a (fx a ha) (by rw [hv]; exact .inl rfl)
    · apply n0
      refine ⟨c, h.ht, ?_⟩
      show act f v (unit c) s < 0
      rw [ez, hg, ea, show unit c c = 1 from if_pos rfl]
      decide
/-- the way on from the wall to its door -/
theorem W2.tail (h : W2 f ls m s n t) : ∃ y, (∀ z ∈ y, z ∈ f t ∨ z = t) ∧ (∀ p c q, y = p ++ c :: q → ∀ z ∈ p, z ∈ f t) ∧ (∀ z ∈ y, z ∈ ls) ∧ ∀ g, act f (wayC f m n) g = act f (startC f (wayC f m n) t ++ y) g := by
  obtain ⟨y, y1, y2, ey, ly⟩ := start_split h.ok (wayC f m n) t
  have my : ∀ z ∈ y, z ∈ ls := fun z hz => nr_mem h.mu h.ht z (y2 z hz)
  by_cases hd : desc f t (wayC f m n).reverse
  · obtain ⟨e2, _⟩ := near_split h.ok hd
    refine ⟨y ++ [t], fun z hz => (List.mem_append.mp hz).elim (fun w => .inl (y1 z w)) fun w => .inr (List.mem_singleton.mp w), fun p c q e z hz => ?_, fun z hz => (List.mem_append.mp hz).elim (my z) fun w => by rw [List.mem_singleton.mp w]; exact h.ht, fun g => ?_⟩
    · have hl := congrArg List.length e
      simp only [List.length_append, List.length_cons, List.length_nil] at hl
      have hp : p = (y ++ [t]).take p.length := by rw [e]; simp
      rw [List.take_append_of_le_length (by omega)] at hp
      exact y1 z (List.mem_of_mem_take (by rw [← hp]; exact hz))
    · rw [e2, act_app, ey, ← act_app, List.append_assoc]
  · refine ⟨y, fun z hz => .inl (y1 z hz), fun p c q e z hz => y1 z (by rw [e]; exact List.mem_append_left _ hz), my, fun g => ?_⟩
    rw [← ey, near_same hd]
theorem W2.zero (h : W2 f ls m s n t) (ns : ¬ (s = t ∧ m = n)) : act f (wayC f m n) (bt f t) s = 0 ↔ (∀ y ∈ startC f (wayC f m n) t, y ∈ f s) ∧ t ∈ f s := by
  rw [← b_zero h.ok h.ht h.vst (st_mem h.mu h.ht) h.hs (h.exc ns), b_eq h.nd h.ok h.mu h.hs h.ht]
  split <;> omega
theorem W2.one (h : W2 f ls m s n t) (hs : s = t ∧ m = n) : act f (wayC f m n) (bt f t) s = 1 := by
  obtain ⟨rfl, rfl⟩ := hs
  rw [way_self h.ok]
  exact bt_self
/-- whether they cross, as the program finds it -/
theorem W2.crosses (h : W2 f ls m s n t) : act f (wayC f m n) (bt f t) s = 0 ↔ t ∈ f s ∧ startC f (nameOf f (m ++ (splitA f (f s) (wayC f m n)).1)) t = n := by
  have ok := h.ok
  have al1 := splitA_in f (wayC f m n) (f s)
  have al2 := splitA_mem1 f (wayC f m n) (f s)
  have ra := fun g => splitA_act ok g (wayC f m n) (f s)
  have rl := splitA_len f (wayC f m n) (f s)
  have rd := splitA_desc ok (wayC f m n) (f s)
  have rm := splitA_mem2 f (wayC f m n) (f s)
  generalize (splitA f (f s) (wayC f m n)).1 = al at al1 al2 ra rl
  generalize (splitA f (f s) (wayC f m n)).2 = rs at ra rl rd rm
  have mal : ∀ y ∈ al, y ∈ ls := fun y hy => h.mu y (al2 y hy)
  have mrs : ∀ y ∈ rs, y ∈ ls := fun y hy => h.mu y (rm y hy)
  have mma : ∀ y ∈ m ++ al, y ∈ ls := fun y hy => (List.mem_append.mp hy).elim (h.mm y) (mal y)
  have mnm : ∀ y ∈ nameOf f (m ++ al), y ∈ ls := fun y hy => mma y (name_mem hy)
  have sg : ∀ g, act f (startC f (nameOf f (m ++ al)) t).reverse g t = if desc f t (nameOf f (m ++ al)).reverse then - act f (m ++ al).reverse g t else act f (m ++ al).reverse g t := fun g => by rw [start_mark ok, near_mark ok, act_of_name ok]
  constructor
  · intro hz
    have ns : ¬ (s = t ∧ m = n) := fun z => by rw [h.one z] at hz; omega
    obtain ⟨hv, hts⟩ := (h.zero ns).mp hz
    refine ⟨hts, ?_⟩
    -- the rest leaves the mark of t but for the sign
    have rr : Red f rs := Red_right (red_cat ok h.uNF (fun g => (ra g).symm) (by rw [List.length_append, rl]))
    have nrs : NF f (nameOf f rs) := name_NF ok rs
    have mnr : ∀ y ∈ nameOf f rs, y ∈ ls := fun y hy => mrs y (name_mem hy)
    have s2 : ∀ g, act f (startC f (nameOf f rs) t).reverse g t = if desc f t (nameOf f rs).reverse then - act f rs.reverse g t else act f rs.reverse g t := fun g => by rw [start_mark ok, near_mark ok, act_of_name ok]
    have back : ∀ g, act f rs.reverse g t = act f (wayC f m n).reverse (act f al g) t := fun g => by
      have := act_rev_eq ok ra (act f al g)
      rw [List.reverse_append, act_app, act_rev ok] at this
      rw [this]
    have v2 : startC f (nameOf f rs) t = [] := by
      have st2 := Strt.of ok nrs t
      have m2 := st_mem (f := f) (t := t) mnr h.ht
      cases e : startC f (nameOf f rs) t with
      | nil => rfl
      | cons c v' =>
        exfalso
        rw [e] at st2 m2
        have hcl : c ∈ ls := m2 c (List.mem_cons_self ..)
        have hcs : ¬ c ∈ f s := fun z => by
          have d1 : desc f c (nameOf f rs) := desc_start ok nrs mnr hcl h.ht (by rw [e]; exact .inl rfl)
          exact rd c z ((ng_desc ok rr mrs hcl).mp ((ng_name ok rs c).mp ((ng_desc ok nrs.red mnr hcl).mpr d1)))
        have hct : c ≠ t := fun z => hcs (z ▸ hts)
        -- its coordinate c is nought
        have z1 : act f rs.reverse (unit c) t = 0 := by
          have e3 := h.vmark (act f al (unit c))
          have e4 : act f (startC f (wayC f m n) t).reverse (act f al (unit c)) t = 0 := by
            rw [← act_app]
            refine mark_zero ok (x := c) (w := (startC f (wayC f m n) t).reverse ++ al) (s := t) (fun z => ?_) hct
            rcases List.mem_append.mp z with z | z
            · exact hcs (hv c (List.mem_reverse.mp z))
            · exact hcs (al1 c z)
          rw [e4] at e3
          rw [back]
          split at e3 <;> omega
        have z2 : mark f (c :: v').reverse t c = 0 := by
          have := s2 (unit c)
          rw [e, z1] at this
          show act f (c :: v').reverse (unit c) t = 0
          rw [this]
          split <;> rfl
        -- but it is not
        have hl := bsign ok h.ht _ v' rfl st2.tail fun y hy => m2 y (List.mem_cons_of_mem _ hy)
        have nc := neg_start (p := []) (q := v') ok st2 (fun _ z => (nomatch z)) (hl.1 c hcl st2.red.1)
        have nc : act f v' (bt f t) c ≤ -1 := nc
        have mv' : ∀ y ∈ v', y ∈ ls := fun y hy => m2 y (List.mem_cons_of_mem _ hy)
        have p1 := (mark_nn ok st2.tail.red.rev (fun y hy => mv' y (List.mem_reverse.mp hy)) h.ht st2.tail.td).1 c hcl
        have k1 := mark_head h.nd ok h.ht mv' hcl
        omega
    have sR : (∀ g, act f rs.reverse g t = g t) ∨ (∀ g, act f rs.reverse g t = - g t) := by
      by_cases d : desc f t (nameOf f rs).reverse
      · right
        intro g
        have := s2 g
        rw [v2, if_pos d] at this
        have this : g t = - act f rs.reverse g t := this
        omega
      · left
        intro g
        have := s2 g
        rw [v2, if_neg d] at this
        have this : g t = act f rs.reverse g t := this
        omega
    have eU : ∀ g, act f (wayC f m n).reverse g t = act f rs.reverse (act f al.reverse g) t := fun g => by
      have := act_rev_eq ok ra g
      rw [← this, List.reverse_append, act_app]
    have eN : (∀ g, act f n.reverse g t = act f (m ++ al).reverse g t) ∨ (∀ g, act f n.reverse g t = - act f (m ++ al).reverse g t) := by
      rcases sR with sR | sR
      · left
        intro g
        rw [h.goes, eU, sR, List.reverse_append, act_app]
      · right
        intro g
        rw [h.goes, eU, sR, List.reverse_append, act_app]
    refine wall_uniq h.nd ok h.ht (start_NF ok (name_NF ok _) t) h.n1 (st_mem mnm h.ht) h.mn (start_free ok _ t) h.sn.fr fun x hx => ?_
    have p1 := mark_nn (ls := ls) ok (start_NF ok (name_NF ok (m ++ al)) t).red.rev (fun y hy => st_mem mnm h.ht y (List.mem_reverse.mp hy)) h.ht (start_not ok (name_NF ok _) t)
    have p2 := h.npos
    have key : (∀ g, act f (startC f (nameOf f (m ++ al)) t).reverse g t = act f n.reverse g t) ∨ (∀ g, act f (startC f (nameOf f (m ++ al)) t).reverse g t = - act f n.reverse g t) := by
      by_cases d : desc f t (nameOf f (m ++ al)).reverse
      · rcases eN with eN | eN
        · right
          intro g
          rw [sg, if_pos d, eN]
        · left
          intro g
          rw [sg, if_pos d, eN]
      · rcases eN with eN | eN
        · left
          intro g
          rw [sg, if_neg d, eN]
        · right
          intro g
          rw [sg, if_neg d, eN]
          omega
    rcases key with key | key
    · exact key (unit x)
    · exfalso
      obtain ⟨z, hz', w⟩ := p2.2
      have w : 0 < act f n.reverse (unit z) t := w
      have w2 : 0 ≤ act f (startC f (nameOf f (m ++ al)) t).reverse (unit z) t := p1.1 z hz'
      rw [key] at w2
      omega
  · rintro ⟨hts, e⟩
    rw [← h.prod]
    have e1 : ∀ y, mark f n.reverse t y = if desc f t (nameOf f (m ++ al)).reverse then - mark f (m ++ al).reverse t y else mark f (m ++ al).reverse t y := fun y => by
      have := sg (unit y)
      rw [e] at this
      exact this
    have e2 : prodV f ls (mark f m.reverse s) (mark f (m ++ al).reverse t) = 0 := by
      rw [prod_act h.nd ok h.mm mma h.hs h.ht, ← List.append_assoc, act_app, act_app, act_rev ok]
      have := mark_along (f := f) (s := s) (g := bt f t) (v := []) ok al1
      rw [List.append_nil] at this
      rw [this]
      exact bt_in ok (ok.sym _ _ hts)
    unfold prodV at e2 ⊢
    by_cases d : desc f t (nameOf f (m ++ al)).reverse
    · have e3 : sumL ls (fun x => mark f m.reverse s x * sumL ls fun y => mark f n.reverse t y * bt f y x) = sumL ls fun x => (-1) * (mark f m.reverse s x * sumL ls fun y => mark f (m ++ al).reverse t y * bt f y x) + 0 * 0 := sumL_congr fun x _ => by
        have e4 : sumL ls (fun y => mark f n.reverse t y * bt f y x) = sumL ls fun y => (-1) * (mark f (m ++ al).reverse t y * bt f y x) + 0 * 0 := sumL_congr fun y _ => by
          rw [e1, if_pos d, Int.neg_mul]
          omega
        rw [e4, sumL_comb (-1) 0 (fun y => mark f (m ++ al).reverse t y * bt f y x) (fun _ => 0), Int.mul_add, ← Int.mul_assoc, Int.mul_comm _ (-1), Int.mul_assoc]
        omega
      rw [e3, sumL_comb (-1) 0 _ (fun _ => 0), e2]
      omega
    · have e3 : sumL ls (fun x => mark f m.reverse s x * sumL ls fun y => mark f n.reverse t y * bt f y x) = sumL ls fun x => mark f m.reverse s x * sumL ls fun y => mark f (m ++ al).reverse t y * bt f y x := sumL_congr fun x _ => by
        rw [sumL_congr (u := fun y => mark f n.reverse t y * bt f y x) (v := fun y => mark f (m ++ al).reverse t y * bt f y x) fun y _ => by rw [e1, if_neg d]]
      rw [e3, e2]
end
end
end Cw
set_option Elab.async false
set_option linter.all false
set_option maxRecDepth 100000
set_option maxHeartbeats 4000000
/-! the five words of how two walls lie -/
namespace Cw
section
variable {f : Nat → List Nat} {ls : List Nat} {s t c : Nat} {m n : List Nat}
end
/-! ### the words -/
def crossP (f : Nat → List Nat) (m : List Nat) (s : Nat) (n : List Nat) (t : Nat) : Prop := t ∈ f s ∧ startC f (nameOf f (m ++ (splitA f (f s) (wayC f m n)).1)) t = n
instance (f : Nat → List Nat) (m : List Nat) (s : Nat) (n : List Nat) (t : Nat) : Decidable (crossP f m s n t) := inferInstanceAs (Decidable (_ ∧ _))
section
variable {f : Nat → List Nat} {ls : List Nat} {s t : Nat} {m n : List Nat}
end
end Cw
set_option Elab.async false
set_option linter.all false
set_option maxRecDepth 100000
set_option maxHeartbeats 4000000
/-! how two walls lie, as the law tells it -/
namespace Cw
section
variable {f : Nat → List Nat} {ls : List Nat} {s t : Nat} {w v : List Nat}
theorem W2.of (hn : ls.Nodup) (ok : CrOk f) (hs : s ∈ ls) (ht : t ∈ ls) (hw : ∀ y ∈ w, y ∈ ls) (hv : ∀ y ∈ v, y ∈ ls) : W2 f ls (startC f (nameOf f w) s) s (startC f (nameOf f v) t) t where
  nd := hn
  ok := ok
  hs := hs
  ht := ht
  m1 := start_NF ok (name_NF ok w) s
  n1 := start_NF ok (name_NF ok v) t
  mm := st_mem (fun y hy => hw y (name_mem hy)) hs
  mn := st_mem (fun y hy => hv y (name_mem hy)) ht
  sm := Strt.of ok (name_NF ok w) s
  sn := Strt.of ok (name_NF ok v) t
end
end Cw
set_option Elab.async false
set_option linter.all false
set_option maxRecDepth 100000
set_option maxHeartbeats 4000000
/-! the walls on shortest ways from home, as lists of marks -/
namespace Cw
/-- the marks of the doors of a shortest way -/
def crL (f : Nat → List Nat) (n : List Nat) : List (Nat → Int) := (List.range n.length).map fun i => fun x => act f (n.take i).reverse (unit x) (n.getD i 0)
/-- without two that are alike -/
def NdV (ls : List Nat) (us : List (Nat → Int)) : Prop := us.Pairwise fun u v => ¬ ∀ x ∈ ls, u x = v x
theorem key_iff {ls : List Nat} {u v : Nat → Int} : ls.map u = ls.map v ↔ ∀ x ∈ ls, u x = v x := by
  induction ls with
  | nil => exact ⟨fun _ _ h => (nomatch h), fun _ => rfl⟩
  | cons y r ih =>
    rw [List.map_cons, List.map_cons, List.cons.injEq, ih]
    exact ⟨fun h x hx => (List.mem_cons.mp hx).elim (fun z => z ▸ h.1) (h.2 x), fun h => ⟨h y (List.mem_cons_self ..), fun x hx => h x (List.mem_cons_of_mem _ hx)⟩⟩
theorem NdV.key {ls : List Nat} {us : List (Nat → Int)} (h : NdV ls us) : (us.map fun u => ls.map u).Nodup := by
  unfold List.Nodup
  rw [List.pairwise_map]
  exact h.imp fun {a b} n z => n (key_iff.mp z)
section
variable {f : Nat → List Nat} {ls : List Nat} {s : Nat}
theorem getD_in {w : List Nat} {i : Nat} (h : i < w.length) : w.getD i 0 ∈ w := by
  rw [List.getD_eq_getElem?_getD, List.getElem?_eq_getElem h]
  exact List.getElem_mem h
/-! ### the middle -/
end
end Cw
set_option Elab.async false
set_option linter.all false
set_option maxRecDepth 100000
set_option maxHeartbeats 4000000
/-! the walls between two rooms, in plain words -/
namespace Cw
def keyI (fn : Nat → List Nat) (m u : List Nat) (n : Nat) : List (List Nat) := (List.range n).map fun i => startC fn (nameOf fn (m ++ u.take i)) (u.getD i 0) ++ [u.getD i 0]
/-- a wall by the room that touches it and its kind -/
structure KeyOk (fn : Nat → List Nat) (ls : List Nat) (m : List Nat) (k : Nat) : Prop where
  nf : NF fn m
  mem : ∀ y ∈ m, y ∈ ls
  hk : k ∈ ls
  td : ¬ desc fn k m.reverse
  fr : ∀ t ∈ fn k, ¬ desc fn t m.reverse
def markK (f : Nat → List Nat) (key : List Nat) : Nat → Int := fun x => act f key.dropLast.reverse (unit x) (key.getLastD 0)
theorem markK_app (f : Nat → List Nat) (m : List Nat) (k : Nat) : markK f (m ++ [k]) = mark f m.reverse k := by
  unfold markK mark
  rw [List.dropLast_concat]
  have : (m ++ [k]).getLastD 0 = k := by simp
  rw [this]
section
variable {f : Nat → List Nat} {ls : List Nat} {s : Nat}
/-- the mark of a door's wall is the door's, or its opposite -/
theorem start_sgn (ok : CrOk f) (w : List Nat) (s : Nat) : ∃ e : Int, (e = 1 ∨ e = -1) ∧ ∀ g, act f (startC f (nameOf f w) s).reverse g s = e * act f w.reverse g s := by
  by_cases d : desc f s (nameOf f w).reverse
  · refine ⟨-1, .inr rfl, fun g => ?_⟩
    rw [start_mark ok, near_mark ok, if_pos d, act_of_name ok]
    omega
  · refine ⟨1, .inl rfl, fun g => ?_⟩
    rw [start_mark ok, near_mark ok, if_neg d, act_of_name ok]
    omega
end
end Cw
set_option Elab.async false
set_option linter.all false
set_option maxRecDepth 100000
set_option maxHeartbeats 4000000
/-! two rooms with a common beginning: when walls cross, the kinds do -/
namespace Cw
open PySem PySem.Spec L2
section
variable {f : Nat → List Nat} {ls : List Nat}
/-- a way whose letters bear nought changes nothing -/
theorem act_still {g : Nat → Int} {s : Nat} : ∀ {w : List Nat}, (∀ y ∈ w, g y = 0) → act f w g s = g s := by
  have key : ∀ (w : List Nat), (∀ y ∈ w, g y = 0) → ∀ e, act f w g e = g e := by
    intro w
    induction w with
    | nil => intro _ e; rfl
    | cons c r ih =>
      intro h e
      have i := ih fun y hy => h y (List.mem_cons_of_mem _ hy)
      have hc : act f r g c = 0 := (i c).trans (h c (List.mem_cons_self ..))
      show thr f c (act f r g) e = g e
      unfold thr
      split
      · rename_i he
        subst he
        rw [hc, h e (List.mem_cons_self ..)]
        rfl
      · split
        · exact i e
        · rw [hc, i e]
          omega
  exact fun {w} h => key w h s
/-- the product of two walls of ways from one room, once what lies ahead crosses -/
theorem prod_step (hn : ls.Nodup) (ok : CrOk f) {M p q : List Nat} {s t : Nat} (mM : ∀ y ∈ M, y ∈ ls) (mp : ∀ y ∈ p, y ∈ ls) (mq : ∀ y ∈ q, y ∈ ls) (hs : s ∈ ls) (ht : t ∈ ls) (h1 : ∀ a ∈ p, ∀ b ∈ q, a ∈ f b) (h2 : ∀ a ∈ p, a ∈ f t) (h3 : ∀ b ∈ q, s ∈ f b) :
    prodV f ls (mark f (M ++ p).reverse s) (mark f (M ++ q).reverse t) = bt f t s := by
  have mMp : ∀ y ∈ M ++ p, y ∈ ls := fun y hy => (List.mem_append.mp hy).elim (mM y) (mp y)
  have mMq : ∀ y ∈ M ++ q, y ∈ ls := fun y hy => (List.mem_append.mp hy).elim (mM y) (mq y)
  rw [prod_act hn ok mMp mMq hs ht]
  have e : act f ((M ++ p).reverse ++ (M ++ q)) (bt f t) = act f p.reverse (act f q (bt f t)) := by
    rw [act_app, List.reverse_append, act_app, act_app M q, act_rev ok]
  rw [e]
  have hq : ∀ c, (∀ b ∈ q, c ∈ f b) → act f q (bt f t) c = bt f t c := fun c hc => by
    have := mark_along (f := f) (s := c) ok (g := bt f t) (v := []) (u := q) fun y hy => ok.sym _ _ (hc y hy)
    rwa [List.append_nil] at this
  rw [act_still fun y hy => ?_]
  · exact hq s h3
  · have hy := List.mem_reverse.mp hy
    rw [hq y (h1 y hy)]
    exact bt_in ok (h2 y hy)
theorem bt_zero (ok : CrOk f) {s t : Nat} : bt f t s = 0 ↔ s ∈ f t := by
  constructor
  · intro h
    by_cases e : s = t
    · rw [e, bt_self] at h
      cases h
    · by_cases c : s ∈ f t
      · exact c
      · rw [bt_out e c] at h
        cases h
  · exact bt_in ok
/-- all walls of two ways cross just if all their letters do -/
theorem all_cross (hn : ls.Nodup) (ok : CrOk f) {M u v : List Nat} (mM : ∀ y ∈ M, y ∈ ls) (mu : ∀ y ∈ u, y ∈ ls) (mv : ∀ y ∈ v, y ∈ ls) :
    (∀ i, i < u.length → ∀ j, j < v.length → prodV f ls (mark f (M ++ u.take i).reverse (u.getD i 0)) (mark f (M ++ v.take j).reverse (v.getD j 0)) = 0) ↔ ∀ a ∈ u, ∀ b ∈ v, a ∈ f b := by
  have tk : ∀ {w : List Nat} {n : Nat} {y : Nat}, y ∈ w.take n → ∃ k, k < n ∧ k < w.length ∧ y = w.getD k 0 := fun {w n y} hy => by
    obtain ⟨k, hk, rfl⟩ := List.getElem_of_mem hy
    rw [List.length_take] at hk
    refine ⟨k, by omega, by omega, ?_⟩
    rw [List.getElem_take, List.getD_eq_getElem?_getD, List.getElem?_eq_getElem (by omega)]
    rfl
  have key : ∀ i j, i < u.length → j < v.length → (∀ i' j', i' ≤ i → j' ≤ j → ¬ (i' = i ∧ j' = j) → u.getD i' 0 ∈ f (v.getD j' 0)) → prodV f ls (mark f (M ++ u.take i).reverse (u.getD i 0)) (mark f (M ++ v.take j).reverse (v.getD j 0)) = bt f (v.getD j 0) (u.getD i 0) := fun i j hi hj h => by
    refine prod_step hn ok mM (fun y hy => mu y (List.mem_of_mem_take hy)) (fun y hy => mv y (List.mem_of_mem_take hy)) (mu _ (getD_in hi)) (mv _ (getD_in hj)) (fun a ha b hb => ?_) (fun a ha => ?_) fun b hb => ?_
    · obtain ⟨k, k1, k2, rfl⟩ := tk ha
      obtain ⟨l, l1, l2, rfl⟩ := tk hb
      exact h k l (by omega) (by omega) (by omega)
    · obtain ⟨k, k1, k2, rfl⟩ := tk ha
      exact h k j (by omega) (by omega) (by omega)
    · obtain ⟨l, l1, l2, rfl⟩ := tk hb
      exact h i l (by omega) (by omega) (by omega)
  constructor
  · intro h
    have all : ∀ n i j, i + j = n → i < u.length → j < v.length → u.getD i 0 ∈ f (v.getD j 0) := by
      intro n
      induction n using Nat.strongRecOn with
      | ind n ih =>
        intro i j e hi hj
        refine (bt_zero ok).mp ?_
        rw [← key i j hi hj fun i' j' h1 h2 h3 => ih (i' + j') (by omega) i' j' rfl (by omega) (by omega)]
        exact h i hi j hj
    intro a ha b hb
    obtain ⟨i, hi, rfl⟩ := List.getElem_of_mem ha
    obtain ⟨j, hj, rfl⟩ := List.getElem_of_mem hb
    have := all _ i j rfl hi hj
    rw [List.getD_eq_getElem?_getD, List.getD_eq_getElem?_getD, List.getElem?_eq_getElem hi, List.getElem?_eq_getElem hj] at this
    exact this
  · intro h i hi j hj
    rw [key i j hi hj fun i' j' h1 h2 _ => h _ (getD_in (by omega)) _ (getD_in (by omega))]
    exact bt_in ok (h _ (getD_in hi) _ (getD_in hj))
end
end Cw
set_option Elab.async false
set_option linter.all false
set_option maxRecDepth 100000
set_option maxHeartbeats 4000000
/-! the gate of rooms, seen from a room -/
namespace Cw
section
variable {f : Nat → List Nat} {ls : List Nat}
structure Gate (f : Nat → List Nat) (ls : List Nat) (r : List Nat) (S : List (List Nat)) (N : List Nat) : Prop where
  nf : NF f N
  mem : ∀ y ∈ N, y ∈ ls
  ne : S ≠ []
  by' : ∀ z, (∀ y ∈ z, y ∈ ls) → ∀ s ∈ ls, (Ng f ls (z ++ N) s ↔ (Ng f ls (z ++ r) s ∧ ∃ x ∈ S, Ng f ls (z ++ x) s) ∨ ∀ x ∈ S, Ng f ls (z ++ x) s)
  bt : ∀ x ∈ S, Btw f r x N
theorem btw_end (ok : CrOk f) {a b : List Nat} : Btw f a b b := by
  unfold Btw
  rw [way_self ok]
  rfl
theorem Gate.one (ok : CrOk f) {r x : List Nat} (nx : NF f x) (mx : ∀ y ∈ x, y ∈ ls) : Gate f ls r [x] x where
  nf := nx
  mem := mx
  ne := by simp
  by' z hz s hs := by simp
  bt y hy := by rw [List.mem_singleton.mp hy]; exact btw_end ok
theorem Gate.step (ok : CrOk f) {r N x N' : List Nat} {S : List (List Nat)} (h : Gate f ls r S N) (m : MidX f ls r N x N') : Gate f ls r (S ++ [x]) N' where
  nf := m.nf
  mem := m.mem
  ne := by simp
  by' z hz s hs := by
    rw [m.by' z hz s hs, h.by' z hz s hs]
    obtain ⟨y, S', e⟩ : ∃ y S', S = y :: S' := by
      cases hS : S with
      | nil => exact absurd hS h.ne
      | cons y S' => exact ⟨y, S', rfl⟩
    have ex : (∀ x ∈ S, Ng f ls (z ++ x) s) → ∃ x ∈ S, Ng f ls (z ++ x) s := fun a => ⟨y, by rw [e]; exact List.mem_cons_self .., a y (by rw [e]; exact List.mem_cons_self ..)⟩
    simp only [List.mem_append, List.mem_singleton]
    have e1 : (∃ w, (w ∈ S ∨ w = x) ∧ Ng f ls (z ++ w) s) ↔ (∃ w ∈ S, Ng f ls (z ++ w) s) ∨ Ng f ls (z ++ x) s := by
      constructor
      · rintro ⟨w, a | rfl, b⟩
        · exact .inl ⟨w, a, b⟩
        · exact .inr b
      · rintro (⟨w, a, b⟩ | b)
        · exact ⟨w, .inl a, b⟩
        · exact ⟨x, .inr rfl, b⟩
    have e2 : (∀ w, (w ∈ S ∨ w = x) → Ng f ls (z ++ w) s) ↔ (∀ w ∈ S, Ng f ls (z ++ w) s) ∧ Ng f ls (z ++ x) s := ⟨fun a => ⟨fun w hw => a w (.inl hw), a x (.inr rfl)⟩, fun a w hw => hw.elim (a.1 w) fun z => z ▸ a.2⟩
    rw [e1, e2]
    generalize (∃ w ∈ S, Ng f ls (z ++ w) s) = EX at *
    generalize (∀ w ∈ S, Ng f ls (z ++ w) s) = AL at *
    generalize Ng f ls (z ++ r) s = R
    generalize Ng f ls (z ++ x) s = X
    by_cases R <;> by_cases X <;> by_cases EX <;> by_cases AL <;> simp_all
  bt y hy := by
    rcases List.mem_append.mp hy with hy | hy
    · have h1 := h.bt y hy
      have h2 := m.ab
      have t1 := way_tri ok r y N'
      have t2 := way_tri ok N' y N
      unfold Btw at *
      omega
    · rw [List.mem_singleton.mp hy]
      exact m.ac
theorem Gate.uniq (ok : CrOk f) {r N N' : List Nat} {S S' : List (List Nat)} (h : Gate f ls r S N) (h' : Gate f ls r S' N') (e : ∀ x, x ∈ S ↔ x ∈ S') : N = N' := by
  refine room_uniq ok h.nf h'.nf h.mem h'.mem fun s hs z => ?_
  have hz : ∀ y ∈ N.reverse, y ∈ ls := fun y hy => h.mem y (List.mem_reverse.mp hy)
  rw [h'.by' _ hz s hs] at z
  simp only [← e] at z
  exact ng_back ok N s ((h.by' _ hz s hs).mpr z)
theorem Gate.door (ok : CrOk f) {r N : List Nat} {S : List (List Nat)} (h : Gate f ls r S N) {s : Nat} (hs : s ∈ ls) : ∃ x ∈ S, ¬ Ng f ls (N.reverse ++ x) s := by
  refine Classical.byContradiction fun n => ?_
  have hz : ∀ y ∈ N.reverse, y ∈ ls := fun y hy => h.mem y (List.mem_reverse.mp hy)
  exact ng_back ok N s ((h.by' _ hz s hs).mpr (.inr fun x hx => Classical.byContradiction fun m => n ⟨x, hx, m⟩))
/-- the gate is its own gate -/
theorem Gate.self (ok : CrOk f) {r N N' : List Nat} {S : List (List Nat)} (h : Gate f ls r S N) (h' : Gate f ls N S N') : N' = N := by
  refine (room_uniq ok h.nf h'.nf h.mem h'.mem fun s hs z => ?_).symm
  have hz : ∀ y ∈ N.reverse, y ∈ ls := fun y hy => h.mem y (List.mem_reverse.mp hy)
  rw [h'.by' _ hz s hs] at z
  obtain ⟨x, hx, n⟩ := h.door ok hs
  rcases z with z | z
  · exact ng_back ok N s z.1
  · exact n (z x hx)
end
end Cw
set_option Elab.async false
set_option linter.all false
set_option maxRecDepth 100000
set_option maxHeartbeats 4000000
/-! rooms with weights: where no door leads to a lesser total, the total is told by the walls -/
namespace Cw
section
variable {f : Nat → List Nat} {ls : List Nat}
/-- the rooms and their weights -/
structure Wts (f : Nat → List Nat) (ls : List Nat) (P : List (List Nat × Int)) : Prop where
  ne : P ≠ []
  nf : ∀ a ∈ P, NF f a.1
  mem : ∀ a ∈ P, ∀ c ∈ a.1, c ∈ ls
  pos : ∀ a ∈ P, 0 < a.2
theorem wayB_mem {u v : List Nat} (hu : ∀ y ∈ u, y ∈ ls) (hv : ∀ y ∈ v, y ∈ ls) : ∀ y ∈ wayC f u v, y ∈ ls := fun y hy => by
  rcases List.mem_append.mp (name_mem hy) with z | z
  · exact hu y (List.mem_reverse.mp z)
  · exact hv y z
end
end Cw
set_option Elab.async false
set_option linter.all false
set_option maxRecDepth 100000
set_option maxHeartbeats 4000000
/-! the least total, wall by wall -/
namespace Cw
section
variable {f : Nat → List Nat} {ls : List Nat}
end
end Cw
set_option Elab.async false
set_option linter.all false
set_option maxRecDepth 100000
set_option maxHeartbeats 4000000
/-! going from door to door: paths, pulls, the one centre -/
namespace Cw
section
variable {f : Nat → List Nat} {ls : List Nat}
theorem red_len (ok : CrOk f) {w : List Nat} (mw : ∀ y ∈ w, y ∈ ls) (h : Red f w) : (nameOf f w).length = w.length := by
  have key : ∀ (n : Nat) (w : List Nat), w.length = n → (∀ y ∈ w, y ∈ ls) → Red f w → (nameOf f w).length = w.length := by
    intro n
    induction n with
    | zero =>
      intro w hl _ _
      rw [List.length_eq_zero_iff.mp hl]
      rfl
    | succ n ih =>
      intro w hl mw h
      rcases List.eq_nil_or_concat w with rfl | ⟨v, k, rfl⟩
      · rfl
      rw [List.concat_eq_append] at *
      have hv := Red_left h
      have mv : ∀ y ∈ v, y ∈ ls := fun y hy => mw y (List.mem_append_left _ hy)
      have mk : k ∈ ls := mw k (List.mem_append_right _ (List.mem_singleton_self k))
      have i := ih v (by simpa using hl) mv hv
      have nd : ¬ desc f k v.reverse := by
        have := h.rev
        rw [List.reverse_append] at this
        exact this.1
      have nd2 : ¬ desc f k (nameOf f v).reverse := fun d => nd <| by
        have mvr : ∀ y ∈ v.reverse, y ∈ ls := fun y hy => mv y (List.mem_reverse.mp hy)
        have mnr : ∀ y ∈ (nameOf f v).reverse, y ∈ ls := fun y hy => mv y (name_mem (List.mem_reverse.mp hy))
        refine (ng_desc ok hv.rev mvr mk).mp ((ng_act (fun g => ?_) k).mp ((ng_desc ok (name_NF ok v).red.rev mnr mk).mpr d))
        exact act_rev_eq ok (name_act ok v) g
      have e : nameOf f (v ++ [k]) = stepOf (f k) (nameOf f v) k := by
        show joinC f [] (v ++ [k]) = _
        rw [joinC_app]
        rfl
      rw [e, (step_len_desc ok (nameOf f v) k).2 nd2, i, List.length_append]
      rfl
  exact key _ w rfl mw h
/-- a shortest way from room to room -/
structure PathTo (f : Nat → List Nat) (ls x y p : List Nat) : Prop where
  red : Red f p
  mem : ∀ c ∈ p, c ∈ ls
  act' : ∀ g, act f p g = act f (x.reverse ++ y) g
theorem PathTo.start (ok : CrOk f) {x y : List Nat} (mx : ∀ c ∈ x, c ∈ ls) (my : ∀ c ∈ y, c ∈ ls) : PathTo f ls x y (wayC f x y) := ⟨(name_NF ok _).red, wayB_mem mx my, fun g => name_act ok _ g⟩
theorem PathTo.len (ok : CrOk f) {x y p : List Nat} (h : PathTo f ls x y p) : p.length = (wayC f x y).length := by
  rw [← red_len ok h.mem h.red, name_eq ok h.act']
  rfl
theorem PathTo.first (ok : CrOk f) {x y p : List Nat} (h : PathTo f ls x y p) {s : Nat} (hs : s ∈ ls) : desc f s p ↔ Ng f ls (x.reverse ++ y) s := by
  rw [← ng_desc ok h.red h.mem hs]
  exact ng_act h.act' s
theorem step_act (ok : CrOk f) (x : List Nat) (s : Nat) (y : List Nat) (g : Nat → Int) : act f ((nameOf f (x ++ [s])).reverse ++ y) g = act f (s :: (x.reverse ++ y)) g := by
  rw [act_app, act_rev_eq ok (name_act ok (x ++ [s])), List.reverse_append, List.reverse_singleton, ← act_app]
  rfl
theorem PathTo.erase (ok : CrOk f) {x y p : List Nat} (h : PathTo f ls x y p) {s : Nat} (d : desc f s p) : PathTo f ls (nameOf f (x ++ [s])) y (p.erase s) where
  red := erase_red ok d h.red
  mem c hc := h.mem c (List.mem_of_mem_erase hc)
  act' g := by
    rw [step_act ok]
    show _ = thr f s (act f (x.reverse ++ y) g)
    rw [← h.act', ← erase_act ok d]
    show _ = thr f s (thr f s (act f (p.erase s) g))
    rw [thr_thr ok]
theorem PathTo.cons (ok : CrOk f) {x y p : List Nat} (h : PathTo f ls x y p) {s : Nat} (hs : s ∈ ls) (d : ¬ desc f s p) : PathTo f ls (nameOf f (x ++ [s])) y (s :: p) where
  red := ⟨d, h.red⟩
  mem c hc := (List.mem_cons.mp hc).elim (fun e => e ▸ hs) (h.mem c)
  act' g := by
    rw [step_act ok]
    show thr f s (act f p g) = thr f s (act f (x.reverse ++ y) g)
    rw [h.act']
end
end Cw
set_option Elab.async false
set_option linter.all false
set_option maxRecDepth 100000
set_option maxHeartbeats 4000000
/-! the last common room, the room beyond both; the nearest room at a wall -/
namespace Cw
open PySem PySem.Spec L2
section
variable {f : Nat → List Nat} {ls : List Nat}
/-- the room beyond both, if all letters cross -/
structure BothX (f : Nat → List Nat) (ls a b M : List Nat) : Prop where
  len : (nameOf f (a ++ wayC f M b)).length = M.length + (wayC f M a).length + (wayC f M b).length
  ina : ∀ u ∈ crL f a, ∃ w ∈ crL f (nameOf f (a ++ wayC f M b)), ∀ x ∈ ls, w x = u x
  inb : ∀ u ∈ crL f b, ∃ w ∈ crL f (nameOf f (a ++ wayC f M b)), ∀ x ∈ ls, w x = u x
/-! ### the nearest room at a wall -/
theorem pos_along (ok : CrOk f) {w : List Nat} {s c : Nat} (hc : c ∈ f s) : posM f ls (w ++ [c]) s = posM f ls w s := by
  have e : ∀ x, act f (w ++ [c]).reverse (unit x) s = act f w.reverse (unit x) s := fun x => by
    rw [List.reverse_append]
    exact mark_along (u := [c]) ok fun y hy => by
      rw [List.mem_singleton.mp hy]
      exact hc
  unfold posM
  simp only [e]
theorem near_step (hn : ls.Nodup) (ok : CrOk f) {w : List Nat} {s c : Nat} (mw : ∀ y ∈ w, y ∈ ls) (hs : s ∈ ls) (hc : c ∈ ls) (h : c = s ∨ c ∈ f s) : startC f (nameOf f (w ++ [c])) s = startC f (nameOf f w) s := by
  rcases h with rfl | h
  · exact wall_thr hn ok hs mw
  · refine (wall_iff hn ok hs (fun y hy => (List.mem_append.mp hy).elim (mw y) fun z => List.mem_singleton.mp z ▸ hc) mw).mpr fun x _ => ?_
    rw [pos_along ok h]
end
end Cw
set_option Elab.async false
set_option linter.all false
set_option maxRecDepth 100000
set_option maxHeartbeats 4000000
/-! sorted of texts, any number of them -/
namespace Cw
open PySem PySem.Spec L2 PyProof.Rows SrtO
/-- the codes of a text -/
def sv : Value → List Nat
  | .str x _ => x.cps.toList
  | _ => []
def ltSv (v u : Value) : Bool := decide (sv v < sv u)
theorem swo_str : Swo ltSv := by
  refine ⟨fun x y h => ?_, fun x y z h1 h2 => ?_⟩
  · have a := of_decide_eq_true (p := sv x < sv y) h
    exact decide_eq_false (p := sv y < sv x) (List.lt_asymm a)
  · have a := of_decide_eq_false (p := sv y < sv x) h1
    have b := of_decide_eq_false (p := sv z < sv y) h2
    exact decide_eq_false (p := sv z < sv x) fun c => by
      by_cases d : sv z < sv y
      · exact b d
      · exact a (List.lt_of_le_of_lt (List.not_lt.mp d) c)
section
variable {prog : Program} {w : World} {A : Around} {s : Shared}
theorem str_sortable {a : Addr} {vs : List Value} {ss : List Str} (hS : StrsAre vs ss) (h2 : 2 ≤ vs.length) : SortableO prog w A s a vs ltSv := by
  intro h' _
  refine ⟨oneType', fun Q E hq => ?_, fun p q hm hm' => ?_⟩
  · match vs, hS, h2 with
    | v1 :: v2 :: rest, hS, _ =>
      rw [keyKind_strs hS]
      exact wpAny_pure hq
    | [], _, h => exact absurd h (by decide)
    | [v], _, h => exact absurd h (by simp)
  · obtain ⟨x, t, e⟩ := hS.all _ hm
    obtain ⟨y, u, e'⟩ := hS.all _ hm'
    show wpAny (model prog w) A (keyLt' oneType' p.1 q.1) (fun r s' => s' = { s with heap := h' } ∧ r = ltSv p.1 q.1) (fun _ _ => False) { s with heap := h' }
    rw [e, e', keyLt'_oneType]
    exact oneLt_str ⟨rfl, rfl⟩
end
theorem sv_str {vs : List Value} {ls : List (List Nat)} (h : StrsAre vs (ls.map tx)) : vs.map sv = ls := by
  have key : ∀ {vs : List Value} {ss : List Str}, StrsAre vs ss → vs.map sv = ss.map fun x => x.cps.toList := by
    intro vs ss h
    induction h with
    | nil => rfl
    | cons x t r ih => rw [List.map_cons, List.map_cons, ih]; rfl
  rw [key h, List.map_map]
  have : ((fun x : Str => x.cps.toList) ∘ tx) = id := funext fun l => rfl
  rw [this, List.map_id]
theorem str_sv {vs : List Value} (h : ∀ v ∈ vs, ∃ x t, v = Value.str x t) : StrsAre vs ((vs.map sv).map tx) := by
  have e : (vs.map sv).map tx = vs.map strOf := by
    rw [List.map_map]
    refine List.map_congr_left fun v hv => ?_
    obtain ⟨x, t, rfl⟩ := h v hv
    show tx x.cps.toList = x
    exact tx_eq.symm
  rw [e]
  exact strsAre_map vs h
/-- sorted(xs), texts, any number of them -/
def rSortedS (K : PySem.W.Frag) : List V → Hp → VK → Prop := fun vs H Q => ∃ (a : Addr) (ls : List (List Nat)), vs = [V.ref a] ∧ SqL K H a (ls.map fun l => V.str (tx l)) ∧
  ∀ (ls' : List (List Nat)) (p : Addr), ls'.Perm ls → ls'.Pairwise (fun a b => ¬ b < a) → H p = none → Q (.ref p) (upd H p (.lst (ls'.map fun l => V.str (tx l))))
theorem map_tx (ls : List (List Nat)) : (ls.map fun l => V.str (tx l)) = (ls.map tx).map V.str := by rw [List.map_map]; rfl
section
variable {X : Cx}
theorem cr_sortedT : CallR X (.builtin "sorted") (rSortedS X.K) := by
  intro pins s σ H vs us Q I r h
  obtain ⟨a, ls, rfl, hs, q⟩ := h
  rw [map_tx] at hs
  obtain ⟨its, rv, hl, hz⟩ := I.list hs
  rw [Vals.ref1 r]
  have hi := rv.strs
  refine sorted_ord swo_str hl.isList (by rw [← rv.length]; exact hz) (fun h2 h₁ a' _ _ => str_sortable hi h2) fun out h1 h2 => ?_
  have all := fun v hv => hi.all v (h2.perm.mem_iff.mp hv)
  have k1 : StrsAre out ((out.map sv).map tx) := str_sv all
  have k2 : (out.map sv).Perm ls := by
    have := h2.perm.map sv
    rw [sv_str hi] at this
    exact this
  have k3 : (out.map sv).Pairwise (fun a b => ¬ b < a) := List.pairwise_map.mpr (h1.imp fun {x y} h => of_decide_eq_false (p := sv y < sv x) h)
  obtain ⟨ep, he'⟩ := sortedAll_at s.heap its out.toArray
  have hlen : (((out.map sv).map tx).map V.str).length ≤ sizeLine := by
    rw [List.length_map, List.length_map, k2.length_eq]
    rw [List.length_map, List.length_map] at hz
    exact hz
  have q := q _ (s.heap.objs.size + 1) k2 k3 (I.hok.fresh (Nat.le_succ _))
  rw [map_tx] at q
  exact ⟨.ref _, upd H (s.heap.objs.size + 1) (.lst (((out.map sv).map tx).map V.str)), I.laid (t' := s.toks) (fun _ _ => sortedAll_old) (Nat.le_succ _) ⟨hlen, out, ep, vals_of_strs k1, he'⟩, rfl, q⟩
end
end Cw
set_option Elab.async false
set_option linter.all false
set_option maxRecDepth 100000
set_option maxHeartbeats 4000000
/-! sorted(xs, key=len) of texts, any number of them: stable -/
namespace Cw
open PySem PySem.Spec PyProof.Rows Srt SrtO
def ltLen (v u : Value) : Bool := decide ((sv v).length < (sv u).length)
section
variable {prog : Program} {w : World} {A : Around} {E : Value → Shared → Prop} {s : Shared} {a kS : Addr} {vs : List Value} {keys : Array Value} {e e1 : Nat} {R : PySem.Fin → Shared → Prop}
/-- the end of a sort by keys: the keys go, the items are laid -/
theorem len_tail {st : SortSt} (hk : s.heap.get? kS = some (seqObj "list" keys e)) (ha : s.heap.get? a = some (seqObj "list" #[] e1)) (ne : kS ≠ a) (zk : keys.size ≤ sizeLine) (zs : (arrOf st).size ≤ sizeLine) (hf : failedOf st = none)
    (q : ∀ h', (∀ b o, b ≠ a → b ≠ kS → s.heap.get? b = some o → h'.get? b = some o) → (∃ c, h'.get? a = some (seqObj "list" ((arrOf st).map (·.2)) c)) → R (.done (.ret .none)) { s with heap := h' }) :
    wpAny (model prog w) A (ksk_tail a false e1 (.ref kS) st) R E s := by
  have b1 := Heap.SameBut.update s.heap kS (Obj.mapSeq fun _ => (#[] : Array Value))
  have a1 := (b1.2 a ne.symm).trans ha
  have b2 := Heap.SameBut.update (s.heap.update kS (Obj.mapSeq fun _ => (#[] : Array Value))) a (Obj.mapSeq fun _ => (arrOf st).map (·.2))
  have a2 := get?_update_seq a1 fun _ => (arrOf st).map (·.2)
  unfold ksk_tail
  dsimp only
  refine wpAny_bind (listUpdate_at hk rfl ?_ zk (Nat.zero_le _))
  refine wpAny_bind (wpAny_letGo ?_)
  refine wpAny_bind (seqEpoch_at a1 rfl ?_)
  refine wpAny_bind (listUpdate_at a1 rfl ?_ (Nat.zero_le _) (by
    show ((arrOf st).map (·.2)).size ≤ sizeLine + 1
    rw [Array.size_map]
    omega))
  rw [hf]
  simp only [bne_self_eq_false, Bool.false_eq_true, if_false]
  exact wpAny_pure (q _ (fun b o n1 n2 z => (b2.2 b n1).trans ((b1.2 b n2).trans z)) ⟨_, a2⟩)
theorem zip_keys (ks : Array Value) (xs : List Value) : (ks.zip xs.toArray).toList = ks.toList.zip xs := by simp
/-- what the pairs of lengths and texts come to -/
theorem len_out {xs ks : List Value} (hS : ∀ v ∈ xs, ∃ x t, v = Value.str x t) (hk : ks.map iv = xs.map fun v => ((sv v).length : Int)) {l : List Keyed} (h1 : Srtd (lt2 ltIv) l) (h2 : Stb (lt2 ltIv) l (ks.zip xs)) : Srtd ltLen (l.map (·.2)) ∧ Stb ltLen (l.map (·.2)) xs := by
  have hl : ks.length = xs.length := by
    have := congrArg List.length hk
    rw [List.length_map, List.length_map] at this
    exact this
  have pair : ∀ p ∈ ks.zip xs, iv p.1 = ((sv p.2).length : Int) := by
    intro p hp
    obtain ⟨i, hi, rfl⟩ := List.mem_iff_getElem.mp hp
    rw [List.length_zip] at hi
    have := congrArg (·[i]?) hk
    simp only [List.getElem?_map] at this
    rw [List.getElem?_eq_getElem (by omega), List.getElem?_eq_getElem (by omega)] at this
    rw [List.getElem_zip]
    injection this
  have pl : ∀ p ∈ l, iv p.1 = ((sv p.2).length : Int) := fun p hp => pair p (h2.perm.mem_iff.mp hp)
  have lt_eq : ∀ p q : Keyed, iv p.1 = ((sv p.2).length : Int) → iv q.1 = ((sv q.2).length : Int) → lt2 ltIv p q = ltLen p.2 q.2 := by
    intro p q e1 e2
    show decide (iv p.1 < iv q.1) = decide _
    rw [e1, e2]
    exact decide_eq_decide.mpr (by omega)
  refine ⟨?_, ?_, fun v => ?_⟩
  · show (l.map (·.2)).Pairwise _
    rw [List.pairwise_map]
    refine List.Pairwise.imp_of_mem (fun {p q} hp hq h => ?_) h1
    rw [← lt_eq q p (pl q hq) (pl p hp)]
    exact h
  · have := h2.perm.map (·.2)
    rw [List.map_snd_zip (by omega)] at this
    exact this
  · have c := congrArg (List.map (·.2)) (h2.cls ((.int ((sv v).length : Int) 0, v) : Keyed))
    have key : ∀ m : List Keyed, (∀ p ∈ m, iv p.1 = ((sv p.2).length : Int)) → (m.filter (eqv (lt2 ltIv) ((.int ((sv v).length : Int) 0, v) : Keyed))).map (·.2) = (m.map (·.2)).filter (eqv ltLen v) := by
      intro m hm
      rw [List.filter_map]
      congr 1
      refine List.filter_congr fun p hp => ?_
      show eqv (lt2 ltIv) _ p = eqv ltLen v p.2
      unfold eqv
      rw [lt_eq _ p rfl (hm p hp), lt_eq p _ (hm p hp) rfl]
    rw [key l pl, key _ pair, List.map_snd_zip (by omega)] at c
    exact c
theorem len_end {ss : List Str} (hS : StrsAre vs ss) (hk : s.heap.get? kS = some (seqObj "list" keys e)) (ha : s.heap.get? a = some (seqObj "list" #[] e1)) (ne : kS ≠ a) (zv : vs.length ≤ sizeLine) (hi : IntsAre keys.toList (vs.map fun v => ((sv v).length : Int)))
    (q : ∀ h' (out : List Value), (∀ b o, b ≠ a → b ≠ kS → s.heap.get? b = some o → h'.get? b = some o) → (∃ c, h'.get? a = some (seqObj "list" out.toArray c)) → Srtd ltLen out → Stb ltLen out vs → R (.done (.ret .none)) { s with heap := h' }) :
    wpAny (model prog w) A (ksk_end a false vs.toArray e1 (.ref kS) keys) R E s := by
  have hl : keys.size = vs.length := by
    have := hi.length
    rw [Array.length_toList, List.length_map] at this
    exact this
  have hkz : (keys.zip vs.toArray).toList = keys.toList.zip vs := zip_keys _ _
  have zz : (keys.zip vs.toArray).size = vs.length := by rw [Array.size_zip, hl, List.size_toArray, Nat.min_self]
  have fin : ∀ st' : SortSt, Srtd (lt2 ltIv) (arrOf st').toList → Stb (lt2 ltIv) (arrOf st').toList (keys.zip vs.toArray).toList → failedOf st' = none → wpAny (model prog w) A (ksk_tail a false e1 (.ref kS) st') R E s := by
    intro st' h1 h2 h3
    have hz : (arrOf st').size = vs.length := by
      have := h2.perm.length_eq
      rw [Array.length_toList, Array.length_toList, zz] at this
      exact this
    rw [hkz] at h2
    obtain ⟨k1, k2⟩ := len_out (fun v hv => hS.all v hv) (iv_ints hi) h1 h2
    refine len_tail hk ha ne (by rw [hl]; exact zv) (by rw [hz]; exact zv) h3 fun h' kp ⟨c, hc⟩ => ?_
    refine q h' ((arrOf st').toList.map (·.2)) kp ⟨c, ?_⟩ k1 k2
    rw [hc]
    congr 2
    apply Array.ext'
    simp
  unfold ksk_end
  dsimp only
  rw [if_neg Bool.false_ne_true]
  by_cases h2 : vs.toArray.size < 2
  · rw [if_pos h2, if_pos h2]
    refine wpAny_bind (wpAny_pure ?_)
    rw [StateT.run_pure]
    refine wpAny_bind (wpAny_pure ?_)
    refine fin (SortSt.mk' general' (keys.zip vs.toArray) #[] 7 none) ?_ (Stb.refl _) rfl
    show Srtd (lt2 ltIv) (keys.zip vs.toArray).toList
    have hlen : (keys.zip vs.toArray).toList.length < 2 := by
      rw [Array.length_toList, zz]
      rw [List.size_toArray] at h2
      exact h2
    match (keys.zip vs.toArray).toList, hlen with
    | [], _ => exact List.Pairwise.nil
    | [v], _ => exact List.pairwise_singleton _ _
    | _ :: _ :: l, h => exact absurd h (by simp)
  · rw [if_neg h2, if_neg h2]
    rw [List.size_toArray] at h2
    rw [ksk_kind hi (by rw [hl]; omega)]
    refine wpAny_bind (wpAny_pure ?_)
    have all : AllL (fun p : Keyed => p.1 ∈ keys.toList) (keys.zip vs.toArray).toList := fun p hm => by
      rw [hkz] at hm
      obtain ⟨x, y⟩ := p
      exact (List.of_mem_zip hm).1
    refine wpAny_bind (wpAny_mono (wpS_sortO (st0 := SortSt.mk' oneType' (keys.zip vs.toArray) #[] 7 none)
      (Q := fun _ st' => Srtd (lt2 ltIv) (arrOf st').toList ∧ Stb (lt2 ltIv) (arrOf st').toList (keys.zip vs.toArray).toList ∧ failedOf st' = none) (swo2 swo_int) (int_cmp hi) rfl all rfl rfl fun st' c1 c2 c3 => ⟨c1, c2, c3⟩) ?_ fun _ _ z => z)
    rintro ⟨⟨⟩, st'⟩ s' ⟨rfl, c1, c2, c3⟩
    exact fin st' c1 c2 c3
theorem ints_app {n : Int} {t : Tok} : ∀ {xs : List Value} {ns : List Int}, IntsAre xs ns → IntsAre (xs ++ [.int n t]) (ns ++ [n])
  | _, _, .nil => .cons n t .nil
  | _, _, .cons m u r => .cons m u (ints_app r)
/-- the lengths are taken one by one -/
theorem len_rest {ss : List Str} (hS : StrsAre vs ss) (hz : ∀ v ∈ vs, (sv v).length ≤ 1000000) (hk : s.heap.get? kS = some (seqObj "list" #[] e)) (ha : s.heap.get? a = some (seqObj "list" #[] e1)) (ne : kS ≠ a) (zv : vs.length ≤ sizeLine)
    (q : ∀ h' tk (out : List Value), (∀ b o, b ≠ a → b ≠ kS → s.heap.get? b = some o → h'.get? b = some o) → (∃ c, h'.get? a = some (seqObj "list" out.toArray c)) → Srtd ltLen out → Stb ltLen out vs → R (.done (.ret .none)) { s with heap := h', toks := tk }) :
    wpAny (model prog w) A (ksk_rest a (.builtin "len") false vs.toArray e1 (.ref kS)) R E s := by
  unfold ksk_rest
  refine wpAny_bind (wpAny_rule ?_)
  rw [List.forIn_toArray]
  refine wpAny_bind (ksk_fold (fun i s' => ∃ h' tk kA c, s' = { s with heap := h', toks := tk } ∧ (∀ b o, b ≠ a → b ≠ kS → s.heap.get? b = some o → h'.get? b = some o) ∧ h'.get? kS = some (seqObj "list" kA c) ∧ h'.get? a = some (seqObj "list" #[] e1) ∧ IntsAre kA.toList ((vs.map fun v => ((sv v).length : Int)).take i)) vs 0 s
    ⟨s.heap, s.toks, #[], e, rfl, fun _ _ _ _ z => z, hk, ha, by simpa using IntsAre.nil⟩ ?step ?done)
  case step =>
    rintro j x s' hx ⟨h', tk, kA, c, rfl, kp, k1, a1, hi⟩
    simp only [Nat.zero_add] at hi ⊢
    have hj : j < vs.length := (List.getElem?_eq_some_iff.mp hx).1
    have hm : x ∈ vs := List.mem_of_getElem? hx
    obtain ⟨y, t, rfl⟩ := hS.all _ hm
    have ly : (y.length : Int) = ((sv (.str y t)).length : Int) := by
      show (y.cps.size : Int) = (y.cps.toList.length : Int)
      rw [Array.length_toList]
    have lz : y.length ≤ 1000000 := by
      have := hz _ hm
      omega
    have zk : kA.size ≤ vs.length := by
      have := hi.length
      rw [Array.length_toList, List.length_take, List.length_map] at this
      omega
    refine wpAny_bind (wpAny_attempt (PySem.P.len_str (by omega) ?_))
    dsimp only
    have b1 := Heap.SameBut.update h' kS (Obj.mapSeq (·.push (.int y.length (tk + 1))))
    have k2 := get?_update_seq k1 (·.push (Value.int y.length (tk + 1)))
    refine wpAny_bind (listUpdate_at k1 rfl ?_ (Nat.le_trans zk zv) (Nat.le_trans (Nat.le_of_eq (Array.size_push ..)) (Nat.succ_le_succ (Nat.le_trans zk zv))))
    refine wpAny_pure ⟨rfl, _, _, kA.push (.int y.length (tk + 1)), _, rfl, fun b o n1 n2 z => (b1.2 b n2).trans (kp b o n1 n2 z), k2, (b1.2 a ne.symm).trans a1, ?_⟩
    have ek : (vs.map fun v => ((sv v).length : Int)).take (j + 1) = (vs.map fun v => ((sv v).length : Int)).take j ++ [(y.length : Int)] := by
      rw [List.take_add_one, List.getElem?_map, hx, ly]
      rfl
    rw [ek, Array.toList_push]
    exact ints_app hi
  case done =>
    rintro s' ⟨h', tk, kA, c, rfl, kp, k1, a1, hi⟩
    have ek : (vs.map fun v => ((sv v).length : Int)).take (0 + vs.length) = vs.map fun v => ((sv v).length : Int) := List.take_of_length_le (by rw [List.length_map]; omega)
    rw [ek] at hi
    refine wpAny_bind (listItems_at k1 rfl ?_)
    exact len_end hS k1 a1 ne zv hi fun h2 out kp2 ho r1 r2 => q h2 tk out (fun b o n1 n2 z => kp2 b o n1 n2 (kp b o n1 n2 z)) ho r1 r2
theorem len_sort {ss : List Str} {n : Nat} (hS : StrsAre vs ss) (hz : ∀ v ∈ vs, (sv v).length ≤ 1000000) (ho : s.heap.get? a = some (seqObj "list" vs.toArray n)) (zv : vs.length ≤ sizeLine)
    (q : ∀ h' tk (out : List Value), (∀ b o, b ≠ a → s.heap.get? b = some o → h'.get? b = some o) → (∃ c, h'.get? a = some (seqObj "list" out.toArray c)) → Srtd ltLen out → Stb ltLen out vs → R (.done (.ret .none)) { s with heap := h', toks := tk }) :
    wpAny (model prog w) A (ksk_tree a (.builtin "len") false) R E s := by
  have la : a < s.heap.objs.size := Heap.lt_size ho
  have b1 := Heap.SameBut.update s.heap a (Obj.mapSeq fun _ => (#[] : Array Value))
  have a1 := get?_update_seq ho fun _ => (#[] : Array Value)
  have hk : ((s.heap.update a (Obj.mapSeq fun _ => (#[] : Array Value))).push (seqObj "tuple" vs.toArray 0)).objs.size = s.heap.objs.size + 1 := by rw [size_push', Heap.size_update]
  unfold ksk_tree
  refine wpAny_bind (listItems_at ho rfl ?_)
  refine wpAny_bind (listUpdate_at ho rfl ?_ (by rw [List.size_toArray]; exact zv) (Nat.zero_le _))
  refine wpAny_bind (seqEpoch_at a1 rfl ?_)
  refine wpAny_bind (wpAny_newTuple ?_ (by show vs.length ≤ _; exact zv))
  refine wpAny_bind (wpAny_newList ?_ (Nat.zero_le _))
  refine wpAny_holding ?_
  have more : ∀ b o, b ≠ a → s.heap.get? b = some o → (((s.heap.update a (Obj.mapSeq fun _ => (#[] : Array Value))).push (seqObj "tuple" vs.toArray 0)).push (seqObj "list" #[] 0)).get? b = some o := fun b o nb z => Heap.get?_push_of_some _ (Heap.get?_push_of_some _ ((b1.2 b nb).trans z))
  refine len_rest (s := { s with heap := ((s.heap.update a (Obj.mapSeq fun _ => (#[] : Array Value))).push (seqObj "tuple" vs.toArray 0)).push (seqObj "list" #[] 0) }) (kS := ((s.heap.update a (Obj.mapSeq fun _ => (#[] : Array Value))).push (seqObj "tuple" vs.toArray 0)).objs.size) (e := 0) hS hz
    (Heap.get?_push_size _ rfl) (Heap.get?_push_of_some _ (Heap.get?_push_of_some _ a1)) (by rw [hk]; exact Nat.ne_of_gt (Nat.lt_succ_of_lt la)) zv fun h' tk out kp ho' r1 r2 => ?_
  refine q h' tk out (fun b o nb z => ?_) ho' r1 r2
  have lb : b < s.heap.objs.size := Heap.lt_size z
  exact kp b o nb (by rw [hk]; exact Nat.ne_of_lt (Nat.lt_succ_of_lt lb)) (more b o nb z)
/-- sorted(l, key=len) -/
theorem len_sorted {ss : List Str} {l : Addr} {Q : Value → Shared → Prop} (hS : StrsAre vs ss) (hz : ∀ v ∈ vs, (sv v).length ≤ 1000000) (hl : s.heap.IsList l vs.toArray) (zv : vs.length ≤ sizeLine)
    (q : ∀ h' tk (out : List Value), (∀ b o, s.heap.get? b = some o → h'.get? b = some o) → (∃ c, h'.get? (s.heap.objs.size + 1) = some (seqObj "list" out.toArray c)) → Srtd ltLen out → Stb ltLen out vs → Q (.ref (s.heap.objs.size + 1)) { s with heap := h', toks := tk }) :
    wpAny (model prog w) A (call (.builtin "sorted") [.ref l] [(Str.ofString "key", .builtin "len")]) Q E s := by
  refine call_function_entry_kw kind_sorted plain_sorted entry_sorted (ksk_s1 _ _) ?_
  unfold Builtin.«sorted»
  refine wpAny_bind (m := checkCount "sorted" 1 1 _) (wpAny_pure ?_)
  refine wpAny_bind (collect_list hl ?_ zv)
  refine wpAny_bind (wpAny_newList ?_ zv)
  have zs : ((s.heap.push (seqObj "list" #[] 0)).update s.heap.objs.size (Obj.mapSeq (· ++ vs.toArray))).objs.size = s.heap.objs.size + 1 := by rw [Heap.size_update, size_push']
  have hL : (((s.heap.push (seqObj "list" #[] 0)).update s.heap.objs.size (Obj.mapSeq (· ++ vs.toArray))).push (seqObj "list" vs.toArray 0)).get? (s.heap.objs.size + 1) = some (seqObj "list" vs.toArray 0) := by
    rw [← zs]
    exact Heap.get?_push_size _ rfl
  have kp : ∀ b o, s.heap.get? b = some o → b ≠ s.heap.objs.size + 1 ∧ (((s.heap.push (seqObj "list" #[] 0)).update s.heap.objs.size (Obj.mapSeq (· ++ vs.toArray))).push (seqObj "list" vs.toArray 0)).get? b = some o := fun b o z => by
    have lb : b < s.heap.objs.size := Heap.lt_size z
    refine ⟨Nat.ne_of_lt (Nat.lt_succ_of_lt lb), Heap.get?_push_of_some _ ?_⟩
    rw [Heap.get?_update_ne _ _ _ _ (Nat.ne_of_lt lb)]
    exact Heap.get?_push_of_some _ z
  show wpAny _ _ _ _ _ { s with heap := ((s.heap.push (seqObj "list" #[] 0)).update s.heap.objs.size (Obj.mapSeq (· ++ vs.toArray))).push (seqObj "list" vs.toArray 0) }
  rw [zs]
  refine wpAny_bind (wpAny_holding (wpAny_call_entry_kw slot_list_sort ⟨_, hL, rfl⟩ entry_list_sort ?body (ksk_l1 _ _)))
  case body =>
    show wpAny (model prog w) A.in1.in1 (Builtin.«list.sort» ⟨[.ref (s.heap.objs.size + 1)], [(Str.ofString "key", .builtin "len")]⟩) _ _ _
    rw [ksk_t4]
    refine len_sort (s := { s with heap := ((s.heap.push (seqObj "list" #[] 0)).update s.heap.objs.size (Obj.mapSeq (· ++ vs.toArray))).push (seqObj "list" vs.toArray 0) }) hS hz hL zv fun h' tk out kp2 ho r1 r2 => ⟨_, rfl, ?_⟩
    exact wpAny_pure ⟨_, rfl, q h' tk out (fun b o z => kp2 b o (kp b o z).1 (kp b o z).2) ho r1 r2⟩
end
end Cw
set_option Elab.async false
set_option linter.all false
set_option maxRecDepth 100000
set_option maxHeartbeats 4000000
/-! the expression sorted(xs, key=len) -/
namespace Cw
open PySem PySem.Spec L2
def rSortedL (K : PySem.W.Frag) : List V → Hp → VK → Prop := fun vs H Q => ∃ (a : Addr) (ls : List (List Nat)), vs = [V.ref a] ∧ SqL K H a (ls.map fun l => V.str (tx l)) ∧ (∀ l ∈ ls, l.length ≤ 1000000) ∧
  ∀ (ls' : List (List Nat)) (p : Addr), ls'.Perm ls → ls'.Pairwise (fun a b => a.length ≤ b.length) → (∀ n, (ls'.filter fun l => decide (l.length = n)) = ls.filter fun l => decide (l.length = n)) → H p = none → Q (.ref p) (upd H p (.lst (ls'.map fun l => V.str (tx l))))
def tSortL (K : PySem.W.Frag) (t : TA) : TE := fun σ H Q => t σ H fun vs H1 => rSortedL K vs H1 Q
theorem e_sortL {K : PySem.W.Frag} {t : TA} {σ : St} {H : Hp} {Q : VK} (q : t σ H fun vs H1 => rSortedL K vs H1 Q) : tSortL K t σ H Q := q
theorem pe_sortL {X : Cx} {K : PySem.W.Frag} {p pos p2 kp : PySem.Pos} {e : Expr} {t : TA} (h : X.K = K) (hg : Gl X "sorted") (hm : X.mg "sorted" = none) (hgl : Gl X "len") (hml : X.mg "len" = none) (ha : PA X [e] t)
    (he : backTo pos (starEach [e] X.env) = (false, eval e X.env) :: backTo pos (starEach [] X.env) := by rfl) (hpl : (backTo pos (starEach [e] X.env)).any (·.1) = false := by rfl) :
    PE X (.Call (.Name "sorted" p) [e] [⟨some "key", .Name "len" p2, kp⟩] pos) (tSortL K t) := by
  subst h
  refine ⟨fun pins s σ H Q I hq => ?_⟩
  refine wpAny_Call_Name_kw (ld_blt I hg hm (u := .builtin "sorted") (by decide +kernel) ?_ (by decide) (by decide))
  refine PyProof.Rows.callWith_kw (thn (ha.run pos pins s σ H _ I hq) fun us s1 ⟨vs, H1, I1, r1, q1⟩ => ?_) he hpl rfl rfl
  show wpAny _ _ (evalAll ((do let v ← eval (.Name "len" p2) X.env; standAt pos; pure v) :: (backToKw pos (keywordEach [] X.env)).map (·.2))) _ _ s1
  refine PySem.wpAny_evalAll_cons (wpAny_bind (ld_blt I1 hgl hml (u := .builtin "len") (by decide +kernel) ?_ (by decide) (by decide)))
  refine wpAny_bind (wpAny_standAt (wpAny_pure ?_))
  refine PySem.wpAny_evalAll_nil ?_
  obtain ⟨a, ls, rfl, hs, lz, q⟩ := q1
  rw [map_tx] at hs
  obtain ⟨its, rv, hl, hz⟩ := I1.list hs
  obtain rfl := Vals.ref1 r1
  have hi := rv.strs
  have zi : its.length ≤ sizeLine := by
    rw [← rv.length]
    exact hz
  have svl : its.map sv = ls := sv_str hi
  show wpAny _ _ (call (.builtin "sorted") [.ref a] [(Str.ofString "key", .builtin "len")]) _ _ s1
  refine len_sorted hi (fun v hv => lz _ (by rw [← svl]; exact List.mem_map.mpr ⟨v, hv, rfl⟩)) hl.isList zi fun h' tk out kp ho r1 r2 => ?_
  have all := fun v hv => hi.all v (r2.perm.mem_iff.mp hv)
  have k1 : PyProof.Rows.StrsAre out ((out.map sv).map tx) := str_sv all
  have k2 : (out.map sv).Perm ls := by
    have := r2.perm.map sv
    rw [svl] at this
    exact this
  have k3 : (out.map sv).Pairwise (fun a b => a.length ≤ b.length) := List.pairwise_map.mpr (r1.imp fun {x y} h => by
    have := of_decide_eq_false (p := (sv y).length < (sv x).length) h
    omega)
  have k4 : ∀ n, ((out.map sv).filter fun l => decide (l.length = n)) = ls.filter fun l => decide (l.length = n) := by
    intro n
    have c := congrArg (List.map sv) (r2.cls (.str (tx (List.replicate n 0)) 0))
    have key : ∀ m : List Value, (m.filter (SrtO.eqv ltLen (.str (tx (List.replicate n 0)) 0))).map sv = (m.map sv).filter fun l => decide (l.length = n) := by
      intro m
      rw [List.filter_map]
      congr 1
      refine List.filter_congr fun v _ => ?_
      show SrtO.eqv ltLen _ v = decide ((sv v).length = n)
      unfold SrtO.eqv ltLen
      have e0 : (sv (.str (tx (List.replicate n 0)) 0)).length = n := by
        show (List.replicate n 0).length = n
        rw [List.length_replicate]
      rw [e0, Bool.eq_iff_iff]
      simp only [Bool.and_eq_true, Bool.not_eq_true', decide_eq_false_iff_not, decide_eq_true_eq]
      omega
    rw [key, key, svl] at c
    exact c
  obtain ⟨ep, he'⟩ := ho
  have hlen : (((out.map sv).map tx).map V.str).length ≤ sizeLine := by
    rw [List.length_map, List.length_map, k2.length_eq, ← svl, List.length_map]
    exact zi
  have q := q _ (s1.heap.objs.size + 1) k2 k3 k4 (I1.hok.fresh (Nat.le_succ _))
  rw [map_tx] at q
  exact ⟨.ref _, upd H1 (s1.heap.objs.size + 1) (.lst (((out.map sv).map tx).map V.str)), I1.laid (t' := tk) kp (Nat.le_succ _) ⟨hlen, out, ep, vals_of_strs k1, he'⟩, rfl, q⟩
def rStrS : List V → Hp → VK → Prop := fun xs H Q => ∃ a, xs = [.str a] ∧ Q (.str a) H
theorem c_strS {X : Cx} : CallR X (.type "str") rStrS := SkE.call_str_str
theorem v_strS {H : Hp} {Q : VK} {a : Str} (q : Q (.str a) H) : rStrS [.str a] H Q := ⟨a, rfl, q⟩
theorem cr_sortedTK {X : Cx} {K : PySem.W.Frag} (h : X.K = K) : CallR X (.builtin "sorted") (rSortedS K) := h ▸ cr_sortedT
/-- texts by length, then by the alphabet -/
def shortLe (a b : List Nat) : Prop := a.length < b.length ∨ (a.length = b.length ∧ ¬ b < a)
theorem sorted_twice {l m n : List (List Nat)} (h1 : m.Perm l) (h2 : m.Pairwise fun a b => ¬ b < a) (h3 : n.Perm m) (h4 : n.Pairwise fun a b => a.length ≤ b.length) (h5 : ∀ k, (n.filter fun l => decide (l.length = k)) = m.filter fun l => decide (l.length = k)) : n.Perm l ∧ n.Pairwise shortLe := by
  refine ⟨h3.trans h1, ?_⟩
  rw [List.pairwise_iff_getElem] at h4 ⊢
  intro i j hi hj hij
  have hl := h4 i j hi hj hij
  by_cases c : n[i].length = n[j].length
  · right
    refine ⟨c, ?_⟩
    have hp : (n.filter fun l => decide (l.length = n[j].length)).Pairwise fun a b => ¬ b < a := by
      rw [h5]
      exact h2.filter _
    have e : n = n.take i ++ (n[i] :: (n.drop (i + 1)).take (j - i - 1) ++ n[j] :: n.drop (j + 1)) := by
      have e1 : n.drop (i + 1) = (n.drop (i + 1)).take (j - i - 1) ++ n[j] :: n.drop (j + 1) := by
        have := List.take_append_drop (j - i - 1) (n.drop (i + 1))
        rw [List.drop_drop, show i + 1 + (j - i - 1) = j by omega] at this
        rw [← List.drop_eq_getElem_cons hj]
        exact this.symm
      rw [List.cons_append, ← e1, ← List.drop_eq_getElem_cons hi, List.take_append_drop]
    generalize hx : n[i] = x at *
    generalize hy : n[j] = y at *
    rw [e, List.filter_append, List.filter_append] at hp
    have hp := (List.pairwise_append.mp hp).2.1
    have px : decide (x.length = y.length) = true := decide_eq_true c
    have py : decide (y.length = y.length) = true := decide_eq_true rfl
    rw [List.filter_cons_of_pos (by simpa using c), List.filter_cons_of_pos (by simp)] at hp
    exact (List.pairwise_append.mp hp).2.2 x (List.mem_cons_self ..) y (List.mem_cons_self ..)
  · left
    omega
end Cw
set_option Elab.async false
set_option linter.all false
set_option maxRecDepth 100000
set_option maxHeartbeats 4000000
/-! the first two walls that do not cross -/
namespace Cw
open PySem PySem.Spec L2
section
variable {P : List Nat → List Nat → Prop} [∀ a b, Decidable (P a b)] {l1 l2 : List (List Nat)}
end
/-- two walls, told by room and kind, do not cross -/
def apartK (f : Nat → List Nat) (ls : List Nat) (a b : List Nat) : Prop := prodV f ls (markK f a) (markK f b) ≠ 0
instance (f : Nat → List Nat) (ls : List Nat) (a b : List Nat) : Decidable (apartK f ls a b) := inferInstanceAs (Decidable (_ ≠ _))
section
variable {f : Nat → List Nat} {ls : List Nat}
theorem KeyOk.w2 (hn : ls.Nodup) (ok : CrOk f) {m n : List Nat} {k j : Nat} (h1 : KeyOk f ls m k) (h2 : KeyOk f ls n j) : W2 f ls m k n j := ⟨hn, ok, h1.hk, h2.hk, h1.nf, h2.nf, h1.mem, h2.mem, ⟨h1.nf.red, h1.td, h1.fr⟩, ⟨h2.nf.red, h2.td, h2.fr⟩⟩
theorem apart_iff (hn : ls.Nodup) (ok : CrOk f) {m n : List Nat} {k j : Nat} (h1 : KeyOk f ls m k) (h2 : KeyOk f ls n j) : apartK f ls (m ++ [k]) (n ++ [j]) ↔ ¬ crossP f m k n j := by
  have w := h1.w2 hn ok h2
  unfold apartK crossP
  rw [markK_app, markK_app, w.prod]
  exact not_congr w.crosses
theorem prodV_smul (e e' : Int) (a b : Nat → Int) : prodV f ls (fun x => e * a x) (fun x => e' * b x) = e * (e' * prodV f ls a b) := by
  have sm : ∀ (c : Int) (g : Nat → Int) (l : List Nat), sumL l (fun x => c * g x) = c * sumL l g := fun c g l => by
    have := sumL_comb c 0 g g l
    rw [show (fun x => c * g x + 0 * g x) = fun x => c * g x from by funext x; omega] at this
    rw [this]
    omega
  unfold prodV
  rw [← sm, ← sm]
  refine congrArg (sumL ls) (funext fun x => ?_)
  rw [show (fun y => e' * b y * bt f y x) = fun y => e' * (b y * bt f y x) from by funext y; rw [Int.mul_assoc], sm]
  rw [Int.mul_assoc, ← Int.mul_assoc (a x), Int.mul_comm (a x) e', Int.mul_assoc e']
/-- the walls of two ways from one room all cross just if the letters do -/
theorem keys_cross (hn : ls.Nodup) (ok : CrOk f) {M u v : List Nat} (mM : ∀ y ∈ M, y ∈ ls) (mu : ∀ y ∈ u, y ∈ ls) (mv : ∀ y ∈ v, y ∈ ls) : (∀ a ∈ keyI f M u u.length, ∀ b ∈ keyI f M v v.length, ¬ apartK f ls a b) ↔ ∀ a ∈ u, ∀ b ∈ v, a ∈ f b := by
  rw [← all_cross hn ok mM mu mv]
  have key : ∀ i j, apartK f ls (startC f (nameOf f (M ++ u.take i)) (u.getD i 0) ++ [u.getD i 0]) (startC f (nameOf f (M ++ v.take j)) (v.getD j 0) ++ [v.getD j 0]) ↔ prodV f ls (mark f (M ++ u.take i).reverse (u.getD i 0)) (mark f (M ++ v.take j).reverse (v.getD j 0)) ≠ 0 := fun i j => by
    unfold apartK
    rw [markK_app, markK_app]
    obtain ⟨e, he, h1⟩ := start_sgn ok (M ++ u.take i) (u.getD i 0)
    obtain ⟨e', he', h2⟩ := start_sgn ok (M ++ v.take j) (v.getD j 0)
    have a1 : mark f (startC f (nameOf f (M ++ u.take i)) (u.getD i 0)).reverse (u.getD i 0) = fun x => e * mark f (M ++ u.take i).reverse (u.getD i 0) x := funext fun x => h1 (unit x)
    have a2 : mark f (startC f (nameOf f (M ++ v.take j)) (v.getD j 0)).reverse (v.getD j 0) = fun x => e' * mark f (M ++ v.take j).reverse (v.getD j 0) x := funext fun x => h2 (unit x)
    rw [a1, a2, prodV_smul]
    generalize prodV f ls (mark f (M ++ u.take i).reverse (u.getD i 0)) (mark f (M ++ v.take j).reverse (v.getD j 0)) = p
    rcases he with rfl | rfl <;> rcases he' with rfl | rfl <;> omega
  unfold keyI
  constructor
  · intro h i hi j hj
    have := h _ (List.mem_map.mpr ⟨i, List.mem_range.mpr hi, rfl⟩) _ (List.mem_map.mpr ⟨j, List.mem_range.mpr hj, rfl⟩)
    rw [key i j] at this
    exact Decidable.not_not.mp this
  · intro h a ha b hb
    obtain ⟨i, hi, rfl⟩ := List.mem_map.mp ha
    obtain ⟨j, hj, rfl⟩ := List.mem_map.mp hb
    rw [key i j]
    exact fun z => z (h i (List.mem_range.mp hi) j (List.mem_range.mp hj))
end
end Cw
set_option Elab.async false
set_option linter.all false
set_option maxRecDepth 100000
set_option maxHeartbeats 4000000
/-! xs != ys of lists: their lengths differ, or they hold the same objects -/
namespace Cw
open PySem PySem.Spec L2
end Cw
set_option Elab.async false
set_option linter.all false
set_option maxRecDepth 100000
set_option maxHeartbeats 4000000
/-! [e for i, x in enumerate(list)] -/
namespace Cw
open PySem PySem.Spec L2
section
variable {K : PySem.W.Frag} {σ : L2.St} {H : Hp} {i j : Nat} {tt : TT} {te : TE} {P : Addr → Hp → Prop} {a : Addr}
end
end Cw
set_option Elab.async false
set_option linter.all false
set_option maxRecDepth 100000
set_option maxHeartbeats 4000000
/-! enumerate(tuple) -/
namespace PySem
open Sem (wp)
open AutoSeq1 (wpAny_loadPart')
section
variable {prog : Program} {w : World} {A : Around} {E : Value → Shared → Prop} {s : Shared}
end
end PySem
namespace Cw
open PySem PySem.Spec L2
end Cw
set_option Elab.async false
set_option linter.all false
set_option maxRecDepth 100000
set_option maxHeartbeats 4000000
/-! an own exception over ValueError whose __init__ calls super().__init__(..) -/
namespace Cw
open PySem PySem.Spec L2
section
variable {X : Cx} {pins : List (Addr × Obj)} {σ : L2.St} {H : Hp} {s : Shared} {C a f cda cc : Addr}
/-- what the written part says of the def -/
structure SupC (P : Program) (K : PySem.W.Frag) (C f cda cc : Addr) (fd : FuncData) (sf : Str) : Prop where
  fn : ∃ oc od osl, K.lookup f = some ⟨oc, od, .func fd, osl⟩
  par : ∃ ar, (fd.params.posonlyargs ++ fd.params.args).head? = some ar ∧ ar.arg = sf
  code : ∃ ccl cdd vs ccs file tf, K.lookup cda = some ⟨ccl, cdd, .fields vs, ccs⟩ ∧ vs[2]? = some (.str file tf) ∧ ((P.main.file : Str) == file) = true
  top : (P.main.scope.names.lookup ("super" : Str)).isSome = false
  cell : ∃ cl cld csl, K.lookup cc = some ⟨cl, cld, .cell (some (.ref C)), csl⟩
  op : PySem.W.nsIn K PySem.cStatics "thirdparty.any" = some none
  up : PySem.W.ks_superIn K C C "__init__" = some (some (.builtin "ValueError.__init__"))
end
section
variable {CX : CXT} {P : Program} {w : World} {K : PySem.W.Frag} {mg : Str → Option Value} {base : Heap} {k : Nat} {C f cc : Addr} {N ps : List Str} {sp : Sp}
end
end Cw
set_option Elab.async false
set_option linter.all false
set_option maxRecDepth 100000
set_option maxHeartbeats 4000000
/-! own exceptions with fields: made, raised -/
namespace Cw
open PySem PySem.Spec L2
/-- what the top has left of such a class; st: its __init__ -/
structure ExcE (P : Program) (K : PySem.W.Frag) (mg : Str → Option Value) (x : Str) (B : Addr) (qual : Str) (st : Stmt) : Prop where
  «at» : mg x = some (.ref B)
  oex : OexC K B
  xf : XfC K B
  ec : ExcC K B
  init : ∃ (f cda cc : Addr) (fd : FuncData) (kV doc pm : Value) (an : Option Addr) (ct : Value), PySem.W.findIn K (.ref B) "__init__" = some (some (.ref f)) ∧ PySem.W.typeIn K (.ref f) = some (.type "function") ∧
    fd = PySem.W.fnX "__init__" qual (defArgs st) (defBody st) (defScope st) [(("__class__" : Str), cc)] .none kV doc pm an (.ref cda) ct ∧ PySem.W.codeIn K (.ref cda) qual = true ∧ SupC P K B f cda cc fd "self"
/-- its __init__: g tells the fields of the arguments -/
def spE (B : Addr) (n : Nat) (g : List V → List (Str × V)) : Sp := fun vs H Q _ => ∃ (a : Addr) (ws : List V), vs = .ref a :: ws ∧ ws.length = n ∧ H a = some (exo a B none) ∧
  ∀ d H', H d = none → d ≠ a → H' a = some (exo a B (some d)) → H' d = some (exd d (g ws)) → (∀ b, b ≠ a → b ≠ d → H' b = H b) → Q .non H'
structure XDef (P : Program) (w : World) (K : PySem.W.Frag) (mg : Str → Option Value) (base : Heap) (k : Nat) (x : Str) (B : Addr) (n : Nat) (g : List V → List (Str × V)) : Prop where
  «at» : mg x = some (.ref B)
  oex : OexC K B
  ex : ∃ (f : Addr) (fd : FuncData) (ps : List Str), PySem.W.findIn K (.ref B) "__init__" = some (some (.ref f)) ∧ PySem.W.typeIn K (.ref f) = some (.type "function") ∧ Binds K fd ps [] ∧ FnOk P w K mg base CX0 k f fd ps (spE B n g)
theorem XDef.mono {P : Program} {w : World} {K : PySem.W.Frag} {mg : Str → Option Value} {base : Heap} {j k : Nat} {x : Str} {B : Addr} {n : Nat} {g : List V → List (Str × V)} (D : XDef P w K mg base j x B n g) (h : j ≤ k) : XDef P w K mg base k x B n g := by
  obtain ⟨f, fd, ps, a, b, c, d⟩ := D.ex
  exact ⟨D.at, D.oex, f, fd, ps, a, b, c, d.mono h⟩
section
variable {X : Cx} {k n : Nat} {x : Str} {B : Addr} {g : List V → List (Str × V)} {e : Expr} {es : List Expr} {ta : TA} {p pos : PySem.Pos}
end
section
variable {P : Program} {w : World} {K : PySem.W.Frag} {mg : Str → Option Value} {base : Heap} {k : Nat} {x qual : Str} {B : Addr} {st : Stmt}
end
end Cw
set_option Elab.async false
set_option linter.all false
set_option maxRecDepth 100000
set_option maxHeartbeats 4000000
/-! in the suite: an own exception with fields -/
namespace Cw
open PySem PySem.Spec L2
end Cw
set_option Elab.async false
set_option linter.all false
set_option maxRecDepth 100000
set_option maxHeartbeats 4000000
/-! several except clauses that name what they caught -/
namespace Cw
open PySem PySem.Spec PyProof.Rows L2
/-- a clause's ends: its name goes -/
def gone (i : Nat) (D : Ends) : Ends := { nx := fun σ' H' => D.nx (σ'.set i none) H', rt := D.rt, bk := fun σ' H' => D.bk (σ'.set i none) H', ct := fun σ' H' => D.ct (σ'.set i none) H' }
inductive HdsA (X : Cx) (n : Str) : List ExceptHandler → List (Value × (Addr → Value → Option Addr → TS)) → Prop
  | nil : HdsA X n [] []
  | cons {x : Str} {c : Value} {ts : Addr → Value → Option Addr → TS} {b₀ : Stmt} {suite : List Stmt} {np pos' : PySem.Pos} {hds : List ExceptHandler} {l : List (Value × (Addr → Value → Option Addr → TS))} (hc : Names X x c)
      (hsu : ∀ (a : Addr) (oe : Obj) (cls : Value) (d : Option Addr) (pn : List (Addr × Obj)), Zc cls d oe → (∃ vs, oe.data = .fields vs) → PSs (X.suite a ((a, oe) :: pn)) (b₀ :: suite) (ts a cls d)) (r : HdsA X n hds l) :
      HdsA X n (.ExceptHandler (some (.Name x np)) (some n) (b₀ :: suite) pos' :: hds) ((c, ts) :: l)
section
variable {X : Cx} {n : Str} {i : Nat} {body : List Stmt} {h₀ : ExceptHandler} {hds : List ExceptHandler} {l : List (Value × (Addr → Value → Option Addr → TS))} {pos : PySem.Pos} {tb : WX → TS} {Wout : WX}
end
end Cw
set_option Elab.async false
set_option linter.all false
set_option maxRecDepth 100000
set_option maxHeartbeats 4000000
/-! rooms that lie ahead of a room, their joins -/
namespace Cw
open PySem PySem.Spec L2
section
variable {f : Nat → List Nat} {ls : List Nat}
/-- two ways act alike -/
def Alike (f : Nat → List Nat) (v w : List Nat) : Prop := ∀ g, act f v g = act f w g
theorem Alike.refl (v : List Nat) : Alike f v v := fun _ => rfl
theorem Alike.symm {v w : List Nat} (h : Alike f v w) : Alike f w v := fun g => (h g).symm
theorem Alike.trans {u v w : List Nat} (h : Alike f u v) (h2 : Alike f v w) : Alike f u w := fun g => (h g).trans (h2 g)
theorem Alike.app {u v u' v' : List Nat} (h : Alike f u u') (h2 : Alike f v v') : Alike f (u ++ v) (u' ++ v') := fun g => by rw [act_app, act_app, h2 g, h]
theorem Alike.cancel (ok : CrOk f) {a u v : List Nat} (h : Alike f (a ++ u) (a ++ v)) : Alike f u v := fun g => by
  have e := h g
  rw [act_app, act_app] at e
  have e2 := congrArg (act f a.reverse) e
  rwa [act_rev ok, act_rev ok] at e2
theorem Alike.red (ok : CrOk f) {v w : List Nat} (h : Alike f v w) (mw : ∀ y ∈ w, y ∈ ls) (rw' : Red f w) (l : v.length = w.length) : Red f v := by
  refine red_of_len ok ?_
  rw [name_eq ok h, red_len ok mw rw', l]
theorem Alike.len (ok : CrOk f) {v w : List Nat} (h : Alike f v w) (mv : ∀ y ∈ v, y ∈ ls) (mw : ∀ y ∈ w, y ∈ ls) (rv : Red f v) (rw' : Red f w) : v.length = w.length := by
  rw [← red_len ok mv rv, ← red_len ok mw rw', name_eq ok h]
theorem Alike.desc (ok : CrOk f) {v w : List Nat} {s : Nat} (h : Alike f v w) (mv : ∀ y ∈ v, y ∈ ls) (mw : ∀ y ∈ w, y ∈ ls) (rv : Red f v) (rw' : Red f w) (hs : s ∈ ls) : desc f s v ↔ desc f s w :=
  (ng_desc ok rv mv hs).symm.trans ((ng_act h s).trans (ng_desc ok rw' mw hs))
theorem desc_cut {s : Nat} {q : List Nat} : ∀ {p : List Nat}, desc f s (p ++ q) → desc f s p ∨ ((∀ y ∈ p, y ∈ f s) ∧ desc f s q)
  | [], h => .inr ⟨fun _ z => (nomatch z), h⟩
  | y :: p, h => by
    rcases h with h | ⟨h1, h2⟩
    · exact .inl (.inl h)
    · rcases desc_cut (p := p) h2 with z | ⟨z1, z2⟩
      · exact .inl (.inr ⟨h1, z⟩)
      · exact .inr ⟨fun t ht => (List.mem_cons.mp ht).elim (fun e => e ▸ h1) (z1 t), z2⟩
/-- a lies on a shortest way to c -/
def Pre (f : Nat → List Nat) (ls a c : List Nat) : Prop := ∃ v, (∀ t ∈ v, t ∈ ls) ∧ Red f (a ++ v) ∧ Alike f (a ++ v) c
theorem Pre.trans (ok : CrOk f) {a b c : List Nat} (ma : ∀ t ∈ a, t ∈ ls) (mb : ∀ t ∈ b, t ∈ ls) (rb : Red f b) (h : Pre f ls a b) (h2 : Pre f ls b c) : Pre f ls a c := by
  obtain ⟨v, mv, rv, ev⟩ := h
  obtain ⟨w, mw, rw', ew⟩ := h2
  have e : Alike f (a ++ (v ++ w)) (b ++ w) := by
    rw [← List.append_assoc]
    exact ev.app (.refl w)
  have l := ev.len ok (fun t ht => (List.mem_append.mp ht).elim (ma t) (mv t)) mb rv rb
  refine ⟨v ++ w, fun t ht => (List.mem_append.mp ht).elim (mv t) (mw t), e.red ok (fun t ht => (List.mem_append.mp ht).elim (mb t) (mw t)) rw' ?_, e.trans ew⟩
  rw [List.length_append] at l
  simp only [List.length_append]
  omega
end
end Cw
set_option Elab.async false
set_option linter.all false
set_option maxRecDepth 100000
set_option maxHeartbeats 4000000
/-! the room at the corner of walls that cross -/
namespace Cw
open PySem PySem.Spec L2
/-- the join of a row of rooms, one after the other -/
inductive JoinAll (fn : Nat → List Nat) (ls : List Nat) : List Nat → List (List Nat) → List Nat → Prop
  | nil (n : List Nat) : JoinAll fn ls n [] n
  | cons {n g fd u v m : List Nat} {gs : List (List Nat)} : Share fn ls n g fd u v → (∀ t ∈ ls, ¬ (desc fn t u ∧ desc fn t v)) → JoinAll fn ls (joinC fn n (wayC fn fd g)) gs m → JoinAll fn ls n (g :: gs) m
section
variable {f : Nat → List Nat} {ls : List Nat}
theorem Pre.self (a : List Nat) (ra : Red f a) : Pre f ls a a := ⟨[], (fun _ z => nomatch z), by rw [List.append_nil]; exact ra, by rw [List.append_nil]; exact .refl a⟩
theorem Alike.rev (ok : CrOk f) {v w : List Nat} (h : Alike f v w) : Alike f v.reverse w.reverse := fun g => act_rev_eq ok h g
/-- what is taken off behind -/
theorem split_back (ok : CrOk f) (w free : List Nat) : ∃ e, (∀ t ∈ e, t ∈ free) ∧ (∀ t ∈ e, t ∈ w) ∧ Alike f ((splitA f free w.reverse).2.reverse ++ e) w ∧ (splitA f free w.reverse).2.length + e.length = w.length := by
  refine ⟨(splitA f free w.reverse).1.reverse, fun t ht => splitA_in f _ _ t (List.mem_reverse.mp ht), fun t ht => List.mem_reverse.mp (splitA_mem1 f _ _ t (List.mem_reverse.mp ht)), ?_, ?_⟩
  · have h : Alike f ((splitA f free w.reverse).1 ++ (splitA f free w.reverse).2) w.reverse := fun g => splitA_act ok g _ _
    have h2 := h.rev ok
    rw [List.reverse_append, List.reverse_reverse] at h2
    exact h2
  · have := splitA_len f w.reverse free
    rw [List.length_reverse] at *
    omega
theorem start_split16 (ok : CrOk f) {w : List Nat} {k : Nat} (h : ¬ desc f k w.reverse) : ∃ e, (∀ t ∈ e, t ∈ f k) ∧ (∀ t ∈ e, t ∈ w) ∧ Alike f (startC f w k ++ e) w ∧ (startC f w k).length + e.length = w.length := by
  have e1 : nearC f w k = w := if_neg h
  obtain ⟨e, a1, a2, a3, a4⟩ := split_back ok w (f k)
  refine ⟨e, a1, a2, ?_, ?_⟩
  · unfold startC
    rw [e1]
    exact a3
  · unfold startC
    rw [e1, List.length_reverse]
    exact a4
/-- letters along a wall leave the wall -/
theorem wall_along (hn : ls.Nodup) (ok : CrOk f) {k : Nat} (hk : k ∈ ls) : ∀ (e w : List Nat), (∀ t ∈ w, t ∈ ls) → (∀ t ∈ e, t ∈ ls ∧ (t = k ∨ t ∈ f k)) → startC f (nameOf f (w ++ e)) k = startC f (nameOf f w) k
  | [], w, _, _ => by rw [List.append_nil]
  | t :: e, w, mw, me => by
    obtain ⟨h1, h2⟩ := me t (List.mem_cons_self ..)
    have q : w ++ t :: e = (w ++ [t]) ++ e := by simp
    rw [q, wall_along hn ok hk e (w ++ [t]) (fun y hy => (List.mem_append.mp hy).elim (mw y) fun z => List.mem_singleton.mp z ▸ h1) fun y hy => me y (List.mem_cons_of_mem _ hy)]
    exact near_step hn ok mw hk h1 h2
/-- the kinds that cross all others of a group -/
def Along (f : Nat → List Nat) (G : List Nat) (d : Nat) : Prop := ∀ g ∈ G, g = d ∨ d ∈ f g
/-- a group of kinds that all cross, and a room that is the nearest one along it -/
structure Grp (f : Nat → List Nat) (ls G mm : List Nat) : Prop where
  nd : G.Nodup
  mG : ∀ g ∈ G, g ∈ ls
  cr : ∀ g ∈ G, ∀ h ∈ G, g ≠ h → g ∈ f h
  nf : NF f mm
  mem : ∀ t ∈ mm, t ∈ ls
  least : ∀ d ∈ ls, Along f G d → ¬ desc f d mm.reverse
section
variable {G mm : List Nat}
theorem Grp.along (h : Grp f ls G mm) {g : Nat} (hg : g ∈ G) : Along f G g := fun k hk => by
  by_cases e : k = g
  · exact .inl e
  · exact .inr (h.cr g hg k hk fun z => e z.symm)
theorem Grp.side (h : Grp f ls G mm) (ok : CrOk f) {k t : Nat} (hk : k ∈ G) (ht : t ∈ ls) (a : Along f G t) : t ∈ ls ∧ (t = k ∨ t ∈ f k) := ⟨ht, (a k hk).elim (fun z => .inl z.symm) .inr⟩
/-- the doors back of the room at the corner -/
theorem Grp.back (h : Grp f ls G mm) (ok : CrOk f) {d : Nat} (hd : d ∈ ls) (z : desc f d (mm ++ G).reverse) : d ∈ G ∨ ¬ Along f G d := by
  rw [List.reverse_append] at z
  rcases desc_cut z with z | ⟨z1, z2⟩
  · exact .inl (List.mem_reverse.mp (desc_mem z))
  · refine .inr fun a => h.least d hd a z2
theorem red_grp (ok : CrOk f) : ∀ (E mm : List Nat), E.Nodup → (∀ g ∈ E, ∀ k ∈ E, g ≠ k → g ∈ f k) → Red f mm.reverse → (∀ g ∈ E, ¬ desc f g mm.reverse) → Red f (E ++ mm.reverse)
  | [], _, _, _, r, _ => r
  | g :: E, mm, n, c, r, nd => by
    have n' := List.nodup_cons.mp n
    refine ⟨fun z => ?_, red_grp ok E mm n'.2 (fun a ha b hb => c a (List.mem_cons_of_mem _ ha) b (List.mem_cons_of_mem _ hb)) r fun a ha => nd a (List.mem_cons_of_mem _ ha)⟩
    refine nd g (List.mem_cons_self ..) ((desc_pass ok fun y hy => ?_).mp z)
    refine c y (List.mem_cons_of_mem _ hy) g (List.mem_cons_self ..) fun e => n'.1 (e ▸ hy)
theorem Grp.red (h : Grp f ls G mm) (ok : CrOk f) {E : List Nat} (hE : ∀ t ∈ E, t ∈ G) (nE : E.Nodup) : Red f (mm ++ E) := by
  have r : Red f (E.reverse ++ mm.reverse) := red_grp ok E.reverse mm (List.pairwise_reverse.mpr (List.Pairwise.imp (fun z => Ne.symm z) nE)) (fun g hg k hk => h.cr g (hE g (List.mem_reverse.mp hg)) k (hE k (List.mem_reverse.mp hk))) h.nf.red.rev fun g hg => h.least g (h.mG g (hE g (List.mem_reverse.mp hg))) (h.along (hE g (List.mem_reverse.mp hg)))
  have r2 := r.rev
  rwa [List.reverse_append, List.reverse_reverse, List.reverse_reverse] at r2
theorem Grp.wall (h : Grp f ls G mm) (hn : ls.Nodup) (ok : CrOk f) {k : Nat} (hk : k ∈ G) {E : List Nat} (hE : ∀ t ∈ E, t ∈ G) : startC f (nameOf f (mm ++ E)) k = startC f mm k := by
  rw [wall_along hn ok (h.mG k hk) E mm h.mem fun t ht => h.side ok hk (h.mG t (hE t ht)) (h.along (hE t ht)), show nameOf f mm = mm from (is_NF ok).mpr h.nf]
/-- what lies ahead of the room behind the corner, beyond each of the walls, is that room -/
theorem Grp.join (h : Grp f ls G mm) (hn : ls.Nodup) (ok : CrOk f) {n : List Nat} (nn : NF f n) (mn : ∀ t ∈ n, t ∈ ls) (p : Pre f ls n (mm ++ G)) (hg : ∀ k ∈ G, Pre f ls (startC f mm k ++ [k]) n) : Alike f n (mm ++ G) := by
  obtain ⟨x, mx, rx, ex⟩ := p
  rcases List.eq_nil_or_concat x with rfl | ⟨x', d, rfl⟩
  · rwa [List.append_nil] at ex
  rw [List.concat_eq_append] at *
  have hd : d ∈ ls := mx d (by simp)
  have mc : ∀ t ∈ mm ++ G, t ∈ ls := fun t ht => (List.mem_append.mp ht).elim (h.mem t) (h.mG t)
  have mnx : ∀ t ∈ n ++ (x' ++ [d]), t ∈ ls := fun t ht => (List.mem_append.mp ht).elim (mn t) (mx t)
  have rc := h.red ok (E := G) (fun _ z => z) h.nd
  have db : desc f d (mm ++ G).reverse := (Alike.desc ok (ex.rev ok) (fun t ht => mnx t (List.mem_reverse.mp ht)) (fun t ht => mc t (List.mem_reverse.mp ht)) rx.rev rc.rev hd).mp (by
    rw [← List.append_assoc, List.reverse_append]
    exact .inl rfl)
  have dG : d ∈ G := by
    rcases h.back ok hd db with z | z
    · exact z
    · exfalso
      rw [List.reverse_append] at db
      rcases desc_cut db with q | ⟨q1, q2⟩
      · exact z (h.along (List.mem_reverse.mp (desc_mem q)))
      · exact z fun g hg' => .inr (ok.sym _ _ (q1 g (List.mem_reverse.mpr hg')))
  exfalso
  have mn' : ∀ t ∈ n ++ x', t ∈ ls := fun t ht => (List.mem_append.mp ht).elim (mn t) fun z => mx t (List.mem_append_left _ z)
  have q0 : n ++ (x' ++ [d]) = (n ++ x') ++ [d] := by simp
  rw [q0] at rx ex
  have r' : Red f (n ++ x') := Red_left rx
  have w0 : startC f (nameOf f (n ++ x')) d = startC f mm d := by
    rw [← wall_thr hn ok hd mn', name_eq ok ex, h.wall hn ok dG fun _ z => z]
  have ds : ¬ desc f d (nameOf f (n ++ x')).reverse := fun z => by
    have a : Alike f (nameOf f (n ++ x')).reverse (n ++ x').reverse := Alike.rev ok fun g => name_act ok _ g
    have z2 := (a.desc ok (fun t ht => mn' t (name_mem (List.mem_reverse.mp ht))) (fun t ht => mn' t (List.mem_reverse.mp ht)) (name_NF ok _).red.rev r'.rev hd).mp z
    have r3 := rx.rev
    rw [List.reverse_append] at r3
    exact r3.1 z2
  obtain ⟨e, e1, e2, e3, e4⟩ := start_split16 ok ds
  rw [w0] at e3 e4
  obtain ⟨y, my, ry, ey⟩ := hg d dG
  have a1 : Alike f (startC f mm d ++ ([d] ++ (y ++ x'))) (n ++ x') := by
    have q : startC f mm d ++ ([d] ++ (y ++ x')) = (startC f mm d ++ [d] ++ y) ++ x' := by simp
    rw [q]
    exact ey.app (.refl x')
  have a2 : Alike f (startC f mm d ++ e) (n ++ x') := e3.trans fun g => name_act ok _ g
  have a3 : Alike f ([d] ++ (y ++ x')) e := Alike.cancel (a := startC f mm d) ok (a1.trans a2.symm)
  have ms : ∀ t ∈ startC f mm d, t ∈ ls := fun t ht => (start_mem ht).elim (fun z => z ▸ hd) (h.mem t)
  have me : ∀ t ∈ e, t ∈ ls := fun t ht => mn' t (name_mem (e2 t ht))
  have ln := red_len ok mn' r'
  have re : Red f e := Red_right (a2.red ok mn' r' (by rw [List.length_append, e4, ln]))
  have ly := ey.len ok (fun t ht => (List.mem_append.mp ht).elim (fun z => (List.mem_append.mp z).elim (ms t) fun q => List.mem_singleton.mp q ▸ hd) (my t)) mn ry nn.red
  have ry' : Red f (startC f mm d ++ ([d] ++ (y ++ x'))) := a1.red ok mn' r' (by simp only [List.length_append, List.length_singleton] at *; omega)
  have dm : desc f d e := (a3.desc ok (fun t ht => (List.mem_append.mp ht).elim (fun q => List.mem_singleton.mp q ▸ hd) fun z => (List.mem_append.mp z).elim (my t) fun q => mx t (List.mem_append_left _ q)) me (Red_right ry') re hd).mp (.inl rfl)
  exact ok.irr d (e1 d (desc_mem dm))
end
end
end Cw
set_option Elab.async false
set_option linter.all false
set_option maxRecDepth 100000
set_option maxHeartbeats 4000000
/-! what corner tells -/
namespace Cw
open PySem PySem.Spec L2
instance (f : Nat → List Nat) (G : List Nat) (d : Nat) : Decidable (Along f G d) := inferInstanceAs (Decidable (∀ g ∈ G, g = d ∨ d ∈ f g))
def crossK (fn : Nat → List Nat) (a b : List Nat × Nat) : Prop := crossP fn a.1 a.2 b.1 b.2
instance (fn : Nat → List Nat) (a b : List Nat × Nat) : Decidable (crossK fn a b) := inferInstanceAs (Decidable (crossP fn a.1 a.2 b.1 b.2))
/-- the room just beyond a wall -/
def goalK (fn : Nat → List Nat) (a : List Nat × Nat) : List Nat := stepOf (fn a.2) a.1 a.2
section
variable {f : Nat → List Nat} {ls : List Nat} {G mm : List Nat}
theorem Grp.key (h : Grp f ls G mm) (ok : CrOk f) {k : Nat} (hk : k ∈ G) : KeyOk f ls (startC f mm k) k :=
  ⟨start_NF ok h.nf k, fun y hy => (start_mem hy).elim (fun z => z ▸ h.mG k hk) (h.mem y), h.mG k hk, start_not ok h.nf k, start_free ok mm k⟩
theorem KeyOk.goal (ok : CrOk f) {m : List Nat} {k : Nat} (h : KeyOk f ls m k) : NF f (goalK f (m, k)) ∧ (∀ t ∈ goalK f (m, k), t ∈ ls) ∧ Alike f (goalK f (m, k)) (m ++ [k]) ∧ (goalK f (m, k)).length = m.length + 1 ∧ Red f (m ++ [k]) := by
  have l : (goalK f (m, k)).length = m.length + 1 := (step_len_desc ok m k).2 h.td
  refine ⟨NF_step ok h.nf, fun t ht => (stepOf_mem ht).elim (fun z => z ▸ h.hk) (h.mem t), fun g => act_step ok m k g, l, ?_⟩
  have r : Red f (k :: m.reverse) := ⟨h.td, h.nf.red.rev⟩
  have r2 := r.rev
  rwa [List.reverse_cons, List.reverse_reverse] at r2
theorem Pre.alike (ok : CrOk f) {a b c : List Nat} (h : Pre f ls a c) (e : Alike f b a) (ma : ∀ t ∈ a, t ∈ ls) (l : b.length = a.length) : Pre f ls b c := by
  obtain ⟨v, mv, rv, ev⟩ := h
  have e2 : Alike f (b ++ v) (a ++ v) := e.app (.refl v)
  exact ⟨v, mv, e2.red ok (fun t ht => (List.mem_append.mp ht).elim (ma t) (mv t)) rv (by simp only [List.length_append]; omega), e2.trans ev⟩
/-- the block's first room -/
theorem Grp.base (h : Grp f ls G mm) (hn : ls.Nodup) (ok : CrOk f) {n kinds : List Nat} (mn : ∀ t ∈ n, t ∈ ls) (nn : NF f n) (al : Alike f n (mm ++ G)) (hk : ∀ t, t ∈ kinds ↔ t ∈ G) :
    (∀ t ∈ (splitA f kinds n.reverse).2.reverse, t ∈ ls) ∧ (splitA f kinds n.reverse).2.reverse.length ≤ n.length ∧ (∀ k ∈ G, startC f (nameOf f (splitA f kinds n.reverse).2.reverse) k = startC f mm k) ∧ ∀ d ∈ ls, Along f G d → ¬ desc f d (nameOf f (splitA f kinds n.reverse).2.reverse).reverse := by
  obtain ⟨e, e1, e2, e3, e4⟩ := split_back ok n kinds
  have mb : ∀ t ∈ (splitA f kinds n.reverse).2.reverse, t ∈ ls := fun t ht => mn t (List.mem_reverse.mp (splitA_mem2 f _ _ t (List.mem_reverse.mp ht)))
  have nb : NF f (splitA f kinds n.reverse).2.reverse := by
    have h : NFr f n.reverse := nn
    show NFr f _
    rw [List.reverse_reverse]
    exact NFr_rest h
  have eb : nameOf f (splitA f kinds n.reverse).2.reverse = (splitA f kinds n.reverse).2.reverse := (is_NF ok).mpr nb
  have eG : ∀ t ∈ e, t ∈ G := fun t ht => (hk t).mp (e1 t ht)
  have mc : ∀ t ∈ mm ++ G, t ∈ ls := fun t ht => (List.mem_append.mp ht).elim (h.mem t) (h.mG t)
  have rc := h.red ok (E := G) (fun _ z => z) h.nd
  refine ⟨mb, by rw [List.length_reverse]; omega, fun k hk' => ?_, fun d hd a z => ?_⟩
  · have w := wall_along hn ok (h.mG k hk') e _ mb fun t ht => h.side ok hk' (h.mG t (eG t ht)) (h.along (eG t ht))
    rw [name_eq ok (e3.trans al), h.wall hn ok hk' fun _ z => z] at w
    exact w.symm
  · rw [eb, List.reverse_reverse] at z
    have dG : d ∉ G := fun q => splitA_desc ok _ _ d ((hk d).mpr q) z
    have c : ∀ t ∈ e.reverse, t ∈ f d := fun t ht => by
      have tG := eG t (List.mem_reverse.mp ht)
      exact ok.sym _ _ ((a t tG).resolve_left fun q => dG (q ▸ tG))
    have z2 : desc f d (e.reverse ++ (splitA f kinds n.reverse).2) := (desc_pass ok c).mpr z
    have al2 : Alike f (e.reverse ++ (splitA f kinds n.reverse).2) (mm ++ G).reverse := by
      have q := (e3.trans al).rev ok
      rwa [List.reverse_append, List.reverse_reverse] at q
    have me : ∀ t ∈ e.reverse ++ (splitA f kinds n.reverse).2, t ∈ ls := fun t ht => (List.mem_append.mp ht).elim (fun q => h.mG t (eG t (List.mem_reverse.mp q))) fun q => mb t (List.mem_reverse.mpr q)
    have ln := al.len ok mn mc nn.red rc
    have re : Red f (e.reverse ++ (splitA f kinds n.reverse).2) := al2.red ok (fun t ht => mc t (List.mem_reverse.mp ht)) rc.rev (by rw [List.length_append, List.length_reverse, List.length_reverse]; omega)
    rcases h.back ok hd ((al2.desc ok me (fun t ht => mc t (List.mem_reverse.mp ht)) re rc.rev hd).mp z2) with q | q
    · exact dG q
    · exact q a
/-- the walls of the group cross -/
theorem Grp.cross (h : Grp f ls G mm) (hn : ls.Nodup) (ok : CrOk f) {g k : Nat} (hg : g ∈ G) (hk : k ∈ G) (ne : g ≠ k) : crossK f (startC f mm g, g) (startC f mm k, k) := by
  have z := (keys_cross hn ok (M := mm) (u := [g]) (v := [k]) h.mem (fun y hy => List.mem_singleton.mp hy ▸ h.mG g hg) fun y hy => List.mem_singleton.mp hy ▸ h.mG k hk).mpr fun a ha b hb => by
    rw [List.mem_singleton.mp ha, List.mem_singleton.mp hb]
    exact h.cr g hg k hk ne
  have e : ∀ {j : Nat}, startC f mm j ++ [j] ∈ keyI f mm [j] [j].length := fun {j} => List.mem_map.mpr ⟨0, List.mem_range.mpr (by simp), by
    show startC f (nameOf f (mm ++ [])) j ++ [j] = _
    rw [List.append_nil, show nameOf f mm = mm from (is_NF ok).mpr h.nf]⟩
  have z2 := z _ (e (j := g)) _ (e (j := k))
  exact Classical.byContradiction fun c => z2 ((apart_iff hn ok (h.key ok hg) (h.key ok hk)).mpr c)
end
end Cw
set_option Elab.async false
set_option linter.all false
set_option maxRecDepth 100000
set_option maxHeartbeats 4000000
/-! a list comprehension within an except suite (the handled exception's context is None), its iterator a list's -/
namespace Cw
open PySem PySem.Spec PyProof.Rows L2 L2H HotX
section
variable {prog : Program} {w : World} {A : Around} {E : Value → Shared → Prop} {s : Shared}
end
/-- the handled exception among some pins -/
def HotP (X : Cx) (pins : List (Addr × Obj)) : Prop := ∃ p : Addr × Obj, Hot1 X.A p ∧ p ∈ pins
theorem HotP.at {X : Cx} {pins : List (Addr × Obj)} {σ : L2.St} {H : Hp} {s : Shared} (c : HotP X pins) (I : Inv X pins σ H s) : ∃ x1, HotAt X.A x1 s.heap := by
  obtain ⟨p, ⟨hh, v1, e1, c1⟩, hp⟩ := c
  exact ⟨p.1, hh, p.2, v1, (I.pin p (List.mem_append_right _ hp)).1, e1, c1⟩
structure TurnG (P : Program) (w : World) (K : PySem.W.Frag) (tg : Expr) (J : It) (fp : List Addr) (it : Addr) (tn : Nat → Heap → Prop) : Prop where
  mem : it ∈ fp
  obj : ∀ i h, tn i h → ∀ b ∈ fp, ∃ o, h.get? b = some o ∧ ∀ v, o.data ≠ .cell v
  keep : ∀ i h h', tn i h → (∀ b ∈ fp, ∀ o, h.get? b = some o → h'.get? b = some o) → tn i h'
  item : ∀ (X : Cx), X.prog = P → X.w = w → X.K = K → ∀ (i : Nat) (pins : List (Addr × Obj)) (s : Shared) (σ : L2.St) (H : Hp) (E : Value → Shared → Prop), HotP X pins → Inv X pins σ H s → (∀ b ∈ fp, FpOk X pins H b) → tn i s.heap → J.go i H →
    wpAny (model P w) X.A (pyNext (.ref it)) (fun r s1 => ∃ u, r = some u ∧
      wpAny (model P w) X.A (letOwnedTupleGo tg (.ref it) u) (fun _ s2 => ∃ x H', Inv X pins σ H' s2 ∧ RelV x u ∧ J.yld i H x H' ∧ tn (i + 1) s2.heap ∧ ∀ b ∈ fp, H' b = none) E s1) E s
  done : ∀ (X : Cx), X.prog = P → X.w = w → X.K = K → ∀ (i : Nat) (pins : List (Addr × Obj)) (s : Shared) (σ : L2.St) (H : Hp) (E : Value → Shared → Prop), HotP X pins → Inv X pins σ H s → (∀ b ∈ fp, FpOk X pins H b) → tn i s.heap → J.stop i H →
    wpAny (model P w) X.A (pyNext (.ref it)) (fun r s1 => r = none ∧ Inv X pins σ H s1) E s
  self : ∀ (A : Around) (i : Nat) (s : Shared) (Q : Value → Shared → Prop) (E : Value → Shared → Prop), tn i s.heap → Q (.ref it) s → wpAny (model P w) A (pyIter (.ref it)) Q E s
def PIEG (X : Cx) (pins : List (Addr × Obj)) (σ : L2.St) (tg : Expr) (R : It → Hp → Prop) (itv : Value) (s2 : Shared) : Prop :=
  ∃ (it : Addr) (fp : List Addr) (tn : Nat → Heap → Prop) (J : It) (H' : Hp), itv = .ref it ∧ Inv X pins σ H' s2 ∧ TurnG X.prog X.w X.K tg J fp it tn ∧ tn 0 s2.heap ∧ (∀ b ∈ fp, FpOk X pins H' b) ∧ R J H'
structure PIG (X : Cx) (tg iter : Expr) (wi : TI) : Prop where
  run : ∀ (pins : List (Addr × Obj)) (s : Shared) (σ : L2.St) (H : Hp) (R : It → Hp → Prop), Inv X pins σ H s → wi σ H R →
    wpAny (model X.prog X.w) X.A (eval iter X.env) (fun v s1 => wpAny (model X.prog X.w) X.A (pyIter v) (PIEG X pins σ tg R) X.xe s1) X.xe s
section
variable {X : Cx}
end
end Cw
set_option Elab.async false
set_option linter.all false
set_option maxRecDepth 100000
set_option maxHeartbeats 4000000
/-! own exceptions with fields whose context is None -/
namespace Cw
open PySem PySem.Spec PyProof.Rows L2
section
variable {X : Cx} {e : Expr} {es : List Expr} {ta : TA} {p pos : PySem.Pos}
end
section
variable {X : Cx} {k n : Nat} {x : Str} {B : Addr} {g : List V → List (Str × V)} {e : Expr} {es : List Expr} {ta : TA} {p pos : PySem.Pos}
end
section
variable {P : Program} {w : World} {K : PySem.W.Frag} {mg : Str → Option Value} {base : Heap} {k : Nat} {x : Str} {ps N : List Str} {sp : Sp} {st : Stmt}
end
end Cw
set_option Elab.async false
set_option linter.all false
set_option maxRecDepth 100000
set_option maxHeartbeats 4000000
/-! the way from one block of rooms to another -/
namespace Cw
section
variable {f : Nat → List Nat} {ls A B : List Nat} {k : Nat}
/-- a shortest way that no letter of A begins and no letter of B ends -/
structure Mn (f : Nat → List Nat) (A B w : List Nat) : Prop where
  red : Red f w
  hd : ∀ t ∈ A, ¬ desc f t w
  tl : ∀ t ∈ B, ¬ desc f t w.reverse
theorem red_ahead {w : List Nat} (rw : Red f w) (h : ∀ t ∈ A, ¬ desc f t w) : ∀ {a : List Nat}, Red f a → (∀ t ∈ a, t ∈ A) → Red f (a ++ w)
  | [], _, _ => rw
  | t :: a, ra, m => ⟨fun z => (desc_cut z).elim (fun z => ra.1 z) fun z => h t (m t (.head _)) z.2, red_ahead rw h ra.2 fun y hy => m y (.tail _ hy)⟩
theorem red_behind {w b : List Nat} (rw : Red f w) (h : ∀ t ∈ B, ¬ desc f t w.reverse) (rb : Red f b) (m : ∀ t ∈ b, t ∈ B) : Red f (w ++ b) := by
  have := (red_ahead (A := B) rw.rev h rb.rev (fun t ht => m t (List.mem_reverse.mp ht))).rev
  rwa [List.reverse_append, List.reverse_reverse, List.reverse_reverse] at this
theorem Mn.rev (ok : CrOk f) {w : List Nat} (h : Mn f A B w) : Mn f B A w.reverse := ⟨h.red.rev, h.tl, by rw [List.reverse_reverse]; exact h.hd⟩
theorem Mn.alike (ok : CrOk f) {w v : List Nat} (h : Mn f A B w) (e : Alike f v w) (rv : Red f v) (mw : ∀ y ∈ w, y ∈ ls) (mv : ∀ y ∈ v, y ∈ ls) (mA : ∀ y ∈ A, y ∈ ls) (mB : ∀ y ∈ B, y ∈ ls) : Mn f A B v where
  red := rv
  hd t ht z := h.hd t ht ((e.desc ok mv mw rv h.red (mA t ht)).mp z)
  tl t ht z := h.tl t ht (((e.rev ok).desc ok (fun y hy => mv y (List.mem_reverse.mp hy)) (fun y hy => mw y (List.mem_reverse.mp hy)) rv.rev h.red.rev (mB t ht)).mp z)
theorem pass_alike (ok : CrOk f) {w : List Nat} : ∀ {d : List Nat}, (∀ t ∈ d, ∀ y ∈ w, y ∈ f t) → Alike f (d ++ w) (w ++ d)
  | [], _ => by rw [List.append_nil]; exact .refl _
  | t :: d, h => fun g => by
    have e := pass_alike ok (d := d) (fun y hy => h y (.tail _ hy)) g
    show thr f t (act f (d ++ w) g) = _
    rw [e, act_app, act_app, ← act_comm ok (h t (.head _))]
    rfl
theorem Alike.back (ok : CrOk f) {a b c : List Nat} (h : Alike f (a ++ b) c) : Alike f b (a.reverse ++ c) := fun g => by
  rw [act_app, ← h g, act_app, act_rev ok]
theorem Alike.there (ok : CrOk f) (a b : List Nat) : Alike f (a ++ (a.reverse ++ b)) b := fun g => by
  rw [act_app, act_app, act_rev' ok]
theorem Alike.home (ok : CrOk f) (a b : List Nat) : Alike f (a.reverse ++ (a ++ b)) b := fun g => by
  rw [act_app, act_app, act_rev ok]
theorem Alike.out (ok : CrOk f) (a b : List Nat) : Alike f ((a ++ b) ++ b.reverse) a := fun g => by
  rw [act_app, act_app, act_rev' ok]
theorem name_alike (ok : CrOk f) (w : List Nat) : Alike f (nameOf f w) w := name_act ok w
theorem Alike.name (ok : CrOk f) {v w : List Nat} (h : Alike f v w) : nameOf f v = nameOf f w := name_eq ok h
theorem Alike.nf (ok : CrOk f) {v w : List Nat} (h : Alike f v w) (hv : NF f v) (hw : NF f w) : v = w := by
  have e := h.name ok
  rwa [show nameOf f v = v from (is_NF ok).mpr hv, show nameOf f w = w from (is_NF ok).mpr hw] at e
/-- such a way is the only one between two blocks -/
theorem mn_uniq (ok : CrOk f) {w w' : List Nat} (h : Mn f A B w) (h' : Mn f A B w') (mw : ∀ y ∈ w, y ∈ ls) (mw' : ∀ y ∈ w', y ∈ ls) (mA : ∀ y ∈ A, y ∈ ls) (mB : ∀ y ∈ B, y ∈ ls) :
    ∀ (a b : List Nat), Red f a → Red f b → (∀ t ∈ a, t ∈ A) → (∀ t ∈ b, t ∈ B) → Alike f (a ++ w) (w' ++ b) → Alike f w w' ∧ Alike f a b ∧ ∀ t ∈ a, t ∈ B ∧ ∀ y ∈ w', y ∈ f t
  | [], b, _, rb, _, hb, e => by
    cases hr : b.reverse with
    | nil =>
      have hb0 : b = [] := List.reverse_eq_nil_iff.mp hr
      subst hb0
      rw [List.append_nil] at e
      exact ⟨e, .refl _, fun _ z => nomatch z⟩
    | cons t r =>
      have htb : t ∈ b := List.mem_reverse.mp (hr ▸ List.mem_cons_self ..)
      have rr : Red f (w' ++ b) := red_behind h'.red h'.tl rb hb
      have d := ((e.rev ok).desc (s := t) ok (fun y hy => mw y (List.mem_reverse.mp hy)) (fun y hy => (List.mem_append.mp (List.mem_reverse.mp hy)).elim (mw' y) fun z => mB y (hb y z)) h.red.rev rr.rev (mB t (hb t htb))).mpr (by
        rw [List.reverse_append, hr]
        exact Or.inl rfl)
      exact absurd d (h.tl t (hb t htb))
  | t :: a, b, ra, rb, ha, hb, e => by
    have ht := ha t (.head _)
    have r1 : Red f ((t :: a) ++ w) := red_ahead h.red h.hd ra ha
    have r2 : Red f (w' ++ b) := red_behind h'.red h'.tl rb hb
    have d : desc f t (w' ++ b) := (e.desc ok (fun y hy => (List.mem_append.mp hy).elim (fun z => mA y (ha y z)) (mw y)) (fun y hy => (List.mem_append.mp hy).elim (mw' y) fun z => mB y (hb y z)) r1 r2 (mA t ht)).mp (Or.inl rfl)
    rcases desc_cut d with z | ⟨hc, hd⟩
    · exact absurd z (h'.hd t ht)
    have tb : t ∈ b := by
      obtain ⟨p, q, e1, _⟩ := desc_split hd
      rw [e1]
      exact List.mem_append_right _ (.head _)
    have e3 : Alike f ([t] ++ (a ++ w)) ([t] ++ (w' ++ b.erase t)) := fun g => by
      have z : act f ((t :: a) ++ w) g = _ := e g
      rw [show [t] ++ (a ++ w) = (t :: a) ++ w from rfl, z, act_app, ← erase_act ok hd g]
      show act f w' (thr f t (act f (b.erase t) g)) = thr f t (act f (w' ++ b.erase t) g)
      rw [act_app, act_comm ok hc]
    obtain ⟨c1, c2, c3⟩ := mn_uniq ok h h' mw mw' mA mB a (b.erase t) ra.2 (erase_red ok hd rb) (fun y hy => ha y (.tail _ hy)) (fun y hy => hb y (List.mem_of_mem_erase hy)) (e3.cancel ok)
    refine ⟨c1, fun g => ?_, fun y hy => ?_⟩
    · rw [← erase_act ok hd g]
      show thr f t (act f a g) = thr f t (act f (b.erase t) g)
      rw [c2 g]
    · rcases List.mem_cons.mp hy with rfl | z
      · exact ⟨hb _ tb, hc⟩
      · exact c3 y z
/-! ### words of kinds that all cross -/
def Cliq (f : Nat → List Nat) (A : List Nat) : Prop := ∀ a ∈ A, ∀ b ∈ A, a ≠ b → a ∈ f b
theorem perm_alike (ok : CrOk f) (cl : Cliq f A) {u v : List Nat} (h : u.Perm v) : (∀ t ∈ u, t ∈ A) → Alike f u v := by
  induction h with
  | nil => exact fun _ => .refl _
  | cons x h ih => exact fun m g => congrArg (thr f x) (ih (fun t ht => m t (.tail _ ht)) g)
  | swap x y l =>
    intro m g
    show thr f y (thr f x _) = thr f x (thr f y _)
    by_cases e : x = y
    · rw [e]
    · exact thr_comm ok (cl y (m y (.head _)) x (m x (.tail _ (.head _))) fun z => e z.symm)
  | trans h1 h2 ih1 ih2 => exact fun m => (ih1 m).trans (ih2 fun t ht => m t (h1.mem_iff.mpr ht))
theorem cliq_red : ∀ {u : List Nat}, u.Nodup → Red f u
  | [], _ => trivial
  | t :: u, h => ⟨fun z => by
    obtain ⟨p, q, e, _⟩ := desc_split z
    exact (List.nodup_cons.mp h).1 (e ▸ List.mem_append_right _ (.head _)), cliq_red (List.nodup_cons.mp h).2⟩
/-- the letters of A that stand an odd number of times in u -/
def canW (A u : List Nat) : List Nat := A.filter fun k => decide (u.count k % 2 = 1)
theorem can_alike (ok : CrOk f) (nA : A.Nodup) (cl : Cliq f A) : ∀ u : List Nat, (∀ t ∈ u, t ∈ A) → Alike f u (canW A u)
  | [], _ => by
    rw [show canW A [] = [] from List.filter_eq_nil_iff.mpr fun k _ => by simp]
    exact .refl _
  | t :: u, m => fun g => by
    have ih := can_alike ok nA cl u (fun y hy => m y (.tail _ hy)) g
    show thr f t (act f u g) = _
    rw [ih]
    obtain ⟨p, q, e⟩ := List.append_of_mem (m t (.head _))
    subst e
    have np : t ∉ p := fun z => by
      have := (List.nodup_append.mp nA).2.2 t z t (.head _)
      exact this rfl
    have nq : t ∉ q := (List.nodup_cons.mp (List.nodup_append.mp nA).2.1).1
    have same : ∀ {l : List Nat}, t ∉ l → canW l (t :: u) = canW l u := fun {l} hl => List.filter_congr fun k hk => by
      rw [List.count_cons_of_ne (fun z => by subst z; exact hl hk)]
    have cp : ∀ y ∈ canW p u, y ∈ f t := fun y hy => by
      have hy' := (List.mem_filter.mp hy).1
      exact cl y (List.mem_append_left _ hy') t (List.mem_append_right _ (.head _)) fun z => np (z ▸ hy')
    have ec : (t :: u).count t = u.count t + 1 := List.count_cons_self
    have s1 : ∀ v, canW (p ++ t :: q) v = canW p v ++ ((if v.count t % 2 = 1 then [t] else []) ++ canW q v) := fun v => by
      unfold canW
      rw [List.filter_append, List.filter_cons]
      by_cases z : v.count t % 2 = 1
      · rw [if_pos (by simpa using z), if_pos z]
        rfl
      · rw [if_neg (by simpa using z), if_neg z]
        rfl
    rw [s1 u, s1 (t :: u), same np, same nq, ec]
    by_cases z : u.count t % 2 = 1
    · rw [if_pos z, if_neg (by omega), act_app, ← act_comm ok cp]
      show act f (canW p u) (thr f t (thr f t (act f (canW q u) g))) = _
      rw [thr_thr ok]
      exact (act_app _ _ _).symm
    · rw [if_neg z, if_pos (by omega), List.nil_append, act_app, act_app, ← act_comm ok cp]
      rfl
theorem can_nodup (nA : A.Nodup) (u : List Nat) : (canW A u).Nodup := nA.sublist List.filter_sublist
theorem can_mem {u : List Nat} {t : Nat} : t ∈ canW A u ↔ t ∈ A ∧ u.count t % 2 = 1 := by
  unfold canW
  rw [List.mem_filter, decide_eq_true_iff]
/-- how far apart two rooms of the blocks are -/
theorem near_iff (ok : CrOk f) {w : List Nat} (h : Mn f A B w) (cA : Cliq f A) (cB : Cliq f B) {S T : List Nat} (nS : S.Nodup) (nT : T.Nodup) (mS : ∀ t ∈ S, t ∈ A) (mT : ∀ t ∈ T, t ∈ B) (mw : ∀ y ∈ w, y ∈ ls) (mA : ∀ y ∈ A, y ∈ ls) (mB : ∀ y ∈ B, y ∈ ls) :
    w.length ≤ (nameOf f (S.reverse ++ w ++ T)).length ∧ ((nameOf f (S.reverse ++ w ++ T)).length = w.length ↔ (∀ t, t ∈ S ↔ t ∈ T) ∧ ∀ t ∈ S, ∀ y ∈ w, y ∈ f t) := by
  classical
  let D : Nat → Bool := fun t => decide (t ∈ S ∧ t ∈ T ∧ ∀ y ∈ w, y ∈ f t)
  have hD : ∀ t, D t = true ↔ (t ∈ S ∧ t ∈ T ∧ ∀ y ∈ w, y ∈ f t) := fun t => decide_eq_true_iff
  have pS : S.reverse.Perm (S.filter (fun t => !D t) ++ S.filter D) := (List.reverse_perm S).trans ((List.filter_append_perm D S).symm.trans List.perm_append_comm)
  have pT : T.Perm (T.filter D ++ T.filter (fun t => !D t)) := (List.filter_append_perm D T).symm
  have pD : (S.filter D).Perm (T.filter D).reverse := by
    refine ((List.perm_ext_iff_of_nodup (nS.sublist List.filter_sublist) (nT.sublist List.filter_sublist)).mpr fun t => ?_).trans (List.reverse_perm _).symm
    rw [List.mem_filter, List.mem_filter]
    exact ⟨fun z => ⟨((hD t).mp z.2).2.1, z.2⟩, fun z => ⟨((hD t).mp z.2).1, z.2⟩⟩
  have mem1 : ∀ t ∈ S.reverse, t ∈ A := fun t ht => mS t (List.mem_reverse.mp ht)
  have a1 : Alike f S.reverse (S.filter (fun t => !D t) ++ S.filter D) := perm_alike ok cA pS mem1
  have a2 : Alike f T (T.filter D ++ T.filter (fun t => !D t)) := perm_alike ok cB pT mT
  have a3 : Alike f (S.filter D) (T.filter D).reverse := perm_alike ok cA pD fun t ht => mS t (List.mem_filter.mp ht).1
  have a4 : Alike f (S.filter D ++ w) (w ++ S.filter D) := pass_alike ok fun t ht => ((hD t).mp (List.mem_filter.mp ht).2).2.2
  have al : Alike f (S.reverse ++ w ++ T) (S.filter (fun t => !D t) ++ (w ++ T.filter fun t => !D t)) := fun g => by
    have z1 := fun g => a1 g
    have z4 := fun g => a4 g
    rw [act_app, act_app, a1, a2, act_app, act_app]
    have e : act f (S.filter D) (act f w (act f (T.filter D) (act f (T.filter fun t => !D t) g))) = act f w (act f (T.filter fun t => !D t) g) := by
      have := a4 (act f (T.filter D) (act f (T.filter fun t => !D t) g))
      rw [act_app, act_app] at this
      rw [this, a3, act_rev ok]
    rw [e, act_app, act_app]
  have r2 : Red f (w ++ T.filter fun t => !D t) := red_behind h.red h.tl (cliq_red (nT.sublist List.filter_sublist)) fun t ht => mT t (List.mem_filter.mp ht).1
  have r1 : ∀ S' : List Nat, S'.Nodup → (∀ t ∈ S', t ∈ S ∧ (!D t) = true) → Red f (S' ++ (w ++ T.filter fun t => !D t)) := by
    intro S'
    induction S' with
    | nil => exact fun _ _ => r2
    | cons t S' ih =>
      intro n m
      refine ⟨fun z => ?_, ih (List.nodup_cons.mp n).2 fun y hy => m y (.tail _ hy)⟩
      obtain ⟨m1, m2⟩ := m t (.head _)
      rcases desc_cut z with z | ⟨_, z⟩
      · obtain ⟨p, q, e, _⟩ := desc_split z
        exact (List.nodup_cons.mp n).1 (e ▸ List.mem_append_right _ (.head _))
      · rcases desc_cut z with z | ⟨hc, z⟩
        · exact h.hd t (mS t m1) z
        · obtain ⟨p, q, e, _⟩ := desc_split z
          have tt : t ∈ T.filter fun t => !D t := e ▸ List.mem_append_right _ (.head _)
          rw [(hD t).mpr ⟨m1, (List.mem_filter.mp tt).1, hc⟩] at m2
          cases m2
  have rr := r1 (S.filter fun t => !D t) (nS.sublist List.filter_sublist) fun t ht => List.mem_filter.mp ht
  have len : (nameOf f (S.reverse ++ w ++ T)).length = (S.filter fun t => !D t).length + (w.length + (T.filter fun t => !D t).length) := by
    rw [(al.name ok), ← List.length_append, ← List.length_append]
    refine Alike.len (ls := ls) ok (name_alike ok _) (fun y hy => ?_) (fun y hy => ?_) (name_NF ok _).red rr
    · rcases List.mem_append.mp (name_mem hy) with z | z
      · exact mA y (mS y (List.mem_filter.mp z).1)
      · exact (List.mem_append.mp z).elim (mw y) fun z => mB y (mT y (List.mem_filter.mp z).1)
    · rcases List.mem_append.mp hy with z | z
      · exact mA y (mS y (List.mem_filter.mp z).1)
      · exact (List.mem_append.mp z).elim (mw y) fun z => mB y (mT y (List.mem_filter.mp z).1)
  refine ⟨by omega, ⟨fun e => ?_, fun e => ?_⟩⟩
  · have e1 : S.filter (fun t => !D t) = [] := List.length_eq_zero_iff.mp (by omega)
    have e2 : T.filter (fun t => !D t) = [] := List.length_eq_zero_iff.mp (by omega)
    have d1 : ∀ t ∈ S, D t = true := fun t ht => by
      have := List.filter_eq_nil_iff.mp e1 t ht
      simpa using this
    have d2 : ∀ t ∈ T, D t = true := fun t ht => by
      have := List.filter_eq_nil_iff.mp e2 t ht
      simpa using this
    exact ⟨fun t => ⟨fun ht => ((hD t).mp (d1 t ht)).2.1, fun ht => ((hD t).mp (d2 t ht)).1⟩, fun t ht => ((hD t).mp (d1 t ht)).2.2⟩
  · have e1 : S.filter (fun t => !D t) = [] := List.filter_eq_nil_iff.mpr fun t ht => by
      rw [(hD t).mpr ⟨ht, (e.1 t).mp ht, e.2 t ht⟩]
      simp
    have e2 : T.filter (fun t => !D t) = [] := List.filter_eq_nil_iff.mpr fun t ht => by
      rw [(hD t).mpr ⟨(e.1 t).mpr ht, ht, e.2 t ((e.1 t).mpr ht)⟩]
      simp
    rw [len, e1, e2]
    simp
end
end Cw
set_option Elab.async false
set_option linter.all false
set_option maxRecDepth 100000
set_option maxHeartbeats 4000000
/-! bridges between blocks, what the law sees of them -/
namespace Cw
section
variable {f : Nat → List Nat} {ls A B D N M h t : List Nat} {k : Nat}
/-- the first room of the block at n -/
def baseC (f : Nat → List Nat) (A n : List Nat) : List Nat := (splitA f A n.reverse).2.reverse
theorem base_NF {n : List Nat} (hn : NF f n) : NF f (baseC f A n) := by
  unfold baseC NF
  rw [List.reverse_reverse]
  exact NFr_rest hn
theorem base_mem {n : List Nat} : ∀ y ∈ baseC f A n, y ∈ n := fun y hy => List.mem_reverse.mp (splitA_mem2 f _ _ y (List.mem_reverse.mp hy))
theorem base_free (ok : CrOk f) (A n : List Nat) : ∀ t ∈ A, ¬ desc f t (baseC f A n).reverse := fun t ht => by
  unfold baseC
  rw [List.reverse_reverse]
  exact splitA_desc ok _ _ t ht
theorem base_spec (ok : CrOk f) (A n : List Nat) : ∃ e, (∀ t ∈ e, t ∈ A) ∧ (∀ t ∈ e, t ∈ n) ∧ Alike f (baseC f A n ++ e) n ∧ (baseC f A n).length + e.length = n.length := by
  unfold baseC
  rw [List.length_reverse]
  exact split_back ok n A
theorem base_name (ok : CrOk f) {n : List Nat} (hn : NF f n) : nameOf f (baseC f A n) = baseC f A n := (is_NF ok).mpr (base_NF hn)
theorem base_iff (ok : CrOk f) {n m : List Nat} (hn : NF f n) (hm : NF f m) (mn : ∀ y ∈ n, y ∈ ls) (mm : ∀ y ∈ m, y ∈ ls) (mA : ∀ y ∈ A, y ∈ ls) : baseC f A n = baseC f A m ↔ ∃ e, (∀ t ∈ e, t ∈ A) ∧ Alike f n (m ++ e) := by
  obtain ⟨e1, h1, _, a1, _⟩ := base_spec ok A n
  obtain ⟨e2, h2, _, a2, _⟩ := base_spec ok A m
  constructor
  · intro e
    rw [e] at a1
    refine ⟨e2.reverse ++ e1, fun t ht => (List.mem_append.mp ht).elim (fun z => h2 t (List.mem_reverse.mp z)) (h1 t), fun g => ?_⟩
    rw [← a1 g, act_app, act_app, act_app, ← a2, act_app, act_rev' ok]
  · rintro ⟨e, he, al⟩
    have w1 : Mn f [] A (baseC f A n) := ⟨(base_NF hn).red, (fun _ z => nomatch z), base_free ok A n⟩
    have w2 : Mn f [] A (baseC f A m) := ⟨(base_NF hm).red, (fun _ z => nomatch z), base_free ok A m⟩
    refine Alike.nf ok ?_ (base_NF hn) (base_NF hm)
    refine (mn_uniq (ls := ls) ok w1 w2 (fun y hy => mn y (base_mem y hy)) (fun y hy => mm y (base_mem y hy)) (fun _ z => nomatch z) mA [] (nameOf f (e2 ++ (e ++ e1.reverse))) trivial (name_NF ok _).red (fun _ z => nomatch z) (fun y hy => ?_) fun g => ?_).1
    · rcases List.mem_append.mp (name_mem hy) with z | z
      · exact h2 y z
      · exact (List.mem_append.mp z).elim (he y) fun z => h1 y (List.mem_reverse.mp z)
    · rw [List.nil_append, act_app, name_act ok, act_app, act_app, ← act_app (baseC f A m), a2, ← act_app m, ← al, ← a1, act_app, act_rev' ok]
/-- a room of the one block and a room of the other one, as near as can be -/
structure Bri (f : Nat → List Nat) (ls A B N M h t : List Nat) : Prop where
  nh : NF f h
  nt : NF f t
  mh : ∀ y ∈ h, y ∈ ls
  mt : ∀ y ∈ t, y ∈ ls
  a : ∃ a, (∀ y ∈ a, y ∈ A) ∧ Alike f h (N ++ a)
  b : ∃ b, (∀ y ∈ b, y ∈ B) ∧ Alike f t (M ++ b)
  mn : Mn f A B (wayC f h t)
theorem way_alike (ok : CrOk f) (a b : List Nat) : Alike f (wayC f a b) (a.reverse ++ b) := name_act ok _
theorem way_in25 {a b : List Nat} (ma : ∀ y ∈ a, y ∈ ls) (mb : ∀ y ∈ b, y ∈ ls) : ∀ y ∈ wayC f a b, y ∈ ls := fun y hy => (List.mem_append.mp (name_mem hy)).elim (fun z => ma y (List.mem_reverse.mp z)) (mb y)
theorem bri_of (ok : CrOk f) (mN : ∀ y ∈ N, y ∈ ls) (mM : ∀ y ∈ M, y ∈ ls) (mA : ∀ y ∈ A, y ∈ ls) (mB : ∀ y ∈ B, y ∈ ls) (eh : h = nameOf f (N ++ (splitA f A (wayC f N M)).1)) (et : t = nameOf f (M ++ (splitA f B (wayC f M h)).1)) : Bri f ls A B N M h t := by
  have mu := way_in25 (f := f) mN mM
  have c1 := splitA_in f (wayC f N M) A
  have c2 := splitA_mem1 f (wayC f N M) A
  have c3 := splitA_mem2 f (wayC f N M) A
  have cl := splitA_len f (wayC f N M) A
  have ca := fun g => splitA_act ok g (wayC f N M) A
  have cd := splitA_desc ok (wayC f N M) A
  generalize (splitA f A (wayC f N M)).1 = c at *
  generalize (splitA f A (wayC f N M)).2 = r at *
  have al1 : Alike f (c ++ r) (wayC f N M) := ca
  have rr : Red f r := Red_right (Alike.red (ls := ls) ok al1 mu (name_NF ok _).red (by rw [List.length_append]; exact cl))
  have mr : ∀ y ∈ r, y ∈ ls := fun y hy => mu y (c3 y hy)
  have mh : ∀ y ∈ h, y ∈ ls := fun y hy => by
    rw [eh] at hy
    exact (List.mem_append.mp (name_mem hy)).elim (mN y) fun z => mA y (c1 y z)
  have ah : Alike f h (N ++ c) := by rw [eh]; exact name_act ok _
  have mu2 := way_in25 (f := f) mM mh
  have al2 : Alike f (wayC f M h) r.reverse := by
    refine (way_alike ok M h).trans fun g => ?_
    have z := (al1.trans (way_alike ok N M)).rev ok
    rw [act_app, ah, act_app]
    have z2 := z (act f c g)
    rw [List.reverse_append, act_app, act_rev ok, List.reverse_append, List.reverse_reverse, act_app] at z2
    exact z2.symm
  have d1 := splitA_in f (wayC f M h) B
  have d2 := splitA_mem1 f (wayC f M h) B
  have d3 := splitA_mem2 f (wayC f M h) B
  have dl := splitA_len f (wayC f M h) B
  have da := fun g => splitA_act ok g (wayC f M h) B
  have dd := splitA_desc ok (wayC f M h) B
  generalize (splitA f B (wayC f M h)).1 = c2' at *
  generalize (splitA f B (wayC f M h)).2 = r2 at *
  have al3 : Alike f (c2' ++ r2) (wayC f M h) := da
  have rr3 : Red f (c2' ++ r2) := Alike.red (ls := ls) ok al3 mu2 (name_NF ok _).red (by rw [List.length_append]; exact dl)
  have mr2 : ∀ y ∈ r2, y ∈ ls := fun y hy => mu2 y (d3 y hy)
  have mt : ∀ y ∈ t, y ∈ ls := fun y hy => by
    rw [et] at hy
    exact (List.mem_append.mp (name_mem hy)).elim (mM y) fun z => mB y (d1 y z)
  have at' : Alike f t (M ++ c2') := by rw [et]; exact name_act ok _
  have al4 : Alike f (wayC f h t) r2.reverse := by
    refine (way_alike ok h t).trans fun g => ?_
    have z := (al3.trans (way_alike ok M h)).rev ok
    rw [act_app, at', act_app]
    have z2 := z (act f c2' g)
    rw [List.reverse_append, act_app, act_rev ok, List.reverse_append, List.reverse_reverse, act_app] at z2
    exact z2.symm
  have m4 : Mn f A B r2.reverse := by
    refine ⟨(Red_right rr3).rev, fun s hs z => ?_, fun s hs => ?_⟩
    · refine cd s hs ?_
      have e := ((al3.trans al2).rev ok)
      rw [List.reverse_append, List.reverse_reverse] at e
      refine (e.desc (ls := ls) ok (fun y hy => ?_) mr ?_ rr (mA s hs)).mp (desc_left z)
      · exact (List.mem_append.mp hy).elim (fun z => mr2 y (List.mem_reverse.mp z)) fun z => mB y (d1 y (List.mem_reverse.mp z))
      · have := rr3.rev
        rwa [List.reverse_append] at this
    · rw [List.reverse_reverse]
      exact dd s hs
  refine ⟨by rw [eh]; exact name_NF ok _, by rw [et]; exact name_NF ok _, mh, mt, ⟨c, c1, ah⟩, ⟨c2', d1, at'⟩, ?_⟩
  exact m4.alike ok al4 (name_NF ok _).red (fun y hy => mr2 y (List.mem_reverse.mp hy)) (way_in25 mh mt) mA mB
theorem Bri.symm (ok : CrOk f) (mA : ∀ y ∈ A, y ∈ ls) (mB : ∀ y ∈ B, y ∈ ls) (x : Bri f ls A B N M h t) : Bri f ls B A M N t h where
  nh := x.nt
  nt := x.nh
  mh := x.mt
  mt := x.mh
  a := x.b
  b := x.a
  mn := by
    have m := way_in25 (f := f) x.mh x.mt
    refine (x.mn.rev ok).alike (ls := ls) ok ?_ (name_NF ok _).red (fun y hy => m y (List.mem_reverse.mp hy)) (way_in25 x.mt x.mh) mB mA
    rw [← way_rev ok h t]
    exact name_act ok _
theorem Bri.uniq (ok : CrOk f) (mA : ∀ y ∈ A, y ∈ ls) (mB : ∀ y ∈ B, y ∈ ls) {h' t' : List Nat} (x : Bri f ls A B N M h t) (y : Bri f ls A B N M h' t') :
    wayC f h t = wayC f h' t' ∧ ∃ e, (∀ s ∈ e, s ∈ A ∧ s ∈ B ∧ ∀ y ∈ wayC f h t, y ∈ f s) ∧ Alike f h (h' ++ e) ∧ Alike f t (t' ++ e) := by
  obtain ⟨a, ha, aa⟩ := x.a
  obtain ⟨b, hb, ab⟩ := x.b
  obtain ⟨a', ha', aa'⟩ := y.a
  obtain ⟨b', hb', ab'⟩ := y.b
  have e1 : ∀ g, act f (nameOf f (a'.reverse ++ a)) g = act f h'.reverse (act f h g) := fun g => by
    rw [name_act ok, act_app, aa, aa'.rev ok, List.reverse_append, act_app, act_app, act_rev ok]
  have e2 : ∀ g, act f (nameOf f (b'.reverse ++ b)) g = act f t'.reverse (act f t g) := fun g => by
    rw [name_act ok, act_app, ab, ab'.rev ok, List.reverse_append, act_app, act_app, act_rev ok]
  have mA' : ∀ s ∈ nameOf f (a'.reverse ++ a), s ∈ A := fun s hs => (List.mem_append.mp (name_mem hs)).elim (fun z => ha' s (List.mem_reverse.mp z)) (ha s)
  have mB' : ∀ s ∈ nameOf f (b'.reverse ++ b), s ∈ B := fun s hs => (List.mem_append.mp (name_mem hs)).elim (fun z => hb' s (List.mem_reverse.mp z)) (hb s)
  obtain ⟨u1, u2, u3⟩ := mn_uniq (ls := ls) ok x.mn y.mn (way_in25 x.mh x.mt) (way_in25 y.mh y.mt) mA mB _ _ (name_NF ok (a'.reverse ++ a)).red (name_NF ok (b'.reverse ++ b)).red mA' mB' fun g => by
    rw [act_app, e1, act_app, e2, way_alike ok h t, act_app, act_rev' ok, way_alike ok h' t', act_app, act_rev' ok]
  have ew : wayC f h t = wayC f h' t' := u1.nf ok (name_NF ok _) (name_NF ok _)
  refine ⟨ew, _, fun s hs => ⟨mA' s hs, (u3 s hs).1, by rw [ew]; exact (u3 s hs).2⟩, fun g => ?_, fun g => ?_⟩
  · rw [act_app, e1, act_rev' ok]
  · rw [act_app, u2, e2, act_rev' ok]
/-- what the law asks of the two rooms -/
theorem only_of (ok : CrOk f) {x y : List Nat} (e : Alike f x y) (my : ∀ c ∈ y, c ∈ A) : ∀ c ∈ nameOf f x, c ∈ A := fun c hc => by
  rw [e.name ok] at hc
  exact my c (name_mem hc)
structure BriR (f : Nat → List Nat) (A B D n1 n2 w s o : List Nat) : Prop where
  one : ∀ c ∈ nameOf f (n1.reverse ++ s), c ∈ A
  two : ∀ c ∈ nameOf f (n2.reverse ++ (s ++ w)), c ∈ B
  heads : ∀ c ∈ A, ¬ desc f c (nameOf f w.reverse).reverse
  tails : ∀ c ∈ B, ¬ desc f c (nameOf f w).reverse
  near1 : ∀ c ∈ D, ¬ desc f c (nameOf f s).reverse
  near2 : ∀ c ∈ D, ¬ desc f c (nameOf f o).reverse
  home : nameOf f (s.reverse ++ s) = []
  goal : ∀ c ∈ nameOf f (o.reverse ++ (s ++ w)), c ∈ D
theorem Bri.right (ok : CrOk f) (x : Bri f ls A B N M h t) (mA : ∀ y ∈ A, y ∈ ls) (mB : ∀ y ∈ B, y ∈ ls) (hD : ∀ t', t' ∈ D ↔ t' ∈ A ∧ t' ∈ B ∧ ∀ y ∈ wayC f h t, y ∈ f t') {n1 n2 : List Nat} (q1 : ∃ e, (∀ y ∈ e, y ∈ A) ∧ Alike f n1 (N ++ e)) (q2 : ∃ e, (∀ y ∈ e, y ∈ B) ∧ Alike f n2 (M ++ e)) :
    BriR f A B D n1 n2 (wayC f h t) (baseC f D h) (baseC f D t) := by
  obtain ⟨a, ha, aa⟩ := x.a
  obtain ⟨b, hb, ab⟩ := x.b
  obtain ⟨e1, he1, ae1⟩ := q1
  obtain ⟨e2, he2, ae2⟩ := q2
  obtain ⟨v, hv, _, av, _⟩ := base_spec ok D h
  obtain ⟨v2, hv2, _, av2, _⟩ := base_spec ok D t
  have mw := way_in25 (f := f) x.mh x.mt
  have hs : Alike f (baseC f D h) (h ++ v.reverse) := fun g => by rw [act_app, ← av, act_app, act_rev' ok]
  have ho : Alike f (baseC f D t) (t ++ v2.reverse) := fun g => by rw [act_app, ← av2, act_app, act_rev' ok]
  have hg : Alike f (baseC f D h ++ wayC f h t) (t ++ v.reverse) := fun g => by
    have z := pass_alike (w := wayC f h t) (d := v.reverse) ok (fun s hs y hy => ((hD s).mp (hv s (List.mem_reverse.mp hs))).2.2 y hy) g
    rw [act_app, act_app] at z
    rw [act_app, hs, act_app, z, way_alike ok h t, act_app, act_rev' ok, act_app]
  refine ⟨only_of ok (y := e1.reverse ++ (a ++ v.reverse)) (fun g => ?_) fun c hc => ?_, only_of ok (y := e2.reverse ++ (b ++ v.reverse)) (fun g => ?_) fun c hc => ?_, fun c hc z => ?_, fun c hc z => ?_, fun c hc => ?_, fun c hc => ?_, name_back ok _, only_of ok (y := v2 ++ v.reverse) (fun g => ?_) fun c hc => ?_⟩
  · rw [act_app, hs, act_app, aa, ae1.rev ok, List.reverse_append, act_app, act_app, act_rev ok, act_app, act_app]
  · rcases List.mem_append.mp hc with z | z
    · exact he1 c (List.mem_reverse.mp z)
    · exact (List.mem_append.mp z).elim (ha c) fun z => ((hD c).mp (hv c (List.mem_reverse.mp z))).1
  · rw [act_app, hg, act_app, ab, ae2.rev ok, List.reverse_append, act_app, act_app, act_rev ok, act_app, act_app]
  · rcases List.mem_append.mp hc with z | z
    · exact he2 c (List.mem_reverse.mp z)
    · exact (List.mem_append.mp z).elim (hb c) fun z => ((hD c).mp (hv c (List.mem_reverse.mp z))).2.1
  · refine x.mn.hd c hc ?_
    have e := ((name_alike ok (wayC f h t).reverse).rev ok)
    rw [List.reverse_reverse] at e
    exact (e.desc (ls := ls) ok (fun y hy => mw y (List.mem_reverse.mp (name_mem (List.mem_reverse.mp hy)))) mw (name_NF ok _).red.rev x.mn.red (mA c hc)).mp z
  · refine x.mn.tl c hc ?_
    rwa [show nameOf f (wayC f h t) = wayC f h t from name_name ok _] at z
  · rw [base_name ok x.nh]
    exact base_free ok D h c hc
  · rw [base_name ok x.nt]
    exact base_free ok D t c hc
  · rw [act_app, hg, act_app, ho.rev ok, List.reverse_append, List.reverse_reverse, act_app, act_rev ok, act_app]
  · exact (List.mem_append.mp hc).elim (hv2 c) fun z => hv c (List.mem_reverse.mp z)
/-! ### the rooms of both, listed -/
theorem cliq_desc (cl : Cliq f A) : ∀ {u : List Nat}, (∀ t ∈ u, t ∈ A) → ∀ {t : Nat}, t ∈ u → desc f t u
  | [], _, _, z => nomatch z
  | s :: u, m, t, z => by
    by_cases e : s = t
    · exact Or.inl e
    · refine Or.inr ⟨cl s (m s (.head _)) t (m t z) e, cliq_desc cl (fun y hy => m y (.tail _ hy)) ?_⟩
      rcases List.mem_cons.mp z with z | z
      · exact absurd z.symm e
      · exact z
theorem cliq_sub (ok : CrOk f) (cl : Cliq f A) (mA : ∀ y ∈ A, y ∈ ls) {S e : List Nat} (nS : S.Nodup) (mS : ∀ t ∈ S, t ∈ A) (me : ∀ t ∈ e, t ∈ ls) (al : Alike f S e) : ∀ t ∈ S, t ∈ e := fun t ht => by
  have d := ((al.trans (name_alike ok e).symm).desc (ls := ls) ok (fun y hy => mA y (mS y hy)) (fun y hy => me y (name_mem hy)) (cliq_red nS) (name_NF ok _).red (mA t (mS t ht))).mp (cliq_desc cl mS ht)
  obtain ⟨p, q, e1, _⟩ := desc_split d
  exact name_mem (f := f) (e1 ▸ List.mem_append_right _ (.head _))
/-- a room of each block, against the bridge -/
structure BriP (f : Nat → List Nat) (D h t w i p S T : List Nat) : Prop where
  le : w.length ≤ (nameOf f (i.reverse ++ p)).length
  near : (nameOf f (i.reverse ++ p)).length = w.length ↔ (∀ c ∈ S, c ∈ D) ∧ ∀ c, c ∈ S ↔ c ∈ T
  one : baseC f D i = baseC f D h ↔ ∀ c ∈ S, c ∈ D
  way : (∀ c ∈ S, c ∈ D) → (nameOf f (i ++ w) = p ↔ ∀ c, c ∈ S ↔ c ∈ T)
  two : (∀ c ∈ T, c ∈ D) → baseC f D p = baseC f D t
theorem Bri.pairs (ok : CrOk f) (x : Bri f ls A B N M h t) (mN : ∀ y ∈ N, y ∈ ls) (mM : ∀ y ∈ M, y ∈ ls) (mA : ∀ y ∈ A, y ∈ ls) (mB : ∀ y ∈ B, y ∈ ls) (nA : A.Nodup) (nB : B.Nodup) (cA : Cliq f A) (cB : Cliq f B) (hD : ∀ t', t' ∈ D ↔ t' ∈ A ∧ t' ∈ B ∧ ∀ y ∈ wayC f h t, y ∈ f t') :
    ∃ a b, ∀ S T : List Nat, (∀ c ∈ S, c ∈ A) → (∀ c ∈ T, c ∈ B) → BriP f D h t (wayC f h t) (nameOf f (N ++ S)) (nameOf f (M ++ T)) (canW A (a ++ S)) (canW B (b ++ T)) := by
  obtain ⟨a, ha, aa⟩ := x.a
  obtain ⟨b, hb, ab⟩ := x.b
  refine ⟨a.reverse, b.reverse, fun S T mS mT => ?_⟩
  have s1 := can_alike ok nA cA (a.reverse ++ S) fun c hc => (List.mem_append.mp hc).elim (fun z => ha c (List.mem_reverse.mp z)) (mS c)
  have t1 := can_alike ok nB cB (b.reverse ++ T) fun c hc => (List.mem_append.mp hc).elim (fun z => hb c (List.mem_reverse.mp z)) (mT c)
  have nS := can_nodup nA (a.reverse ++ S)
  have nT := can_nodup nB (b.reverse ++ T)
  have sA : ∀ c ∈ canW A (a.reverse ++ S), c ∈ A := fun c hc => (can_mem.mp hc).1
  have tB : ∀ c ∈ canW B (b.reverse ++ T), c ∈ B := fun c hc => (can_mem.mp hc).1
  have ai : Alike f (nameOf f (N ++ S)) (h ++ canW A (a.reverse ++ S)) := fun g => by
    rw [name_act ok, act_app, act_app, aa, ← s1, act_app, act_app, act_rev' ok]
  have ap : Alike f (nameOf f (M ++ T)) (t ++ canW B (b.reverse ++ T)) := fun g => by
    rw [name_act ok, act_app, act_app, ab, ← t1, act_app, act_app, act_rev' ok]
  generalize canW A (a.reverse ++ S) = S' at *
  generalize canW B (b.reverse ++ T) = T' at *
  have mi : ∀ y ∈ nameOf f (N ++ S), y ∈ ls := fun y hy => (List.mem_append.mp (name_mem hy)).elim (mN y) fun z => mA y (mS y z)
  have mp : ∀ y ∈ nameOf f (M ++ T), y ∈ ls := fun y hy => (List.mem_append.mp (name_mem hy)).elim (mM y) fun z => mB y (mT y z)
  have mw := way_in25 (f := f) x.mh x.mt
  have mD : ∀ y ∈ D, y ∈ ls := fun y hy => mA y ((hD y).mp hy).1
  have ni := name_NF ok (N ++ S)
  have np := name_NF ok (M ++ T)
  have e0 : nameOf f ((nameOf f (N ++ S)).reverse ++ nameOf f (M ++ T)) = nameOf f (S'.reverse ++ wayC f h t ++ T') := Alike.name ok fun g => by
    rw [act_app, ap, ai.rev ok, List.reverse_append, act_app, act_app, act_app, act_app, way_alike ok h t, act_app]
  obtain ⟨n1, n2⟩ := near_iff (ls := ls) ok x.mn cA cB nS nT sA tB mw mA mB
  rw [← e0] at n1 n2
  generalize nameOf f (N ++ S) = i at *
  generalize nameOf f (M ++ T) = p at *
  refine ⟨n1, n2.trans ⟨fun z => ⟨fun c hc => (hD c).mpr ⟨sA c hc, tB c ((z.1 c).mp hc), z.2 c hc⟩, z.1⟩, fun z => ⟨z.2, fun c hc => ((hD c).mp (z.1 c hc)).2.2⟩⟩, ?_, fun hS => ?_, fun hT => ?_⟩
  · rw [base_iff (ls := ls) ok ni x.nh mi x.mh mD]
    constructor
    · rintro ⟨e, he, al⟩ c hc
      exact he c (cliq_sub ok cA mA nS sA (fun y hy => mD y (he y hy)) (Alike.cancel ok (ai.symm.trans al)) c hc)
    · exact fun z => ⟨S', z, ai⟩
  · have e1 : Alike f (i ++ wayC f h t) (t ++ S') := fun g => by
      have z := pass_alike (w := wayC f h t) (d := S') ok (fun s hs y hy => ((hD s).mp (hS s hs)).2.2 y hy) g
      rw [act_app, act_app] at z
      rw [act_app, ai, act_app, z, way_alike ok h t, act_app, act_rev' ok, act_app]
    constructor
    · intro e
      have al : Alike f S' T' := Alike.cancel ok (e1.symm.trans (((name_alike ok _).symm.trans (by rw [e]; exact .refl _)).trans ap))
      exact fun c => ⟨fun z => cliq_sub ok cA mA nS sA (fun y hy => mB y (tB y hy)) al c z, fun z => cliq_sub ok cB mB nT tB (fun y hy => mA y (sA y hy)) al.symm c z⟩
    · intro e
      have al : Alike f S' T' := perm_alike ok cA ((List.perm_ext_iff_of_nodup nS nT).mpr e) sA
      refine (Alike.nf ok ((name_alike ok _).trans (e1.trans ?_)) (name_NF ok _) np)
      exact ((Alike.refl t).app al).trans ap.symm
  · exact (base_iff (ls := ls) ok np x.nt mp x.mt mD).mpr ⟨T', hT, ap⟩
/-- the words of a block's rooms, as the program lists them -/
def subsL (K : List Nat) : List (List Nat) := K.foldl (fun acc k => acc ++ acc.map fun S => S ++ [k]) [[]]
theorem subs_snoc (K : List Nat) (k : Nat) : subsL (K ++ [k]) = subsL K ++ (subsL K).map fun S => S ++ [k] := by
  unfold subsL
  rw [List.foldl_append]
  rfl
theorem snocRec {P : List Nat → Prop} (h0 : P []) (h1 : ∀ K k, P K → P (K ++ [k])) : ∀ K, P K := fun K => by
  have : ∀ n (K : List Nat), K.length = n → P K := by
    intro n
    induction n with
    | zero =>
      intro K e
      rw [List.length_eq_zero_iff.mp e]
      exact h0
    | succ n ih =>
      intro K e
      have ne : K ≠ [] := fun z => by rw [z] at e; cases e
      rw [← List.dropLast_concat_getLast ne]
      exact h1 _ _ (ih _ (by rw [List.length_dropLast, e]; rfl))
  exact this _ K rfl
theorem subs_mem : ∀ (K S : List Nat), S ∈ subsL K → ∀ c ∈ S, c ∈ K := by
  refine snocRec (fun S hS c hc => ?_) fun K k ih S hS c hc => ?_
  · have : S = [] := by simpa [subsL] using hS
    subst this
    cases hc
  · rw [subs_snoc] at hS
    rcases List.mem_append.mp hS with z | z
    · exact List.mem_append_left _ (ih S z c hc)
    · obtain ⟨S0, z0, rfl⟩ := List.mem_map.mp z
      rcases List.mem_append.mp hc with y | y
      · exact List.mem_append_left _ (ih S0 z0 c y)
      · exact List.mem_append_right _ y
theorem subs_len : ∀ K : List Nat, (subsL K).length = 2 ^ K.length := by
  refine snocRec rfl fun K k ih => ?_
  rw [subs_snoc, List.length_append, List.length_map, ih, List.length_append, List.length_singleton, Nat.pow_succ]
  omega
/-- how many of them are so and so at each kind -/
theorem subs_count (q : Nat → Nat → Bool) : ∀ K : List Nat, K.Nodup → ((subsL K).filter fun S => K.all fun k => q k (S.count k)).length = K.foldr (fun k r => ((if q k 0 then 1 else 0) + if q k 1 then 1 else 0) * r) 1 := by
  have mul : ∀ (K : List Nat) (c : Nat), K.foldr (fun k r => ((if q k 0 then 1 else 0) + if q k 1 then 1 else 0) * r) c = K.foldr (fun k r => ((if q k 0 then 1 else 0) + if q k 1 then 1 else 0) * r) 1 * c := by
    intro K c
    induction K with
    | nil => simp
    | cons k K ih => rw [List.foldr_cons, ih, List.foldr_cons, Nat.mul_assoc]
  refine snocRec (fun _ => by simp [subsL]) fun K k ih n => ?_
  obtain ⟨n1, _, n3⟩ := List.nodup_append.mp n
  have nk : k ∉ K := fun z => n3 k z k (.head _) rfl
  rw [subs_snoc, List.filter_append, List.length_append, List.foldr_append, List.foldr_cons, List.foldr_nil, Nat.mul_one, mul, ← ih n1, List.filter_map, List.length_map]
  have e1 : ((subsL K).filter fun S => (K ++ [k]).all fun k => q k (S.count k)).length = ((subsL K).filter fun S => K.all fun k => q k (S.count k)).length * if q k 0 then 1 else 0 := by
    have : ∀ S ∈ subsL K, ((K ++ [k]).all fun k => q k (S.count k)) = ((K.all fun k => q k (S.count k)) && q k 0) := fun S hS => by
      rw [List.all_append, List.all_cons, List.all_nil, Bool.and_true, show S.count k = 0 from List.count_eq_zero.mpr fun z => nk (subs_mem K S hS k z)]
    rw [List.filter_congr this]
    cases q k 0 with
    | true => simp
    | false => simp
  have e2 : ((subsL K).filter ((fun S => (K ++ [k]).all fun k => q k (S.count k)) ∘ fun S => S ++ [k])).length = ((subsL K).filter fun S => K.all fun k => q k (S.count k)).length * if q k 1 then 1 else 0 := by
    have : ∀ S ∈ subsL K, ((fun S => (K ++ [k]).all fun k => q k (S.count k)) ∘ fun S => S ++ [k]) S = ((K.all fun k => q k (S.count k)) && q k 1) := fun S hS => by
      show ((K ++ [k]).all fun j => q j ((S ++ [k]).count j)) = _
      have e3 : (K.all fun j => q j ((S ++ [k]).count j)) = K.all fun j => q j (S.count j) := by
        rw [Bool.eq_iff_iff, List.all_eq_true, List.all_eq_true]
        refine forall_congr' fun j => forall_congr' fun hj => ?_
        rw [List.count_append, List.count_cons_of_ne (fun z => by subst z; exact nk hj), List.count_nil, Nat.add_zero]
      rw [List.all_append, List.all_cons, List.all_nil, Bool.and_true, e3, List.count_append, show S.count k = 0 from List.count_eq_zero.mpr fun z => nk (subs_mem K S hS k z), List.count_cons_self, List.count_nil]
    rw [List.filter_congr this]
    cases q k 1 with
    | true => simp
    | false => simp
  rw [e1, e2, ← Nat.mul_add]
theorem sum_perm {α : Type} (g : α → Nat) {l l' : List α} (h : l.Perm l') : (l.map g).sum = (l'.map g).sum := by
  induction h with
  | nil => rfl
  | cons x h ih => rw [List.map_cons, List.map_cons, List.sum_cons, List.sum_cons, ih]
  | swap x y l =>
    simp only [List.map_cons, List.sum_cons]
    omega
  | trans _ _ h1 h2 => exact h1.trans h2
/-- as many pairs of rooms as rooms in the bridge's block -/
theorem pairs_count {A B D a b : List Nat} (nA : A.Nodup) (nB : B.Nodup) (hDB : ∀ c ∈ D, c ∈ B) {SS TT : List (List Nat)} (pS : SS.Perm (subsL A)) (pT : TT.Perm (subsL B)) (P : List Nat → List Nat → Bool)
    (hP : ∀ S ∈ SS, ∀ T ∈ TT, P S T = true ↔ (∀ c ∈ canW A (a ++ S), c ∈ D) ∧ ∀ c, c ∈ canW A (a ++ S) ↔ c ∈ canW B (b ++ T)) :
    (SS.flatMap fun S => TT.filter (P S)).length = 2 ^ (A.filter fun c => decide (c ∈ D)).length := by
  rw [List.length_flatMap]
  have one : ∀ S ∈ SS, (∀ c ∈ canW A (a ++ S), c ∈ D) → (TT.filter (P S)).length = 1 := fun S hS hs => by
    have e1 : TT.filter (P S) = TT.filter fun T => B.all fun c => (fun c m => decide ((b.count c + m) % 2 = 1 ↔ c ∈ canW A (a ++ S))) c (T.count c) := List.filter_congr fun T hT => by
      rw [Bool.eq_iff_iff, hP S hS T hT, List.all_eq_true]
      constructor
      · rintro ⟨_, z⟩ c hc
        refine decide_eq_true ?_
        rw [z c, can_mem, List.count_append]
        exact ⟨fun y => ⟨hc, y⟩, fun y => y.2⟩
      · intro z
        refine ⟨hs, fun c => ?_⟩
        constructor
        · intro y
          have hc := hDB c (hs c y)
          have := of_decide_eq_true (z c hc)
          rw [can_mem, List.count_append]
          exact ⟨hc, this.mpr y⟩
        · intro y
          obtain ⟨hc, y⟩ := can_mem.mp y
          rw [List.count_append] at y
          exact (of_decide_eq_true (z c hc)).mp y
    rw [e1, (pT.filter _).length_eq]
    refine (subs_count (fun c m => decide ((b.count c + m) % 2 = 1 ↔ c ∈ canW A (a ++ S))) B nB).trans ?_
    have : ∀ K : List Nat, K.foldr (fun k r => ((if decide ((b.count k + 0) % 2 = 1 ↔ k ∈ canW A (a ++ S)) = true then 1 else 0) + if decide ((b.count k + 1) % 2 = 1 ↔ k ∈ canW A (a ++ S)) = true then 1 else 0) * r) 1 = 1 := by
      intro K
      induction K with
      | nil => rfl
      | cons k K ih =>
        rw [List.foldr_cons, ih, Nat.mul_one]
        by_cases z : k ∈ canW A (a ++ S)
        · rcases Nat.mod_two_eq_zero_or_one (b.count k) with y | y
          · rw [if_neg (by simp only [decide_eq_true_iff]; intro q; have := q.mpr z; omega), if_pos (by simp only [decide_eq_true_iff]; exact ⟨fun _ => z, fun _ => by omega⟩)]
          · rw [if_pos (by simp only [decide_eq_true_iff]; exact ⟨fun _ => z, fun _ => by omega⟩), if_neg (by simp only [decide_eq_true_iff]; intro q; have := q.mpr z; omega)]
        · rcases Nat.mod_two_eq_zero_or_one (b.count k) with y | y
          · rw [if_pos (by simp only [decide_eq_true_iff]; exact ⟨fun q => by omega, fun q => absurd q z⟩), if_neg (by simp only [decide_eq_true_iff]; intro q; exact z (q.mp (by omega)))]
          · rw [if_neg (by simp only [decide_eq_true_iff]; intro q; exact z (q.mp (by omega))), if_pos (by simp only [decide_eq_true_iff]; exact ⟨fun q => by omega, fun q => absurd q z⟩)]
    exact this B
  have two : ∀ S ∈ SS, (TT.filter (P S)).length = if decide (∀ c ∈ canW A (a ++ S), c ∈ D) = true then 1 else 0 := fun S hS => by
    by_cases z : ∀ c ∈ canW A (a ++ S), c ∈ D
    · rw [if_pos (decide_eq_true z), one S hS z]
    · rw [if_neg (by simpa using z), List.filter_eq_nil_iff.mpr fun T hT y => z ((hP S hS T hT).mp y).1]
      rfl
  rw [List.map_congr_left two, sum_perm _ pS]
  have e1 : ∀ l : List (List Nat), (l.map fun S => if decide (∀ c ∈ canW A (a ++ S), c ∈ D) = true then 1 else 0).sum = (l.filter fun S => A.all fun c => (fun c m => decide ((a.count c + m) % 2 = 1 → c ∈ D)) c (S.count c)).length := by
    intro l
    induction l with
    | nil => rfl
    | cons S l ih =>
      rw [List.map_cons, List.sum_cons, ih, List.filter_cons]
      have e : decide (∀ c ∈ canW A (a ++ S), c ∈ D) = A.all fun c => (fun c m => decide ((a.count c + m) % 2 = 1 → c ∈ D)) c (S.count c) := by
        rw [Bool.eq_iff_iff, List.all_eq_true, decide_eq_true_iff]
        refine ⟨fun z c hc => decide_eq_true fun y => z c (can_mem.mpr ⟨hc, by rw [List.count_append]; exact y⟩), fun z c hc => ?_⟩
        obtain ⟨h1, h2⟩ := can_mem.mp hc
        rw [List.count_append] at h2
        exact of_decide_eq_true (z c h1) h2
      rw [e]
      cases A.all fun c => (fun c m => decide ((a.count c + m) % 2 = 1 → c ∈ D)) c (S.count c) with
      | true => simp; omega
      | false => simp
  rw [e1]
  refine (subs_count (fun c m => decide ((a.count c + m) % 2 = 1 → c ∈ D)) A nA).trans ?_
  clear e1 two one hP nA pS
  induction A with
  | nil => rfl
  | cons k K ih =>
    rw [List.foldr_cons, ih, List.filter_cons]
    by_cases z : k ∈ D
    · rw [if_pos (decide_eq_true fun _ => z), if_pos (decide_eq_true fun _ => z), if_pos (decide_eq_true z), List.length_cons, Nat.pow_succ]
      omega
    · rw [if_neg (by simpa using z : ¬ decide (k ∈ D) = true)]
      rcases Nat.mod_two_eq_zero_or_one (a.count k) with y | y
      · rw [if_pos (decide_eq_true fun q => by omega), if_neg (by simp only [decide_eq_true_iff]; exact fun q => z (q (by omega)))]
        omega
      · rw [if_neg (by simp only [decide_eq_true_iff]; exact fun q => z (q (by omega))), if_pos (decide_eq_true fun q => by omega)]
        omega
end
end Cw
set_option Elab.async false
set_option linter.all false
set_option maxRecDepth 100000
set_option maxHeartbeats 4000000
/-! [..] == [..] of texts and of objects with an own ==, whatever the answer -/
namespace GQ
open PySem PySem.SeqAt
open AutoSeq1 (wpAny_loadPart')
open MeetsSeq MeetsSeq2 MeetsSeq3 SeqRoads2
section
variable {prog : Program} {w : World} {A : Around} {R : Result → Shared → Prop}
def ListB (prog : Program) (w : World) (A : Around) (E : Value → Shared → Prop) (l b : Addr) (N : Nat) (e : Nat → Bool) (I : Nat → Shared → Prop) : Prop :=
  ∀ i s, I i s → ∃ (items items2 : Array Value) (n n2 : Nat), s.heap.get? l = some { cls := .type "list", data := .seq items n } ∧ s.heap.get? b = some { cls := .type "list", data := .seq items2 n2 } ∧ items.size = N ∧ items2.size = N ∧
    ∀ (h1 : i < items.size) (h2 : i < items2.size), wpAny (model prog w) A.in1 (eqBool items[i] items2[i]) (fun r s' => r = e i ∧ I (i + 1) s' ∧ ∀ s2, I (i + 1) s2 → I i s2) E s
theorem eq_loopB (l b : Addr) (N : Nat) (e : Nat → Bool) (I : Nat → Shared → Prop) (hl : ListB prog w A (fun e s' => R (.error e) s') l b N e I) (k : Nat) :
    ∀ i : Nat, N - i = k → i ≤ N → (∀ j s, i ≤ j → j ≤ N → I j s → R (.ok (.ret (.bool (((List.range N).drop i).all e)))) s) → ∀ s, I i s →
      wpAny (model prog w) A.in1 (Builtin.«list.__eq__.loop» ⟨[.ref l, .ref b, rawInt i, rawInt 2], []⟩) (FinOf prog w A R) (fun e s' => R (.error e) s') s := by
  induction k with
  | zero =>
    intro i hk hi fin s h
    obtain ⟨items, items2, n, n2, hl1, hb1, hs1, hs2, _⟩ := hl _ _ h
    have hi' : i = N := by omega
    have hR := fin i s (Nat.le_refl _) hi h
    rw [show (List.range N).drop i = [] by simp; omega, List.all_nil] at hR
    obtain ⟨hp, g, d, tk, os⟩ := s
    wp_walk using wpAny_loadPart' hl1, wpAny_loadPart' hb1
    have hi1 : items[((i : Nat) : Int).toNat]? = none := by simp; omega
    have hi2 : items2[((i : Nat) : Int).toNat]? = none := by simp; omega
    rw [hi1, hi2]
    wp_walk using wpAny_loadPart' hl1, wpAny_loadPart' hb1
    show R (.ok (.ret (.bool (items.size == items2.size)))) _
    rw [hs1, hs2]
    simpa using hR
  | succ k ih =>
    intro i hk hi fin s h
    obtain ⟨items, items2, n, n2, hl1, hb1, hs1, hs2, turn⟩ := hl _ _ h
    have hlt : i < items.size := by omega
    have hlt2 : i < items2.size := by omega
    have ht := turn hlt hlt2
    have hd : (List.range N).drop i = i :: (List.range N).drop (i + 1) := by
      rw [List.drop_eq_getElem_cons (by simp; omega)]
      simp
    obtain ⟨hp, g, d, tk, os⟩ := s
    wp_walk using wpAny_loadPart' hl1, wpAny_loadPart' hb1
    have hi1 : items[((i : Nat) : Int).toNat]? = some items[i] := by simp [hlt]
    have hi2 : items2[((i : Nat) : Int).toNat]? = some items2[i] := by simp [hlt2]
    have hc : ((i : Int) + 1) = ((i + 1 : Nat) : Int) := by omega
    rw [hi1, hi2]
    refine wpAny_bind (wpAny_mono ht (fun r s2 h2 => ?_) fun _ _ x => x)
    obtain ⟨hr, h2, back⟩ := h2
    subst hr
    cases he : e i with
    | true =>
      have hrec := ih (i + 1) (by omega) (by omega) (fun j s3 h3 h4 h5 => by
        have := fin j s3 (by omega) h4 h5
        rwa [hd, List.all_cons, he, Bool.true_and] at this) s2 h2
      obtain ⟨hp2, g2, d2, tk2, os2⟩ := s2
      wp_walk
      rw [hc]
      exact ⟨plainId_quiet plain_eq_loop _, codeAny_builtin entry_eq_loop (by
        rw [Around.under_plainId plain_eq_loop _]
        exact hrec)⟩
    | false =>
      have hR := fin (i + 1) s2 (by omega) (by omega) h2
      rw [hd, List.all_cons, he, Bool.false_and] at hR
      obtain ⟨its, its2, n3, n4, hl3, hb3, hs3, hs4, _⟩ := hl _ _ (back s2 h2)
      have hi3 : its[((i : Nat) : Int).toNat]? = some its[i] := by simp [show i < its.size by omega]
      have hi4 : its2[((i : Nat) : Int).toNat]? = some its2[i] := by simp [show i < its2.size by omega]
      obtain ⟨hp2, g2, d2, tk2, os2⟩ := s2
      wp_walk using wpAny_loadPart' hl3, wpAny_loadPart' hb3
      rw [hi3, hi4]
      wp_walk
      simpa using hR
theorem list_eqB (l b : Addr) (N : Nat) (e : Nat → Bool) (I : Nat → Shared → Prop) (hl : ListB prog w A (fun e s' => R (.error e) s') l b N e I)
    (fin : ∀ j s, j ≤ N → I j s → R (.ok (.ret (.bool ((List.range N).all e)))) s) {s : Shared} (h : I 0 s) :
    wpAny (model prog w) A.in1 (Builtin.«list.__eq__» ⟨[.ref l, .ref b], []⟩) (FinOf prog w A R) (fun e s' => R (.error e) s') s := by
  obtain ⟨items, items2, n, n2, hl1, hb1, hs1, hs2, _⟩ := hl _ _ h
  have hrec := eq_loopB (A := A) (R := R) l b N e I hl _ 0 rfl (Nat.zero_le _) (fun j s _ h1 h2 => by rw [List.drop_zero]; exact fin j s h1 h2) s h
  obtain ⟨hp, g, d, tk, os⟩ := s
  have f3 := AutoSeq1.sub_list_list
  have hne : ¬ (items.size != items2.size) = true := by simp [hs1, hs2]
  wp_walk using wpAny_loadPart' hl1, wpAny_loadPart' hb1
  exact ⟨plainId_quiet plain_eq_loop _, codeAny_builtin entry_eq_loop (by
    rw [Around.under_plainId plain_eq_loop _]
    exact hrec)⟩
end
section
variable {prog : Program} {w : World} {A : Around} {E : Value → Shared → Prop} {s : Shared}
theorem rc_listB {l b : Addr} {N : Nat} {e : Nat → Bool} {Q : Value → Shared → Prop} (hu : A.units < cLine) (I : Nat → Shared → Prop) (hl : ListB prog w A E l b N e I)
    (fin : ∀ j s, j ≤ N → I j s → Q (.bool ((List.range N).all e)) s) (h : I 0 s) : wpAny (model prog w) A (richCompare .Eq (.ref l) (.ref b)) Q E s := by
  obtain ⟨items, items2, n, n2, hl1, hb1, _, _, _⟩ := hl _ _ h
  refine wpAny_richCompare_same_room (op := .Eq) ⟨_, hl1, rfl⟩ ⟨_, hb1, rfl⟩ F.slot_list_eq (call_here F.slot_list_eq ⟨_, hl1, rfl⟩ F.entry_list_eq (F.args_list_eq_2 _ _) ?_) hu
  exact list_eqB (R := wants (fun v s' => v ≠ .notImplemented ∧ Q v s') E) l b N e I hl (fun j s' hj q => ⟨(fun x => nomatch x), fin j s' hj q⟩) h
end
end GQ
namespace Cw
open PySem PySem.Spec PyProof.Rows L2
/-- how two values compare -/
abbrev EqvB := V → V → Hp → Bool → Prop
def MonB (D : EqvB) : Prop := ∀ x y H H' b, Ext H H' → D x y H b → D x y H' b
def EqB (X : Cx) (n : Nat) (D : EqvB) : Prop :=
  ∀ (A : Around) (pins : List (Addr × Obj)) (s : Shared) (σ : L2.St) (H : Hp) (x y : V) (u v : Value) (b : Bool), L2.Sub X n A → Inv X pins σ H s → RelV x u → RelV y v → D x y H b →
    wpAny (model X.prog X.w) A (eqBool u v) (fun r s' => r = b ∧ ∃ H', Inv X pins σ H' s' ∧ Ext H H') X.xe s
section
variable {X : Cx} {n m : Nat} {D D' : EqvB}
theorem EqB.mono (h : EqB X n D) (hn : n ≤ m) : EqB X m D := fun A pins s σ H x y u v b sb => h A pins s σ H x y u v b (sb.mono hn)
theorem EqB.or (h : EqB X n D) (h' : EqB X n D') : EqB X n (fun x y H b => D x y H b ∨ D' x y H b) := fun A pins s σ H x y u v b sb I rx ry d => by
  rcases d with d | d
  · exact h A pins s σ H x y u v b sb I rx ry d
  · exact h' A pins s σ H x y u v b sb I rx ry d
theorem MonB.or (h : MonB D) (h' : MonB D') : MonB (fun x y H b => D x y H b ∨ D' x y H b) := fun x y H H' b e d => d.elim (fun d => .inl (h x y H H' b e d)) fun d => .inr (h' x y H H' b e d)
def DTx : EqvB := fun x y _ b => ∃ p q : List Nat, x = .str (tx p) ∧ y = .str (tx q) ∧ b = decide (p = q)
theorem mon_tx : MonB DTx := fun _ _ _ _ _ _ d => d
theorem eqB_tx : EqB X 0 DTx := by
  intro A pins s σ H x y u v b sb I rx ry d
  obtain ⟨p, q, rfl, rfl, rfl⟩ := d
  have k := eqAt_V (A := A) (s := s) rx ry rfl rfl
  refine k X.prog X.w X.xe _ ⟨?_, H, I, Ext.rfl'⟩
  show ((tx p) == (tx q)) = _
  by_cases e : p = q
  · rw [e]
    simp
  · rw [decide_eq_false e]
    exact beq_eq_false_iff_ne.mpr fun z => e (tx_inj.mp z)
/-- two objects of a class, told by a rule of the class's == -/
def DObj (C : Addr) (R : Addr → Addr → Hp → Bool → Prop) : EqvB := fun x y H r => ∃ a b dx dy fs gs, x = .ref a ∧ y = .ref b ∧ H a = some (.ins C dx fs) ∧ H b = some (.ins C dy gs) ∧ R a b H r ∧ (a = b → r = true)
theorem mon_obj {C : Addr} {R : Addr → Addr → Hp → Bool → Prop} (hR : ∀ a b H H' r, Ext H H' → R a b H r → R a b H' r) : MonB (DObj C R) := fun x y H H' r e d => by
  obtain ⟨a, b, dx, dy, fs, gs, hx, hy, h1, h2, q, z⟩ := d
  exact ⟨a, b, dx, dy, fs, gs, hx, hy, e _ _ h1, e _ _ h2, hR a b H H' r e q, z⟩
theorem eqB_obj {CX : CXT} {C : Addr} {ps : List Str} {sp : Sp} {R : Addr → Addr → Hp → Bool → Prop} {E : XK} (D : MDef X.prog X.w X.K X.mg X.base CX n C "__eq__" ps sp) (hx : Passes CX X E)
    (hR : ∀ a b H r, R a b H r → sp [.ref a, .ref b] H (fun v H' => v = .bl r ∧ Ext H H') E) : EqB X n (DObj C R) := by
  obtain ⟨f, fd, h1, h2, kp, ⟨hb, _⟩, F⟩ := D.ex
  intro A pins s σ H x y u v r sb I rx ry d
  obtain ⟨a, b, dx, dy, fs, gs, rfl, rfl, ha, hb', hr, hab⟩ := d
  cases rx
  cases ry
  by_cases e : a = b
  · subst e
    rw [hab rfl]
    exact SeqAt.EqAt.same (A := A) (s := s) (.ref a) X.prog X.w X.xe _ ⟨rfl, H, I, Ext.rfl'⟩
  obtain ⟨mA, J, _⟩ := ins_get I.hok ha
  obtain ⟨mB, J', _⟩ := ins_get I.hok hb'
  obtain ⟨od, J, _⟩ := J.look
  obtain ⟨od', J', _⟩ := J'.look
  obtain ⟨mm, hF⟩ := I.fr
  refine GQ.eqBool_refG e ?_
  refine PySem.W.cmp_K (op := .Eq) (tb := .ref C) sb.room.units0 hF I.ok.mod.kin J J'.type (by simp [PySem.W.notFirst]) h1 h2 ?_
  have hsp := hR a b H r hr
  have e0 : Env0 X.prog X.w X.K X.mg X.base A X.stack s H := by
    have e := I.env0
    exact ⟨by rw [sb.fr]; exact e.frames, e.mod, e.bs, e.bsz, e.funs, e.frf, e.hok, e.bare⟩
  have hl := F.len _ _ _ _ hsp
  have r2 : Vals [V.ref a, V.ref b] [Value.ref a, Value.ref b] := .cons rfl (.cons rfl .nil)
  refine wpAny_call (codeAny_mono (F.run A X.stack s H ⟨[.ref a, .ref b], []⟩ [.ref a, .ref b] [.ref a, .ref b] _ E sb.room e0 (by
    have := hb s [.ref a, .ref b] I.kIn (by simpa using hl)
    simpa using this) r2 hsp) fun rr s' hq => ?_)
  cases rr with
  | error e => exact hx pins σ H s e s' I hq
  | ok fl =>
    cases fl with
    | ret w =>
      obtain ⟨z, H', I', rz, ez, ex⟩ := I.after hq
      subst ez
      cases rz
      exact ⟨r, rfl, rfl, H', I', ex⟩
    | next => exact False.elim hq
    | brk => exact False.elim hq
    | cont => exact False.elim hq
def PrsB (D : EqvB) (xs ys : List V) (H : Hp) (e : Nat → Bool) : Prop := xs.length = ys.length ∧ ∀ (i : Nat) x y, xs[i]? = some x → ys[i]? = some y → D x y H (e i)
/-- [..] == [..] -/
def rEqLB (D : EqvB) : R2 := fun x y H Q => ∃ a b xs ys e, x = .ref a ∧ y = .ref b ∧ H a = some (.lst xs) ∧ H b = some (.lst ys) ∧ PrsB D xs ys H e ∧ ∀ H', Ext H H' → Q (.bl ((List.range xs.length).all e)) H'
theorem op_eqLB (hD : MonB D) (h : EqB X n D) (hr : Room (n + 1) X.A) : OpR X (compareOp .Eq) (rEqLB D) := by
  intro pins s σ H x y v u Q I rx ry hq
  obtain ⟨a, b, xs, ys, e, rfl, rfl, ha, hb, p, q⟩ := hq
  cases rx
  cases ry
  show wpAny (model X.prog X.w) X.A (richCompare .Eq _ _) (EP X pins σ Q) X.xe s
  have sb : L2.Sub X (n + 1) X.A := ⟨hr, rfl⟩
  refine GQ.rc_listB (N := xs.length) (e := e) hr.units0 (fun _ s' => LoopI X pins σ H s') (fun i s' z => ?_) (fun j s' _ z => ?_) ⟨H, I, Ext.rfl'⟩
  · obtain ⟨H1, I1, e1⟩ := id z
    obtain ⟨z1, its, k, r, e0⟩ := I1.hok a _ (e1 _ _ ha)
    obtain ⟨z2, its2, k2, r2, e2⟩ := I1.hok b _ (e1 _ _ hb)
    refine ⟨its.toArray, its2.toArray, k, k2, e0, e2, by rw [List.size_toArray, ← r.length], by rw [List.size_toArray, ← r2.length, ← p.1], fun h1 h2 => ?_⟩
    have g1 : its[i]? = some its.toArray[i] := by
      have h1' : i < its.length := by simpa using h1
      rw [List.getElem?_eq_getElem h1'] <;> simp
    have g2 : its2[i]? = some its2.toArray[i] := by
      have h2' : i < its2.length := by simpa using h2
      rw [List.getElem?_eq_getElem h2'] <;> simp
    have k1 : i < xs.length := by rw [r.length]; simpa using h1
    have k2 : i < ys.length := by rw [r2.length]; simpa using h2
    obtain ⟨u, hu, ru⟩ := r.get (List.getElem?_eq_getElem k1)
    obtain ⟨v, hv, rv⟩ := r2.get (List.getElem?_eq_getElem k2)
    rw [g1] at hu
    rw [g2] at hv
    rw [Option.some.inj hu, Option.some.inj hv]
    refine wpAny_mono (h X.A.in1 pins s' σ H1 _ _ u v (e i) sb.in1 I1 ru rv (hD _ _ _ _ _ e1 (p.2 i _ _ (List.getElem?_eq_getElem k1) (List.getElem?_eq_getElem k2)))) (fun r s2 q => ?_) fun _ _ x => x
    obtain ⟨hr', H2, I2, e2⟩ := q
    exact ⟨hr', ⟨H2, I2, e1.trans e2⟩, fun _ z => z⟩
  · obtain ⟨H1, I1, e1⟩ := z
    exact ⟨.bl ((List.range xs.length).all e), H1, I1, rfl, q H1 e1⟩
end
end Cw
set_option Elab.async false
set_option linter.all false
set_option maxRecDepth 100000
set_option maxHeartbeats 4000000
/-! x in c, by c's own __contains__ -/
namespace Cw
open PySem PySem.Spec L2
section
variable {X : Cx} {CX : CXT} {k : Nat} {C : Addr} {m : Str} {ps : List Str} {sp : Sp} {E : XK}
def rMIn (C : Addr) (sp : Sp) (E : XK) (n : Bool) : R2 := fun x y H Q => ∃ a dx fs, y = .ref a ∧ H a = some (.ins C dx fs) ∧ sp [.ref a, x] H (fun v H' => ∃ b, v = .bl b ∧ Q (.bl (b != n)) H') E
theorem in_run {Q : VK} {n : Bool} (D : MDef X.prog X.w X.K X.mg X.base CX k C "__contains__" ps sp) (hr : Room k X.A) (hx : Passes CX X E) {pins : List (Addr × Obj)} {s : Shared} {σ : St} {H : Hp} {x y : V} {v u : Value} (I : Inv X pins σ H s) (rx : RelV x v) (ry : RelV y u) (h : rMIn C sp E n x y H Q) :
    wpAny (model X.prog X.w) X.A (contains u v) (fun b s' => EP X pins σ Q (.bool (b != n)) s') X.xe s := by
  obtain ⟨f, fd, h1, h2, kp, ⟨hb, _⟩, F⟩ := D.ex
  obtain ⟨a, dx, fs, rfl, ha, hq⟩ := h
  cases ry
  obtain ⟨mA, J, _⟩ := ins_get I.hok ha
  obtain ⟨od, J, _⟩ := J.look
  obtain ⟨mm, hF⟩ := I.fr
  refine PySem.W.contains_K hF I.ok.mod.kin J h1 h2 ?_
  have z := run_fn (us := [.ref a, v]) (vs := [.ref a, x]) (dvs := []) F hr hb .nil hx I (.cons rfl (.cons rx .nil)) hq
  refine wpAny_mono z (fun w s' q => ?_) fun _ _ q => q
  obtain ⟨y, H', I', r, b, rfl, q⟩ := q
  cases r
  exact wpAny_truthy_bool ⟨.bl (b != n), H', I', rfl, q⟩
theorem op_inM (D : MDef X.prog X.w X.K X.mg X.base CX k C "__contains__" ps sp) (hr : Room k X.A) (hx : Passes CX X E) : OpR X (compareOp .In) (rMIn C sp E false) := by
  intro pins s σ H x y v u Q I rx ry h
  show wpAny (model X.prog X.w) X.A (contains u v >>= fun b => pure (Value.bool b)) _ _ _
  refine wpAny_bind (wpAny_mono (in_run D hr hx I rx ry h) (fun b s' q => wpAny_pure ?_) fun _ _ q => q)
  simpa using q
theorem op_notInM (D : MDef X.prog X.w X.K X.mg X.base CX k C "__contains__" ps sp) (hr : Room k X.A) (hx : Passes CX X E) : OpR X (compareOp .NotIn) (rMIn C sp E true) := by
  intro pins s σ H x y v u Q I rx ry h
  show wpAny (model X.prog X.w) X.A (contains u v >>= fun b => pure (Value.bool (!b))) _ _ _
  refine wpAny_bind (wpAny_mono (in_run D hr hx I rx ry h) (fun b s' q => wpAny_pure ?_) fun _ _ q => q)
  simpa using q
end
theorem pe_notTK {X : Cx} {K : PySem.W.Frag} {a : Expr} {ta : TE} {pos : PySem.Pos} (h : X.K = K) (ha : PE X a ta) : PE X (.UnaryOp .Not a pos) (tNotT K ta) := h ▸ pe_notT ha
theorem e_notT {K : PySem.W.Frag} {ta : TE} {σ : St} {H : Hp} {Q : VK} (q : ta σ H fun x H1 => ∃ k, TruV K x H1 k ∧ Q (.bl (!k)) H1) : tNotT K ta σ H Q := q
section
variable {σ : St} {H : Hp} {Q : VK}
theorem v_MIn {C : Addr} {sp : Sp} {E : XK} {a dx : Addr} {fs : List (Str × V)} {x : V} {n : Bool} (h : H a = some (.ins C dx fs)) (q : sp [.ref a, x] H (fun v H' => ∃ b, v = .bl b ∧ Q (.bl (b != n)) H') E) : rMIn C sp E n x (.ref a) H Q := ⟨a, dx, fs, rfl, h, q⟩
end
end Cw
set_option Elab.async false
set_option linter.all false
set_option maxRecDepth 100000
set_option maxHeartbeats 4000000
/-! a try with one clause and no name for the exception -/
namespace Cw
open PySem PySem.Spec L2
def tTryO (K : PySem.W.Frag) (c : Value) (ts : Addr → Value → Option Addr → TS) (Wout : WX) (tb : WX → TS) : TS := fun D σ H => tb (wOnly K c ts Wout D) D σ H
theorem ps_tryO {X : Cx} {x : Str} {c : Value} {body suite : List Stmt} {b₀ : Stmt} {np pos pos' : PySem.Pos} {tb : WX → TS} {ts : Addr → Value → Option Addr → TS} {Wout : WX} (hs : X.stack = X.env :: X.outer) (hf : X.env.frame = some X.env.locals) (hc : Names X x c) (tk : Takes X Wout)
    (hb : ∀ (W : WX) (pn : List (Addr × Obj)) (xe : Value → Shared → Prop), Takes (X.tr pn xe) W → PassesOwn (model X.prog X.w) X.A X.env xe → PSs (X.tr pn xe) body (tb W))
    (hsu : ∀ (a : Addr) (oe : Obj) (cls : Value) (d : Option Addr) (pn : List (Addr × Obj)), Zc cls d oe → (∃ vs, oe.data = .fields vs) → PSs (X.suite a ((a, oe) :: pn)) (b₀ :: suite) (ts a cls d)) :
    PS X (.Try body [.ExceptHandler (some (.Name x np)) none (b₀ :: suite) pos'] [] [] pos) (tTryO X.K c ts Wout tb) := ps_try_only hs hf hc tk hb hsu
theorem e_tryO {K : PySem.W.Frag} {c : Value} {ts : Addr → Value → Option Addr → TS} {Wout : WX} {tb : WX → TS} {D : Ends} {σ : St} {H : Hp} (q : tb (wOnly K c ts Wout D) D σ H) : tTryO K c ts Wout tb D σ H := q
end Cw
set_option Elab.async false
set_option linter.all false
set_option maxRecDepth 100000
set_option maxHeartbeats 4000000
/-! len of a dict -/
namespace Cw
open PySem PySem.Spec L2
end Cw
set_option Elab.async false
set_option linter.all false
set_option maxRecDepth 100000
set_option maxHeartbeats 4000000
/-! a comprehension over a dict's keys, the dict locked meanwhile -/
namespace Cw
open PySem PySem.Spec L2
/-- all but d stands as it stood; d is locked -/
structure Lk (d : Addr) (u : HO) (H H' : Hp) : Prop where
  at' : ∃ od, H' d = some (.frz od u)
  oth : ∀ b o, H b = some o → b ≠ d → H' b = some o
theorem Lk.same {d : Addr} {u : HO} {H H' H2 : Hp} (h : Lk d u H H') (s : Same H' H2) : Lk d u H H2 := ⟨h.at'.elim fun od e => ⟨od, s _ _ e⟩, fun b o e n => s _ _ (h.oth b o e n)⟩
theorem s_lockLc {σ : St} {H : Hp} {D : Ends} {i j : Nat} {td : TE} {tt : TT} {te : TE} {d : Addr} {ls : List Nat} {g : Nat → V} {b : Nat → Bool} {f : Nat → V} (h : H d = some (.dK (ls.map fun c => ((Sum.inr (tx [c]) : Key), g c)))) (hn : ls.length ≤ 1000000)
    (htd : ∀ H1, ∀ R : VK, R (.ref d) H1 → td σ H1 R)
    (ht : ∀ c ∈ ls, ∀ H1, Lk d (.dK (ls.map fun c => ((Sum.inr (tx [c]) : Key), g c))) H H1 → ∀ R : Bool → Hp → Prop, (∀ H2, Same H1 H2 → R (b c) H2) → tt ((wipe σ [i]).set i (some (.str (tx [c])))) H1 R)
    (he : ∀ c ∈ ls, b c = true → ∀ H1, Lk d (.dK (ls.map fun c => ((Sum.inr (tx [c]) : Key), g c))) H H1 → ∀ R : VK, (∀ H2, Same H1 H2 → R (f c) H2) → te ((wipe σ [i]).set i (some (.str (tx [c])))) H1 R)
    (q : ∀ D' H', H D' = none → Same H H' → H' D' = some (.lst ((ls.filter b).map f)) → D.nx (σ.set j (some (.ref D'))) H') : tLock (tAsg (tLc (iKeys td) (gName i) tt te [i]) (gName j)) D σ H := by
  refine ⟨d, _, h, trivial, fun od => ?_⟩
  have lk0 : Lk d (.dK (ls.map fun c => ((Sum.inr (tx [c]) : Key), g c))) H (upd H d (.frz od (.dK (ls.map fun c => ((Sum.inr (tx [c]) : Key), g c))))) := ⟨⟨od, upd_same⟩, fun b o e n => by rw [upd_ne n]; exact e⟩
  refine s_set ?_
  refine e_lc ?_
  refine e_iK ?_
  refine htd _ _ ?_
  refine ⟨d, od, rfl, .inl ⟨_, upd_same, ?_⟩⟩
  refine vals_some (ls := ls) (it := fun c => V.str (tx [c])) (f := f) (b := b) walk_let (fun H' s' => s' _ _ upd_same) hn (fun e he' H7 s7 Rk r => ht e he' H7 (lk0.same s7) Rk r) (fun e he' hb H7 s7 Rk r => he e he' hb H7 (lk0.same s7) Rk r) (fun D' H7 hD s7 e7 => ?_)
  have nD : D' ≠ d := fun z => by rw [z, upd_same] at hD; cases hD
  refine ⟨s7 _ _ upd_same, q D' _ (by rw [upd_ne nD] at hD; exact hD) (fun b o hb => ?_) (by rw [upd_ne nD]; exact e7)⟩
  by_cases e : b = d
  · rw [e, upd_same, ← hb, e, h]
  · rw [upd_ne e]
    exact s7 _ _ (lk0.oth b o hb e)
end Cw
set_option Elab.async false
set_option linter.all false
set_option maxRecDepth 100000
set_option maxHeartbeats 4000000
/-! what the top has left, one lemma a kind -/
namespace Cw
open PySem PySem.Spec L2
section
variable {K : PySem.W.Frag} {h : Heap} {mg : Str → Option Value} {x m qual : Str} {st : Stmt} {f C T : Addr} {oc kV dc pm cd ct oc2 : Value} {od an od2 : Option Addr} {sl sl2 : Array (Option Value)}
theorem glob_mk {v : Value} (X : K.In h) (G : h.Ns mainGlobals mg) (a : PySem.W.nsIn K mainGlobals x = some (some v)) : mg x = some v := PySem.W.mg_of X G a
theorem fnAt_mk (X : K.In h) (G : h.Ns mainGlobals mg) (a : PySem.W.nsIn K mainGlobals x = some (some (.ref f))) (l : K.lookup f = some ⟨oc, od, .func (PySem.W.fnOf x x (defArgs st) (defBody st) (defScope st) .none kV dc pm an cd ct), sl⟩)
    (c : PySem.W.codeIn K cd x = true) (k : PySem.W.keepIn K (.ref f) = true) : FnAt K mg x st := ⟨f, _, PySem.W.mg_of X G a, fun_mk (st := st) l c k⟩
theorem mAt_mk (a : PySem.W.findIn K (.ref C) m = some (some (.ref f))) (i : PySem.W.isFn K (.ref f) = true) (l : K.lookup f = some ⟨oc, od, .func (PySem.W.fnOf m qual (defArgs st) (defBody st) (defScope st) .none kV dc pm an cd ct), sl⟩)
    (c : PySem.W.codeIn K cd qual = true) (k : PySem.W.keepIn K (.ref f) = true) : MAt K C m qual st := ⟨f, _, a, i, fun_mk (st := st) l c k⟩
theorem mAtD_mk {arr : Array Value} {n : Nat} {dvs : List V} (a : PySem.W.findIn K (.ref C) m = some (some (.ref f))) (i : PySem.W.isFn K (.ref f) = true) (l : K.lookup f = some ⟨oc, od, .func (PySem.W.fnOf m qual (defArgs st) (defBody st) (defScope st) (.ref T) kV dc pm an cd ct), sl⟩)
    (c : PySem.W.codeIn K cd qual = true) (k : PySem.W.keepIn K (.ref f) = true) (t : K.lookup T = some ⟨oc2, od2, .seq arr n, sl2⟩) (hv : Vals dvs arr.toList) (hd : dvs ≠ []) : MAtD K C m qual st dvs :=
  ⟨f, _, a, i, ⟨⟨oc, od, .ref T, kV, dc, pm, an, cd, ct, sl, rfl, l, c, .inr ⟨hd, T, _, arr.toList, n, rfl, t, rfl, hv⟩, .inl rfl⟩, k⟩⟩
theorem cls_mk (X : K.In h) (G : h.Ns mainGlobals mg) (a : PySem.W.nsIn K mainGlobals x = some (some (.ref C))) (pg : PySem.W.plainGet K C Str.empty = true) (hd : PySem.W.hasDictIn K C = true) (po : PySem.W.plainOver K C = true)
    (sa : PySem.W.findIn K (.ref C) "__setattr__" = some (some (.builtin "object.__setattr__"))) (mk : PySem.W.makesIn K C = true) (kc : PySem.W.keepIn K (.ref C) = true)
    (ha : PySem.W.findIn K (.ref C) "__class__" = some (some (.builtin "object.__class__"))) (hn : PySem.W.specialIn K (.builtin "object.__class__") "__get__" = some (some (.builtin "getset_descriptor.__get__"))) (ht : PySem.W.takesIn K (.builtin "object.__class__") = some true)
    (hm : PySem.W.mroIn K C (.type "object") = some true) (ob : PySem.W.subIn K (.ref C) (.type "object") = some true) (ne : PySem.W.findIn K (.ref C) "__ne__" = some (some (.builtin "object.__ne__"))) : ClsF K mg x C :=
  ⟨PySem.W.mg_of X G a, ⟨pg, hd, po, sa⟩, mk, kc, ha, hn, ht, hm, ob, ne⟩
theorem exc_mk (X : K.In h) (G : h.Ns mainGlobals mg) (a : PySem.W.nsIn K mainGlobals x = some (some (.ref C))) (e : PySem.W.excIn K C [.type "ValueError", .type "Exception", .type "BaseException", .type "object"] "ValueError.__new__" = true) (k : PySem.W.keepIn K (.ref C) = true) (ty : PySem.W.typeIn K (.ref C) = some (.type "type"))
    (hg : PySem.W.findIn K (.ref C) "__getattribute__" = some (some (.builtin "BaseException.__getattribute__"))) (hk : PySem.W.findIn K (.ref C) "__getattr__" = some none) (hs : PySem.W.subIn K (.ref C) (.type "BaseException") = some true) (hd : PySem.W.hasDictIn K C = true)
    (ha : PySem.W.findIn K (.ref C) "__class__" = some (some (.builtin "object.__class__"))) (hn : PySem.W.specialIn K (.builtin "object.__class__") "__get__" = some (some (.builtin "getset_descriptor.__get__"))) (ht : PySem.W.takesIn K (.builtin "object.__class__") = some true) (hm : PySem.W.mroIn K C (.type "object") = some true) : ExcF K mg x C :=
  ⟨PySem.W.mg_of X G a, e, k, ty, ⟨hg, hk, hs, hd, ha, hn, ht, hm⟩⟩
theorem fun1_mk (X : K.In h) (G : h.Ns mainGlobals mg) {fa : Addr} (hm : mg x = some (.ref fa)) (a : PySem.W.nsIn K mainGlobals x = some (some (.ref f))) (l : K.lookup f = some ⟨oc, od, .func (PySem.W.fnOf x x (defArgs st) (defBody st) (defScope st) .none kV dc pm an cd ct), sl⟩)
    (c : PySem.W.codeIn K cd x = true) (k : PySem.W.keepIn K (.ref f) = true) : Fun K x x st fa (PySem.W.fnOf x x (defArgs st) (defBody st) (defScope st) .none kV dc pm an cd ct) := by
  have e := hm.symm.trans (PySem.W.mg_of X G a)
  cases e
  exact fun_mk (st := st) l c k
end
/-- the law's end: its def's promise -/
theorem end_walk {l : PySem.W.OpenLaw} {q : Program} {loose : List Str} {XP : (Str → Option Value) → Heap → Prop} {YP : World → Heap → Prop} {d : DefRec} {K : Params → PySem.W.Frag} {k : Nat} {x : Str} {sp : PySem.W.Frag → Sp} (hn : l.most = some 63) (hdf : d.params.defaults = []) (hr : Room k callerA)
    (hY : ∀ (w : World) (h : Heap), YP w h → (K w.params).In h)
    (hsp : ∀ (K : PySem.W.Frag) (H : Hp) (a : Addr) (ns : List Int), ns.length ≤ 63 → Only H → SqL K H a (ns.map V.int) → sp K [.ref a] H (fun v _ => v = .bl true) fun _ _ _ => False)
    (F : ∀ (w : World) (mg : Str → Option Value) (fa : Addr) (h : Heap), (K w.params).In h → h.Ns mainGlobals mg → mg d.name = some (.ref fa) →
      ∃ fd : FuncData, (∀ (s : Shared) (u : Value), BindsTo s fd ⟨[u], []⟩ [(x, u)]) ∧ ∀ base : Heap, (K w.params).In base → base.Ns mainGlobals mg → FnOk l.prog w (K w.params) mg base CX0 k fa fd [x] (sp (K w.params))) :
    PySem.W.WalkO q loose XP YP l.row.toRowW d [] (fun f vs => PySem.call f vs) := L2.walk_ofK (n := 63) hn (by decide) hdf hr hY F hsp fun _ _ _ _ z => z
end Cw
set_option Elab.async false
set_option linter.all false
set_option maxRecDepth 100000
set_option maxHeartbeats 4000000
/-! an own exception with fields: what the top has left of it -/
namespace Cw
open PySem PySem.Spec L2
end Cw
set_option Elab.async false
set_option linter.all false
set_option maxRecDepth 100000
set_option maxHeartbeats 4000000
/-! CwHeadK: the head with the law's heap told, by one run of the top over the tree -/
namespace CwTop
open PySem PySem.W PySem.Calls PyProof.Rows
/-- a hook named -/
def TagH (_ : Hook) : Prop := True
theorem headK {r : OpenRow} {q : Program} {K : Params → PySem.W.Frag} {as : List Addr} {ek : ∀ P, as = (K P).map (·.1)} {M : Nat} {loose : List PySem.Str} {d : DefRec} {kwd : List (PySem.Str × PySem.Expr)} (_ : TagH (kHook K as ek))
    (e : opening r.prog = plainProg r.prog.main.scope.names) (f : ∀ s, fenceModules? r.prog s = some s) (run : ∀ w, HandSHeadRun.RunEq r q (kHook K as ek) (fun s => as.map (HandSHeadRun.getT s)) M loose w)
    (hdef : defOf q r.name = some (d, kwd)) (hp : r.prog.theDef r.name = some (d.params, d.body, d.scope)) (hk : kwWritten? d.params.kwonlyargs d.params.kw_defaults = some kwd)
    (hwr : (!r.writes || r.records.isEmpty) = true) (k1 : r.wellSaid = true) (ok : (chainsOk q && opensWell r.prog && (frees r.toRowW && r.within.isEmpty)) = true) (hb : r.prog.bare) (hw : r.toRowW.promised)
    (call : WalkO q loose (XL q []) (kHook K as ek).says r.toRowW d kwd fun f vs => PySem.call f vs) : r.Holds :=
  HandSHeadRun.head_any (ob := fun s => as.map (HandSHeadRun.getT s)) (fun s => List.map_congr_left fun a _ => HandSHeadRun.getT_eq s a) e f run hdef hp hk hwr k1 ok hb hw call
end CwTop
set_option Elab.async false
set_option linter.all false
set_option maxRecDepth 100000
namespace CwTop
open PySem PySem.W PySem.Calls PyProof.Rows
abbrev topRow : OpenRow := OpenLaw.row PySem.Challenge.rw_crosswalls_k25_whole_bridges
abbrev topView : Program := view topRow.prog [topRow.prog.main.body.length - 1]
def topLoose : List PySem.Str := topRow.prog.boundNames.filter fun x => x != topRow.name
end CwTop
open PySem PySem.W PySem.Calls PyProof.Rows in
local macro_rules | `(tactic| o_head $H) => `(tactic| refine CwTop.headK (r := CwTop.topRow) (q := CwTop.topView) (M := 9000) (loose := CwTop.topLoose) (show CwTop.TagH $H from trivial) (by kernel_rfl) (fun s => by kernel_rfl) (fun w => by intro os; kernel_rfl) (by rfl) (by rfl) (by rfl) (by rfl) (by first | assumption | decide +kernel) (by decide +kernel) ⟨rfl, rfl, rfl, rfl, rfl, by decide +kernel⟩ ?hw ?hc)
open PySem PySem.W PyProof.Rows in
set_option maxHeartbeats 0 in
open_top Cw.headOf for PySem.Challenge.rw_crosswalls_k25_whole_bridges
set_option Elab.async false
set_option linter.all false
set_option maxRecDepth 100000
set_option maxHeartbeats 4000000
namespace Cw
open PySem PySem.Spec L2
local macro_rules | `(tactic| walk_at "side") => `(tactic| first | omega | assumption | (dsimp only; omega) | (unfold CMul; omega) | exact ⟨by decide, by decide, by decide⟩ | exact wdiv (by first | assumption | decide | omega) (by first | assumption | decide | omega) | (simp only [List.length_cons, List.length_nil]; omega) | rfl)
local macro_rules | `(tactic| walk_at "hl") => `(tactic| first | assumption | exact upd_same | ((refine Cw.Same.at (by assumption) ?_); walk_at "hl") | ((refine Cw.Keep.at (by assumption) ?_ (by assumption)); walk_at "hl"))
local macro_rules | `(tactic| walk_at "st") => `(tactic| first
  | (with_reducible refine s_seq ?_) | (with_reducible refine g_nm ?_) | (with_reducible refine s_next ?_) | (with_reducible refine s_set ?_) | (with_reducible refine s_drop ?_) | (with_reducible refine s_ret ?_) | (with_reducible refine s_if ?_)
  | ((with_reducible refine e_varG ?_); refine ⟨_, (by with_unfolding_all rfl), ?_⟩) | (with_reducible refine e_c ?_) | (with_reducible refine e_op ?_) | (with_reducible refine e_un ?_)
  | (with_reducible refine e_cons ?_) | (with_reducible refine e_nil ?_) | (with_reducible refine e_cb ?_) | (with_reducible refine e_call ?_) | (with_reducible refine e_md ?_)
  | (with_reducible refine t_test ?_) | (with_reducible refine t_B ?_) | (with_reducible refine t_and ?_) | (with_reducible refine t_or ?_) | (with_reducible refine t_not ?_)
  | (with_reducible refine e_andV ?_) | (with_reducible refine e_orV ?_) | (with_reducible refine e_notV ?_) | (with_reducible refine e_if ?_)
  | (with_reducible refine v_I0 ?_) | ((with_reducible refine v_I ?c ?_); try (case c => walk_at "side")) | (with_reducible refine v_bl ?_)
  | ((with_reducible refine v_eq ?c ?_); (case c => with_unfolding_all rfl)) | ((with_reducible refine v_ne ?c ?_); (case c => with_unfolding_all rfl))
  | (with_reducible refine v_inti ?_) | (with_reducible refine v_intb ?_) | ((with_reducible refine v_lenG ?_); refine ⟨_, (by walk_at "hl"), ?_⟩)
  | ((with_reducible refine v_lenS ?c ?_); try (case c => walk_at "side"))
  | (with_reducible refine e_dnew ?_) | (with_reducible refine e_dget ?_) | (with_reducible refine s_dput ?_) | (with_reducible refine e_lst ?_) | (with_reducible refine e_tup ?_)
  | ((with_reducible refine v_lst ?c ?_); (case c => walk_at "side")) | ((with_reducible refine v_tup ?c ?_); (case c => walk_at "side"))
  | ((with_reducible refine v_dgetG ?_); refine ⟨_, (by assumption), ?_⟩)
  | (with_reducible refine e_sl ?_) | (with_reducible refine e_nopart ?_) | (with_reducible refine e_part ?_) | (with_reducible refine e_m1 ?_) | (with_reducible refine v_isS ?_) | (with_reducible refine v_int ?_)
  | (with_reducible refine e_lc ?_) | (with_reducible refine e_iStr ?_) | (with_reducible refine e_iEnumS ?_) | (with_reducible refine v_iEnumS ?_) | (with_reducible refine v_str ?_) | (with_reducible refine e_yes ?_) | (with_reducible refine e_fld ?_) | (with_reducible refine e_sfld ?_)
  | ((with_reducible refine v_addS ?c ?_); try (case c => walk_at "side")) | (with_reducible refine v_inS ?_) | (with_reducible refine v_notInS ?_) | (with_reducible refine v_ltS ?_)
  | ((with_reducible refine v_inLG ?_); refine ⟨_, (by walk_at "hl"), ?_⟩) | (with_reducible refine v_isiS ?_) | (with_reducible refine e_revS ?_) | ((with_reducible refine v_revS ?c ?_); try (case c => walk_at "side"))
  | ((with_reducible refine v_lenSetG ?_); refine ⟨_, (by walk_at "hl"), ?_⟩)
  | (with_reducible refine e_bm ?_) | (with_reducible refine e_bm0 ?_) | ((with_reducible refine v_tyLG ?_); refine ⟨_, (by walk_at "hl"), ?_⟩)
  | (with_reducible refine iteNT ?_) | (with_reducible refine iteNF ?_) | (with_reducible refine e_for ?_)
  | (with_reducible refine e_iL ?_) | (with_reducible refine e_iT ?_) | ((with_reducible refine v_iLG ?_); refine ⟨_, (by walk_at "hl"), ?_⟩) | (with_reducible refine e_iR1 ?_) | ((with_reducible refine v_iR1 ?c1 ?c2 ?_); try (case c1 => walk_at "side"); try (case c2 => walk_at "side"))
  | (with_reducible refine e_iR2 ?_) | ((with_reducible refine v_iR2 ?c1 ?_); try (case c1 => walk_at "side"))
  | (with_reducible refine e_pr0 ?_) | (with_reducible refine e_pr ?_) | (with_reducible refine e_disp ?_) | (with_reducible refine s_asgT ?_) | (with_reducible refine e_tryA ?_) | (with_reducible refine e_callS ?_) | (with_reducible refine e_mdS ?_) | (with_reducible refine e_par ?_) | (with_reducible refine v_par ?_) | (with_reducible refine e_par3 ?_) | (with_reducible refine v_par3 ?_) | (with_reducible refine e_iK ?_) | (with_reducible refine e_dnotin ?_)
  | (with_reducible refine iteT ?_) | (with_reducible refine iteF ?_))
local macro_rules | `(tactic| walk_at "go") => `(tactic| repeat walk_at "st")
section
open PySem PySem.Spec L2
def top (i : Nat) : Stmt := PySem.Challenge.pw_crosswalls_k25_whole_bridges.main.body.getD i (.Pass ⟨0, 0, 0, 0⟩)
/-! ### the pen -/
def penL (cl : Addr) (a r : Int) : List (Key × V) := [(Sum.inr "cells", .ref cl), (Sum.inr "place", .int a), (Sum.inr "rest", .int r)]
structure Pen where
  p : Addr
  cl : Addr
  cells : List Int
structure PenAt (g : Pen) (H : Hp) (n : Nat) : Prop where
  ex : ∃ (a r : Int), H g.p = some (.dK (penL g.cl a r)) ∧ H g.cl = some (.lst (g.cells.map V.int)) ∧ g.cells.length ≤ 63 ∧ 0 ≤ a ∧ a ≤ n ∧ 0 ≤ r
section
variable {g : Pen} {H H' : Hp} {n m : Nat} {q : Addr}
theorem PenAt.mono (h : PenAt g H n) (l : n ≤ m) : PenAt g H m := by
  obtain ⟨a, r, h1, h2, h3, h4, h5, h6⟩ := h.ex
  exact ⟨a, r, h1, h2, h3, h4, by omega, h6⟩
theorem PenAt.same (h : PenAt g H n) (s : Same H H') : PenAt g H' n := by
  obtain ⟨a, r, h1, h2, h3, h4, h5, h6⟩ := h.ex
  exact ⟨a, r, s _ _ h1, s _ _ h2, h3, h4, h5, h6⟩
theorem PenAt.keep (h : PenAt g H n) (s : Keep q H H') (n1 : g.p ≠ q) (n2 : g.cl ≠ q) : PenAt g H' n := by
  obtain ⟨a, r, h1, h2, h3, h4, h5, h6⟩ := h.ex
  exact ⟨a, r, s _ _ h1 n1, s _ _ h2 n2, h3, h4, h5, h6⟩
theorem PenAt.p_ne (h : PenAt g H n) (s : H q = none) : g.p ≠ q := by
  obtain ⟨a, r, h1, h2, h3, h4, h5, h6⟩ := h.ex
  exact ne_of_none h1 s
theorem PenAt.cl_ne (h : PenAt g H n) (s : H q = none) : g.cl ≠ q := by
  obtain ⟨a, r, h1, h2, h3, h4, h5, h6⟩ := h.ex
  exact ne_of_none h2 s
end
theorem kcp : ¬ ((Sum.inr ("cells" : Str) : Key) = Sum.inr ("place" : Str)) := by decide +kernel
theorem kcr : ¬ ((Sum.inr ("cells" : Str) : Key) = Sum.inr ("rest" : Str)) := by decide +kernel
theorem kpr : ¬ ((Sum.inr ("place" : Str) : Key) = Sum.inr ("rest" : Str)) := by decide +kernel
section
variable {H : Hp} {p cl : Addr} {a r z : Int}
theorem pen_cells (h : H p = some (.dK (penL cl a r))) : DGet H p (.str "cells") (some (.ref cl)) := by
  have e := DGet.k (k := Sum.inr "cells") h
  rw [penL, valV_pos rfl] at e
  exact e
theorem pen_place (h : H p = some (.dK (penL cl a r))) : DGet H p (.str "place") (some (.int a)) := by
  have e := DGet.k (k := Sum.inr "place") h
  rw [penL, valV_neg kcp, valV_pos rfl] at e
  exact e
theorem pen_rest (h : H p = some (.dK (penL cl a r))) : DGet H p (.str "rest") (some (.int r)) := by
  have e := DGet.k (k := Sum.inr "rest") h
  rw [penL, valV_neg kcr, valV_neg kpr, valV_pos rfl] at e
  exact e
theorem put_place : putK (penL cl a r) (Sum.inr "place") (.int z) = penL cl z r := by
  unfold putK penL
  rw [if_pos (by rw [valV_any]; first | (rw [valV_neg kcp, valV_pos rfl] <;> rfl) | (rw [valV_neg kcr, valV_neg kpr, valV_pos rfl] <;> rfl))]
  show [(if _ then _ else _), (if _ then _ else _), (if _ then _ else _)] = _
  rw [if_neg kcp, if_pos rfl, if_neg (fun e => kpr e.symm)]
theorem put_rest : putK (penL cl a r) (Sum.inr "rest") (.int z) = penL cl a z := by
  unfold putK penL
  rw [if_pos (by rw [valV_any]; first | (rw [valV_neg kcp, valV_pos rfl] <;> rfl) | (rw [valV_neg kcr, valV_neg kpr, valV_pos rfl] <;> rfl))]
  show [(if _ then _ else _), (if _ then _ else _), (if _ then _ else _)] = _
  rw [if_neg kcr, if_neg kpr, if_pos rfl]
theorem pen_setPlace (h : H p = some (.dK (penL cl a r))) : DPut H p (.str "place") (.int z) (upd H p (.dK (penL cl z r))) := by
  have e := DPut.k (k := Sum.inr "place") (v := .int z) h (by show 3 < sizeLine; decide)
  rw [put_place] at e
  exact e
theorem pen_setRest (h : H p = some (.dK (penL cl a r))) : DPut H p (.str "rest") (.int z) (upd H p (.dK (penL cl a z))) := by
  have e := DPut.k (k := Sum.inr "rest") (v := .int z) h (by show 3 < sizeLine; decide)
  rw [put_rest] at e
  exact e
end
/-! ### the module's built-in names -/
structure Txt (K : PySem.W.Frag) (mg : Str → Option Value) : Prop where
  len : mg "len" = none
  int : mg "int" = none
  list : mg "list" = none
def spDraw : Sp := fun vs H Q _ => ∃ (g : Pen) (m : Int) (n : Nat), vs = [.ref g.p, .int m] ∧ 0 < m ∧ m < 1000000 ∧ PenAt g H n ∧ n < 1000000 ∧
  ∀ (z : Int) (H' : Hp), 0 ≤ z → z < m → PenAt g H' (n + 1) → Keep g.p H H' → Q (.int z) H'
section
variable {P : Program} {w : World} {K : PySem.W.Frag} {mg : Str → Option Value} {base : Heap}
abbrev stdraw : Stmt := (top 48)
abbrev Ndraw : List Str := ["_law_pen_here", "_law_number", "_law_digit", "_law_at", "_law_cell", "_law_mixed"]
theorem scdraw : FnScope Ndraw ["_law_pen_here", "_law_number"] (defScope stdraw) := ⟨rfl, rfl, rfl, by decide +kernel, rfl, by decide +kernel, by decide +kernel⟩

theorem ok_draw (F : FnAt K mg "_law_draw" stdraw) (T : Txt K mg) : Def P w K mg base CX0 1 "_law_draw" ["_law_pen_here", "_law_number"] spDraw := by
  refine F.ok scdraw (fun _ _ _ _ _ _ us hl => match us, hl with | [_, _], _ => rfl) (fun vs H Q E h => ?_) (fun f cdv A outer s H vs Q E hr h => ?_)
  · obtain ⟨p, m, n, rfl, _⟩ := h
    rfl
  obtain ⟨⟨p, cl, cells⟩, m, n, rfl, hm0, hm1, hp, hn, k⟩ := h
  have hu := hu_of hr
  have nd := scdraw.nd
  refine ⟨_, (pss_cons (ps_if (pt_cmpR op_ge (pe_dget hu (pv 0) pe_str (fun _ _ => rfl)) (pv 1) (nomark _))
      (pss_cons (ps_set (i := 2) nd rfl (Or.inl rfl) (pe_op op_mod (pe_callTy c_int (by rfl) T.int (by decide +kernel) (pa_cons (pe_dget hu (pv 0) pe_str (fun _ _ => rfl)) pa_nil)) (pv 1)))
        (pss_cons (ps_dput hu (pv 0) pe_str (pe_op op_fdivW (pe_dget hu (pv 0) pe_str (fun _ _ => rfl)) (pv 1)) rfl)
        (pss_one (ps_ret (pv 2)))))
      pss_nil)
      (pss_cons (ps_set (i := 3) nd rfl (Or.inl rfl) (pe_dget hu (pv 0) pe_str (fun _ _ => rfl)))
      (pss_cons (ps_dput hu (pv 0) pe_str (pe_op op_add (pv 3) pe_int) rfl)
      (pss_cons (ps_set (i := 4) nd rfl (Or.inl rfl) (pe_op op_add (pe_op op_mul pe_int (pv 3)) pe_int))
      (pss_cutS (ps_if (pt_cmpR (op_neDK (K := K) rfl hr.units) (pe_dget hu (pv 0) pe_str (fun _ _ => rfl)) (pe_lst pa_nil) (nomark _))
      (pss_one (ps_set (i := 4) nd rfl (Or.inl rfl) (pe_ix (ix_LK (K := K) rfl) (pe_dget hu (pv 0) pe_str (fun _ _ => rfl)) (pe_op op_mod (pe_callTy c_int (by rfl) T.int (by decide +kernel) (pa_cons (pv 3) pa_nil)) (pe_callB (c_lenK (K := K) rfl) (by rfl) T.len PySem.boot_len (pa_cons (pe_dget hu (pv 0) pe_str (fun _ _ => rfl)) pa_nil))) (fun _ _ => rfl))))
      pss_nil)
      (pss_cutS (ps_if (PW.pt (pw_and (pt_cmpR op_lt (pv 3) (pe_callB (c_lenK (K := K) rfl) (by rfl) T.len PySem.boot_len (pa_cons (pe_dget hu (pv 0) pe_str (fun _ _ => rfl)) pa_nil)) (nomark _)) (pw_and1 (pt_cmpR op_ge (pv 4) (pe_op op_pow pe_int pe_int) (nomark _)))))
      (pss_cons (ps_dput hu (pv 0) pe_str (pe_op op_fdivW (pe_op op_sub (pv 4) (pe_op op_pow pe_int pe_int)) (pv 1)) rfl)
        (pss_one (ps_ret (pe_op op_mod (pe_callTy c_int (by rfl) T.int (by decide +kernel) (pa_cons (pe_op op_sub (pv 4) (pe_op op_pow pe_int pe_int)) pa_nil)) (pv 1)))))
      pss_nil)
      (pss_cons (ps_set (i := 5) nd rfl (Or.inl rfl) (pe_op op_mod (pe_callTy c_int (by rfl) T.int (by decide +kernel) (pa_cons (pe_op op_add (pe_op op_add (pe_op op_add (pe_op op_mul (pe_op op_mod (pe_callTy c_int (by rfl) T.int (by decide +kernel) (pa_cons (pv 4) pa_nil)) pe_int) pe_int) (pe_op op_mul (pe_op op_mul pe_int (pv 3)) (pv 3))) (pe_op op_mul pe_int (pv 3))) pe_int) pa_nil)) pe_int))
      (pss_cons (ps_set (i := 5) nd rfl (Or.inl rfl) (pe_op op_mod (pe_callTy c_int (by rfl) T.int (by decide +kernel) (pa_cons (pe_op op_add (pe_op op_mul (pv 5) (pe_op op_add (pv 5) pe_int)) (pe_op op_mul pe_int (pv 3))) pa_nil)) pe_int))
      (pss_one (ps_ret (pe_op op_mod (pe_callTy c_int (by rfl) T.int (by decide +kernel) (pa_cons (pe_op op_fdivW (pe_op op_mod (pe_callTy c_int (by rfl) T.int (by decide +kernel) (pa_cons (pe_op op_add (pe_op op_mul (pv 5) (pv 5)) (pe_op op_mul pe_int (pv 5))) pa_nil)) pe_int) pe_int) pa_nil)) (pv 1)))))))))))), ?_⟩
  refine s_start [some _, some _, none, none, none, none] rfl ?_
  obtain ⟨a, r, h1, h2, h3, h4, h5, h6⟩ := hp.ex
  dsimp only at h1 h2 h3 k ⊢
  have g1 := pen_rest h1
  have g2 := pen_place h1
  have g3 := pen_cells h1
  have fin : ∀ (H2 : Hp) (a2 r2 z : Int), H2 p = some (.dK (penL cl a2 r2)) → Keep p H H2 → 0 ≤ a2 → a2 ≤ a + 1 → 0 ≤ r2 → 0 ≤ z → z < m → Q (.int z) H2 := by
    intro H2 a2 r2 z e1 e2 e3 e4 e5 e6 e7
    have ne : cl ≠ p := ne_of h2 h1 (by intro z; cases z)
    exact k z H2 e6 e7 ⟨a2, r2, e1, e2 _ _ h2 ne, h3, e3, by omega, e5⟩ e2
  walk_at "go"
  refine if_dec (fun c => ?_) (fun c => ?_)
  · walk_at "go"
    refine v_put (pen_setRest h1) fun H1 s1 e1 => ?_
    walk_at "go"
    refine fin H1 _ _ _ e1 s1 h4 (by omega) (Int.ediv_nonneg h6 (by omega)) (Int.emod_nonneg _ (by omega)) (Int.emod_lt_of_pos _ hm0)
  · walk_at "go"
    refine v_put (pen_setPlace h1) fun H1 s1 e1 => ?_
    have ne : cl ≠ p := ne_of h2 h1 (by intro z; cases z)
    have h2' := s1 _ _ h2 ne
    have g1 := pen_rest e1
    have g3 := pen_cells e1
    walk_at "go"
    refine s_cut (fun σ' H' => ∃ c : Int, σ' = [some (.ref p), some (.int m), none, some (.int a), some (.int c), none] ∧ Same H1 H') ?_ ?_
    · walk_at "go"
      intro q H2 hq s2 e2
      refine v_neNilI (s2 _ _ h2') e2 ?_
      have g3 := pen_cells (s2 _ _ e1)
      walk_at "go"
      refine if_bool (fun c => ?_) (fun c => ?_)
      · have hne : 0 < cells.length := by
          cases cells with
          | nil => simp at c
          | cons _ _ => simp
        walk_at "go"
        · rw [List.length_map]; omega
        walk_at "go"
        rw [List.length_map]
        have hz0 : 0 ≤ a % (cells.length : Int) := Int.emod_nonneg _ (by omega)
        have hz1 : a % (cells.length : Int) < cells.length := Int.emod_lt_of_pos _ (by omega)
        have hlt : (a % (cells.length : Int)).toNat < cells.length := by omega
        refine v_ixL (s2 _ _ h2') (at_of (j := (a % (cells.length : Int)).toNat) (by omega) (by rw [List.getElem?_map, List.getElem?_eq_getElem hlt]; rfl)) ?_
        exact ⟨_, rfl, s2⟩
      · walk_at "go"
        exact ⟨_, rfl, s2⟩
    · rintro σ' H2 ⟨c, rfl, s2⟩
      have e2 := s2 _ _ e1
      have h22 := s2 _ _ h2'
      have g3 := pen_cells e2
      have kk : Keep p H H2 := s1.trans (Keep.of s2)
      have ze : (10 : Int) ^ (18 : Int).toNat = 1000000000000000000 := by decide
      refine s_cut (fun σ' H' => σ' = [some (.ref p), some (.int m), none, some (.int a), some (.int c), none] ∧ H' = H2) ?_ ?_
      · walk_at "go"
        refine if_dec (fun c1 => ?_) (fun c1 => ?_)
        · walk_at "go"
          rw [ze]
          refine if_dec (fun c2 => ?_) (fun c2 => ?_)
          · walk_at "go"
            rw [ze]
            refine v_put (pen_setRest e2) fun H3 s3 e3 => ?_
            walk_at "go"
            rw [ze]
            exact fin H3 _ _ _ e3 (kk.trans s3) (by omega) (by omega) (Int.ediv_nonneg (by omega) (by omega)) (Int.emod_nonneg _ (by omega)) (Int.emod_lt_of_pos _ hm0)
          · walk_at "go"
            exact ⟨rfl, rfl⟩
        · walk_at "go"
          exact ⟨rfl, rfl⟩
      · rintro σ' H' ⟨rfl, rfl⟩
        walk_at "go"
        exact fin H' _ _ _ e2 kk (by omega) (by omega) h6 (Int.emod_nonneg _ (by omega)) (Int.emod_lt_of_pos _ hm0)
end
end
section
open PySem PySem.Spec L2
structure TxtP (K : PySem.W.Frag) (mg : Str → Option Value) (C : Addr) : Prop where
  len : mg "len" = none
  int : mg "int" = none
  list : mg "list" = none
  isinstance : mg "isinstance" = none
  str : mg "str" = none
  all : mg "all" = none
  set : mg "set" = none
  tuple : mg "tuple" = none
  g_LETTERS : ∃ t, mg "LETTERS" = some (.str (tx LET) t)
  g_MOST_KINDS : ∃ t, mg "MOST_KINDS" = some (.int 8 t)
  Plan : ClsF K mg "Plan" C
  nK : NoAttr K C "kinds"
  nP : NoAttr K C "pairs"
  nO : NoAttr K C "own_crossing"
def spAreLetters : Sp := fun vs H Q _ => ∃ l : List Nat, vs = [.str (tx l)] ∧ l.length < 1000 ∧ ∀ H', Same H H' → Q (.bl (decide ((∀ c ∈ l, c ∈ LET) ∧ l.Nodup))) H'
def spAscending : Sp := fun vs H Q _ => ∃ l : List Nat, vs = [.str (tx l)] ∧ ∀ H', Same H H' → Q (.str (tx (ascOf l))) H'
def spIsList (K : PySem.W.Frag) : Sp := fun vs H Q _ => ∃ (p : Addr) (xs : List V), vs = [.ref p] ∧ SeqO K H p xs ∧ ∀ H', Same H H' → Q (.bl true) H'
def spNeedFew : Sp := fun vs H Q _ => ∃ l : List Nat, vs = [.str (tx l)] ∧ l.length ≤ 8 ∧ Q .non H
section
variable {P : Program} {w : World} {K : PySem.W.Frag} {mg : Str → Option Value} {base : Heap} {C : Addr}
abbrev stare_letters : Stmt := (top 39)
abbrev Nare_letters : List Str := ["value", "letter"]
theorem scare_letters : FnScope Nare_letters ["value"] (defScope stare_letters) := ⟨rfl, rfl, rfl, by decide +kernel, rfl, by decide +kernel, by decide +kernel⟩

theorem ok_are_letters (F : FnAt K mg "are_letters" stare_letters) (T : TxtP K mg C) : Def P w K mg base CX0 1 "are_letters" ["value"] spAreLetters := by
  refine F.ok scare_letters (fun _ _ _ _ _ _ us hl => match us, hl with | [_], _ => rfl) (fun vs H Q E h => ?_) (fun f cdv A outer s H vs Q E hr h => ?_)
  · obtain ⟨l, rfl, _⟩ := h
    rfl
  obtain ⟨l, rfl, hl, k⟩ := h
  have hu := hu_of hr
  have nd := scare_letters.nd
  refine ⟨_, (pss_one (ps_ret (pe_and (pe_callB (c_isiK (K := K) rfl) (by rfl) T.isinstance (by decide +kernel) (pa_cons (pv 0) (pa_cons (pe_bltn (v := .ty "str") (u := .type "str") (by rfl) T.str (by decide +kernel) rfl) pa_nil))) (pe_and (pe_callB (c_allK (K := K) rfl rfl) (by rfl) T.all (by decide +kernel) (pa_cons (pe_lc (own := [("letter", 1)]) (g := gName 1) (by rfl) nd (pi_str (pv 0)) (blkOk_by (own := [("letter", 1)]) (N := Nare_letters) (sc := defScope stare_letters) (by decide +kernel)) (fun _ _ _ _ _ => (pg_name (i := 1) nd rfl (Or.inl rfl))) (fun _ _ _ _ _ => pts_nil) (fun _ _ _ _ _ => (pe_cmpR op_inS (pv 1) (pe_globS T.g_LETTERS) (by rfl)))) pa_nil)) (pe_one (pe_cmpR op_eq (pe_callB c_lenSet (by rfl) T.len PySem.boot_len (pa_cons (pe_callTy (c_setS rfl) (by rfl) T.set (by decide +kernel) (pa_cons (pv 0) pa_nil)) pa_nil)) (pe_callB c_lenS (by rfl) T.len PySem.boot_len (pa_cons (pv 0) pa_nil)) (nomark _))))))), ?_⟩
  refine s_start [some _, none] rfl ?_
  walk_at "go"
  refine v_lcS (b := fun _ => true) (f := fun c => V.bl (decide (c ∈ LET))) (by omega) (fun c _ H1 s1 R r => ?_) (fun c _ _ H1 s1 R r => ?_) (fun D H1 hD s1 e1 => ?_)
  · walk_at "go"
    exact r H1 (Same.refl _)
  · walk_at "go"
    exact r H1 (Same.refl _)
  walk_at "go"
  have e2 : H1 D = some (.lst ((l.map fun c => decide (c ∈ LET)).map V.bl)) := by
    rw [e1, List.map_map, filter_yes]
    rfl
  refine v_all e2 ?_
  walk_at "go"
  have ha : (l.map fun c => decide (c ∈ LET)).all id = decide (∀ c ∈ l, c ∈ LET) := by
    rw [Bool.eq_iff_iff, List.all_eq_true, decide_eq_true_iff]
    simp
  rw [ha]
  refine if_dec (fun c => ?_) (fun c => ?_)
  · walk_at "go"
    refine v_setS (by omega) fun p H2 hp s2 e2 => ?_
    walk_at "go"
    have e3 : decide (V.int ((metOf (l.map fun c => tx [c])).length : Int) = V.int (l.length : Int)) = decide ((∀ c ∈ l, c ∈ LET) ∧ l.Nodup) := by
      rw [dec_int, Bool.eq_iff_iff, decide_eq_true_iff, beq_iff_eq]
      have := metOf_ones l
      constructor
      · intro e
        exact ⟨c, this.mp (by omega)⟩
      · intro e
        have := this.mpr e.2
        omega
    rw [e3]
    exact k H2 (s1.trans s2)
  · have e3 : decide ((∀ c ∈ l, c ∈ LET) ∧ l.Nodup) = false := decide_eq_false fun z => c z.1
    rw [e3] at k
    exact k H1 s1
abbrev stascending : Stmt := (top 40)
abbrev Nascending : List Str := ["letters", "letter"]
theorem scascending : FnScope Nascending ["letters"] (defScope stascending) := ⟨rfl, rfl, rfl, by decide +kernel, rfl, by decide +kernel, by decide +kernel⟩

theorem ok_ascending (F : FnAt K mg "ascending" stascending) (T : TxtP K mg C) : Def P w K mg base CX0 1 "ascending" ["letters"] spAscending := by
  refine F.ok scascending (fun _ _ _ _ _ _ us hl => match us, hl with | [_], _ => rfl) (fun vs H Q E h => ?_) (fun f cdv A outer s H vs Q E hr h => ?_)
  · obtain ⟨l, rfl, _⟩ := h
    rfl
  obtain ⟨l, rfl, k⟩ := h
  have hu := hu_of hr
  have nd := scascending.nd
  refine ⟨_, (pss_one (ps_ret (pe_joinK (K := K) rfl (pe_tx [] (by decide +kernel)) (pe_lc (own := [("letter", 1)]) (g := gName 1) (by rfl) nd (pi_str (pe_globS T.g_LETTERS)) (blkOk_by (own := [("letter", 1)]) (N := Nascending) (sc := defScope stascending) (by decide +kernel)) (fun _ _ _ _ _ => (pg_name (i := 1) nd rfl (Or.inl rfl))) (fun _ _ _ _ _ => (pts_one (pt_cmpR op_inS (pv 1) (pv 0) (by rfl)))) (fun _ _ _ _ _ => (pv 1)))))), ?_⟩
  refine s_start [some _, none] rfl ?_
  walk_at "go"
  refine v_lcS (l := LET) (b := fun c => decide (c ∈ l)) (f := fun c => V.str (tx [c])) (by decide) (fun c _ H1 s1 R r => ?_) (fun c _ _ H1 s1 R r => ?_) (fun D H1 hD s1 e1 => ?_)
  · walk_at "go"
    exact r H1 (Same.refl _)
  · walk_at "go"
    exact r H1 (Same.refl _)
  walk_at "go"
  rw [strs_ones] at e1
  refine v_join e1 ?_ ?_
  · rw [flat_ones]
    have := ascOf_len l
    unfold ascOf at this
    omega
  · rw [flat_ones]
    exact k H1 s1
abbrev stis_list : Stmt := (top 24)
abbrev Nis_list : List Str := ["value"]
theorem scis_list : FnScope Nis_list ["value"] (defScope stis_list) := ⟨rfl, rfl, rfl, by decide +kernel, rfl, by decide +kernel, by decide +kernel⟩

theorem ok_is_list (F : FnAt K mg "is_list" stis_list) (T : TxtP K mg C) : Def P w K mg base CX0 1 "is_list" ["value"] (spIsList K) := by
  refine F.ok scis_list (fun _ _ _ _ _ _ us hl => match us, hl with | [_], _ => rfl) (fun vs H Q E h => ?_) (fun f cdv A outer s H vs Q E hr h => ?_)
  · obtain ⟨p, xs, rfl, _⟩ := h
    rfl
  obtain ⟨p, xs, rfl, hp, k⟩ := h
  have hu := hu_of hr
  have nd := scis_list.nd
  refine ⟨_, (pss_one (ps_ret (pe_callB (c_isiTK (K := K) rfl) (by rfl) T.isinstance (by decide +kernel) (pa_cons (pv 0) (pa_cons (pe_tup (pa_cons (pe_bltn (v := .ty "list") (u := .type "list") (by rfl) T.list (by decide +kernel) rfl) (pa_cons (pe_bltn (v := .ty "tuple") (u := .type "tuple") (by rfl) T.tuple (by decide +kernel) rfl) pa_nil))) pa_nil))))), ?_⟩
  refine s_start [some _] rfl ?_
  walk_at "go"
  intro t H1 ht s1 e1
  walk_at "go"
  exact v_isiQ (hp.same s1) e1 (k H1 s1)
abbrev stneed_few : Stmt := (top 43)
abbrev Nneed_few : List Str := ["kinds"]
theorem scneed_few : FnScope Nneed_few ["kinds"] (defScope stneed_few) := ⟨rfl, rfl, rfl, by decide +kernel, rfl, by decide +kernel, by decide +kernel⟩

theorem ok_need_few (F : FnAt K mg "need_few" stneed_few) (T : TxtP K mg C) : Def P w K mg base CX0 1 "need_few" ["kinds"] spNeedFew := by
  refine F.ok scneed_few (fun _ _ _ _ _ _ us hl => match us, hl with | [_], _ => rfl) (fun vs H Q E h => ?_) (fun f cdv A outer s H vs Q E hr h => ?_)
  · obtain ⟨l, rfl, _⟩ := h
    rfl
  obtain ⟨l, rfl, hl, k⟩ := h
  have hu := hu_of hr
  have nd := scneed_few.nd
  refine ⟨_, (pss_one (ps_if (pt_cmpR op_gt (pe_callB c_lenS (by rfl) T.len PySem.boot_len (pa_cons (pv 0) pa_nil)) (pe_globI T.g_MOST_KINDS) (nomark _))
      (pss_one ps_never)
      pss_nil)), ?_⟩
  refine s_start [some _] rfl ?_
  walk_at "go"
  refine if_dec (fun c => ?_) (fun c => ?_)
  · omega
  · walk_at "go"
    exact k
end
end
section
open PySem PySem.Spec L2
def spChecked (K : PySem.W.Frag) : Sp := fun vs H Q _ => ∃ (ks : List Nat) (p : Addr) (ps : List (List Nat)), vs = [.str (tx ks), .ref p] ∧ SeqO K H p (strsV ps) ∧ ps.length < 1000 ∧ PairsIn ks ps ∧ (∀ c ∈ ks, c ∈ LET) ∧
  ∀ t H', H t = none → Same H H' → H' t = some (.tup (strsV (pairsOf (ps.map ascOf)))) → Q (.ref t) H'
def spCross : Sp := fun vs H Q _ => ∃ (ks : List Nat) (t : Addr) (ps : List (List Nat)), vs = [.str (tx ks), .ref t] ∧ H t = some (.tup (strsV ps)) ∧ ks.length < 1000 ∧ ks.Nodup ∧
  ∀ d H', H d = none → Same H H' → H' d = some (.dK (crossKV ks ps ks)) → Q (.ref d) H'
section
variable {P : Program} {w : World} {K : PySem.W.Frag} {mg : Str → Option Value} {base : Heap} {C : Addr}
abbrev stchecked_pairs : Stmt := (top 41)
abbrev Nchecked_pairs : List Str := ["kinds", "crossing", "found", "pair", "a", "b"]
theorem scchecked_pairs : FnScope Nchecked_pairs ["kinds", "crossing"] (defScope stchecked_pairs) := ⟨rfl, rfl, rfl, by decide +kernel, rfl, by decide +kernel, by decide +kernel⟩

theorem ok_checked_pairs (F : FnAt K mg "checked_pairs" stchecked_pairs) (T : TxtP K mg C) (D_is_list : Def P w K mg base CX0 1 "is_list" ["value"] (spIsList K)) (D_are_letters : Def P w K mg base CX0 1 "are_letters" ["value"] spAreLetters) (D_ascending : Def P w K mg base CX0 1 "ascending" ["letters"] spAscending) :
    Def P w K mg base CX0 2 "checked_pairs" ["kinds", "crossing"] (spChecked K) := by
  refine F.ok scchecked_pairs (fun _ _ _ _ _ _ us hl => match us, hl with | [_, _], _ => rfl) (fun vs H Q E h => ?_) (fun f cdv A outer s H vs Q E hr h => ?_)
  · obtain ⟨ks, p, ps, rfl, _⟩ := h
    rfl
  obtain ⟨ks, p, ps, rfl, hp, hl, hps, hks, k⟩ := h
  have hu := hu_of hr
  have nd := scchecked_pairs.nd
  refine ⟨_, (pss_cons (ps_if (pt_not (pt_val (pe_cd D_is_list hr pass0 (pa_cons (pv 1) pa_nil))))
      (pss_one ps_never)
      pss_nil)
      (pss_cons (ps_set (i := 2) nd rfl (Or.inr rfl) (pe_lst pa_nil))
      (pss_cons (ps_for PassesOwn.never rfl (pi_or (pi_listK (K := K) rfl (pv 1)) (pi_tupK (K := K) rfl (pv 1))) (pg_name (i := 3) nd rfl (Or.inl rfl))
      (pss_cutS (ps_if (PW.pt (pw_or (pt_not (pt_val (pe_callB (c_isiK (K := K) rfl) (by rfl) T.isinstance (by decide +kernel) (pa_cons (pv 3) (pa_cons (pe_bltn (v := .ty "str") (u := .type "str") (by rfl) T.str (by decide +kernel) rfl) pa_nil))))) (pw_or (pt_cmpR op_ne (pe_callB c_lenS (by rfl) T.len PySem.boot_len (pa_cons (pv 3) pa_nil)) pe_int (nomark _)) (pw_or1 (pt_not (pt_val (pe_cd D_are_letters hr pass0 (pa_cons (pv 3) pa_nil))))))))
        (pss_one ps_never)
        pss_nil)
        (pss_cutS (ps_if (PW.pt (pw_or (pt_cmpR op_notInS (pe_ix ix_str (pv 3) pe_int (fun _ _ => rfl)) (pv 0) (by rfl)) (pw_or1 (pt_cmpR op_notInS (pe_ix ix_str (pv 3) pe_int (fun _ _ => rfl)) (pv 0) (by rfl)))))
        (pss_one ps_never)
        pss_nil)
        (pss_one (ps_expr (pe_appK (K := K) rfl (pv 2) (pe_cd D_ascending hr pass0 (pa_cons (pv 3) pa_nil))))))))
      (pss_one (ps_ret (pe_callTy (c_tupleK (K := K) rfl) (by rfl) T.tuple (by decide +kernel) (pa_cons (pe_lc2 (own := [("a", 4), ("b", 5)]) (vs1 := [5]) (by rfl) nd (pi_str (pe_globS T.g_LETTERS)) (blkOk_by (own := [("a", 4), ("b", 5)]) (N := Nchecked_pairs) (sc := defScope stchecked_pairs) (by decide +kernel)) (by decide) (fun _ _ _ _ _ => (pg_name (i := 4) nd rfl (Or.inl rfl))) (fun _ _ _ _ _ => pts_nil) (fun _ _ _ _ _ => (pi_str (pe_globS T.g_LETTERS))) (fun _ _ _ _ _ => (pg_name (i := 5) nd rfl (Or.inl rfl))) (fun _ _ _ _ _ => (pts_one (pt_cmpR (op_inLK (K := K) rfl) (pe_op op_addS (pv 4) (pv 5)) (pv 2) (by rfl)))) (fun _ _ _ _ _ => (pe_op op_addS (pv 4) (pv 5)))) pa_nil))))))), ?_⟩
  refine s_start [some _, some _, none, none, none, none] rfl ?_
  walk_at "go"
  refine ⟨p, _, rfl, hp, fun H1 s1 => ?_⟩
  walk_at "go"
  intro q H2 hq s2 e2
  walk_at "go"
  refine e_forSeq (xs := strsV ps) hp (s1.trans s2) (fun Q q => by walk_at "go"; exact q) (fun k σ H' => ∃ x, σ = [some (.str (tx ks)), some (.ref p), some (.ref q), x, none, none] ∧ Same H H' ∧ H' q = some (.lst (strsV ((ps.take k).map ascOf)))) ⟨_, rfl, s1.trans s2, e2⟩ ?_ ?_ ?_
  · rintro i σ H' ⟨x, rfl, s3, e3⟩
    exact s3
  · rintro i v σ H3 H4 hi ⟨x, rfl, s3, e3⟩ ⟨rfl, hv⟩
    have hi' : i < ps.length := by simpa using hi
    obtain ⟨a, b, hab, hne, ha, hb⟩ := hps _ (List.getElem_mem hi')
    have hv' : v = .str (tx [a, b]) := by
      have : (strsV ps)[i]? = some (V.str (tx ps[i])) := by
        rw [List.getElem?_map, List.getElem?_eq_getElem hi']
        rfl
      rw [hv, hab] at this
      exact Option.some.inj this
    subst hv'
    have ha2 := hks a ha
    have hb2 := hks b hb
    refine s_cut (fun σ' H' => σ' = [some (.str (tx ks)), some (.ref p), some (.ref q), some (.str (tx [a, b])), none, none] ∧ Same H4 H') ?_ ?_
    · walk_at "go"
      refine if_ndec (fun c => absurd rfl c) (fun _ => ?_)
      walk_at "go"
      refine ⟨[a, b], rfl, by simp, fun H5 s5 => ?_⟩
      have e5 : decide ((∀ c ∈ [a, b], c ∈ LET) ∧ [a, b].Nodup) = true := by
        rw [decide_eq_true_iff]
        refine ⟨?_, by simp [hne]⟩
        intro c hc
        simp only [List.mem_cons, List.not_mem_nil, or_false] at hc
        rcases hc with rfl | rfl <;> assumption
      rw [e5]
      walk_at "go"
      exact ⟨rfl, s5⟩
    · rintro σ' H5 ⟨rfl, s5⟩
      refine s_cut (fun σ' H' => σ' = [some (.str (tx ks)), some (.ref p), some (.ref q), some (.str (tx [a, b])), none, none] ∧ H' = H5) ?_ ?_
      · walk_at "go"
        refine v_ixS (c := a) (by simp) rfl ?_
        walk_at "go"
        refine if_ndec (fun c => absurd ha c) (fun _ => ?_)
        walk_at "go"
        refine v_ixS (c := b) (by simp) rfl ?_
        walk_at "go"
        refine if_ndec (fun c => absurd hb c) (fun _ => ?_)
        walk_at "go"
        exact ⟨rfl, rfl⟩
      · rintro σ' H6 ⟨rfl, rfl⟩
        have e6 := s5 _ _ e3
        walk_at "go"
        refine ⟨[a, b], rfl, fun H7 s7 => ?_⟩
        walk_at "go"
        refine v_app (s7 _ _ e6) ?_ fun H8 s8 e8 => ?_
        · simp only [strsV, List.length_map, List.length_take]
          omega
        refine ⟨_, rfl, fun b' o hb' => s8 _ _ (s7 _ _ (s5 _ _ (s3 _ _ hb'))) (ne_of_none hb' (L2.Same.free s1 hq)), ?_⟩
        rw [e8, List.take_add_one, List.getElem?_eq_getElem hi', hab, List.map_append]
        simp only [strsV, List.map_append]
        rfl
  · rintro σ H3 ⟨x, rfl, s3, e3⟩
    walk_at "go"
    rw [List.take_of_length_le (by simp)] at e3
    refine v_lc2S (lb := LET) (b := fun a b => decide ([a, b] ∈ ps.map ascOf)) (f := fun a b => V.str (tx [a, b])) (by decide) (by decide) (fun c _ H1 s1 R r => r) (fun c d _ _ H1 s1 R r => ?_) (fun c d _ _ _ H1 s1 R r => ?_) (fun D H5 hD s5 e5 => ?_)
    · have e1 := s1 _ _ e3
      walk_at "go"
      exact r H1 (Same.refl _)
    · walk_at "go"
      exact r H1 (Same.refl _)
    · walk_at "go"
      refine v_tuple e5 fun t H6 ht s6 e6 => ?_
      refine k t H6 (L2.Same.free s3 (L2.Same.free s5 ht)) ((s3.trans s5).trans s6) ?_
      rw [e6]
      unfold strsV pairsOf
      rw [List.map_flatMap]
      simp only [List.map_map]
      rfl
abbrev stcrossing_table : Stmt := (top 45)
abbrev Ncrossing_table : List Str := ["kinds", "pairs", "found", "kind", "other"]
theorem sccrossing_table : FnScope Ncrossing_table ["kinds", "pairs"] (defScope stcrossing_table) := ⟨rfl, rfl, rfl, by decide +kernel, rfl, by decide +kernel, by decide +kernel⟩

theorem ok_crossing_table (F : FnAt K mg "crossing_table" stcrossing_table) (T : TxtP K mg C) : Def P w K mg base CX0 1 "crossing_table" ["kinds", "pairs"] spCross := by
  refine F.ok sccrossing_table (fun _ _ _ _ _ _ us hl => match us, hl with | [_, _], _ => rfl) (fun vs H Q E h => ?_) (fun f cdv A outer s H vs Q E hr h => ?_)
  · obtain ⟨ks, t, ps, rfl, _⟩ := h
    rfl
  obtain ⟨ks, t, ps, rfl, ht, hl, hnd, k⟩ := h
  have hu := hu_of hr
  have nd := sccrossing_table.nd
  refine ⟨_, (pss_cons (ps_set (i := 2) nd rfl (Or.inl rfl) pe_dnewK)
      (pss_cons (ps_for PassesOwn.never rfl (pi_str (pv 0)) (pg_name (i := 3) nd rfl (Or.inr rfl))
      (pss_one (ps_dput hu (pv 2) (pv 3) (pe_joinK (K := K) rfl (pe_tx [] (by decide +kernel)) (pe_lc (own := [("other", 4)]) (g := gName 4) (by rfl) nd (pi_str (pv 0)) (blkOk_by (own := [("other", 4)]) (N := Ncrossing_table) (sc := defScope stcrossing_table) (by decide +kernel)) (fun _ _ _ _ _ => (pg_name (i := 4) nd rfl (Or.inl rfl))) (fun _ _ _ _ _ => (pts_one (PW.pt (pw_or (pt_cmpR (op_inLK (K := K) rfl) (pe_op op_addS (pv 3) (pv 4)) (pv 1) (by rfl)) (pw_or1 (pt_cmpR (op_inLK (K := K) rfl) (pe_op op_addS (pv 4) (pv 3)) (pv 1) (by rfl))))))) (fun _ _ _ _ _ => (pv 4)))) rfl)))
      (pss_one (ps_ret (pv 2))))), ?_⟩
  refine s_start [some _, some _, none, none, none] rfl ?_
  walk_at "go"
  intro d H1 hd s1 e1
  walk_at "go"
  refine for_it (walk_tx ks) (fun k σ H' => ∃ x, σ = [some (.str (tx ks)), some (.ref t), some (.ref d), x, none] ∧ Same H H' ∧ H' d = some (.dK (crossKV ks ps (ks.take k)))) ⟨_, rfl, s1, e1⟩ (fun _ _ _ _ _ => trivial) ?_ ?_
  · rintro i v σ H2 H3 hi ⟨x, rfl, s2, e2⟩ ⟨rfl, rfl⟩
    have h0 := s2 _ _ ht
    show sDPut _ _ _ _ _ _
    walk_at "go"
    refine v_lcS (b := fun o => decide ([ks.getD i 0, o] ∈ ps) || decide ([o, ks.getD i 0] ∈ ps)) (f := fun c => V.str (tx [c])) (by omega) (fun c _ H1 s1 R r => ?_) (fun c _ _ H1 s1 R r => ?_) (fun D H4 hD s4 e4 => ?_)
    · have h1 := s1 _ _ h0
      walk_at "go"
      refine v_inT (SqT.of h1) ?_
      walk_at "go"
      refine if_dec (fun c1 => ?_) (fun c1 => ?_)
      · rw [show [ks.getD i 0] ++ [c] = [ks.getD i 0, c] from rfl] at c1
        rw [decide_eq_true c1, Bool.true_or] at r
        exact r H1 (Same.refl _)
      · rw [show [ks.getD i 0] ++ [c] = [ks.getD i 0, c] from rfl] at c1
        walk_at "go"
        refine v_inT (SqT.of h1) ?_
        walk_at "go"
        rw [decide_eq_false c1, Bool.false_or] at r
        exact r H1 (Same.refl _)
    · walk_at "go"
      exact r H1 (Same.refl _)
    walk_at "go"
    rw [strs_ones] at e4
    refine v_join e4 ?_ ?_
    · rw [flat_ones]
      have := crossOf_len ks ps (ks.getD i 0)
      unfold crossOf at this
      omega
    rw [flat_ones]
    walk_at "go"
    have e5 := s4 _ _ e2
    have hz : valV (crossKV ks ps (ks.take i)) (Sum.inr (tx [ks.getD i 0])) = none := letV_none (take_notin hnd hi)
    refine v_put (DPut.cross e5 hz ?_) fun H6 s6 e6 => ?_
    · unfold crossKV
      rw [List.length_map, List.length_take]
      omega
    refine ⟨_, rfl, fun b o hb => s6 _ _ (s4 _ _ (s2 _ _ hb)) (ne_of_none hb hd), ?_⟩
    rw [e6, take_getD hi]
    unfold crossKV
    rw [List.map_append]
    rfl
  · rintro σ H2 ⟨x, rfl, s2, e2⟩
    rw [List.take_of_length_le (Nat.le_refl _)] at e2
    walk_at "go"
    exact k d H2 hd s2 e2
end
end
section
open PySem PySem.Spec L2
def planF (ks : List Nat) (t d : Addr) : List (Str × V) := putF "own_crossing" (.ref d) (putF "pairs" (.ref t) (putF "kinds" (.str (tx ks)) []))
theorem nkp : ¬ (("kinds" : Str) = "pairs") := by decide +kernel
theorem nko : ¬ (("kinds" : Str) = "own_crossing") := by decide +kernel
theorem npo : ¬ (("pairs" : Str) = "own_crossing") := by decide +kernel
section
variable {ks : List Nat} {t d : Addr}
theorem planF_k : (planF ks t d).lookup ("kinds" : Str) = some (.str (tx ks)) := by
  unfold planF
  rw [lookup_putF, if_neg nko, lookup_putF, if_neg nkp, lookup_putF, if_pos rfl]
theorem planF_p : (planF ks t d).lookup ("pairs" : Str) = some (.ref t) := by
  unfold planF
  rw [lookup_putF, if_neg npo, lookup_putF, if_pos rfl]
theorem planF_o : (planF ks t d).lookup ("own_crossing" : Str) = some (.ref d) := by
  unfold planF
  rw [lookup_putF, if_pos rfl]
end
/-- a plan of the kinds ks and the pairs ps stands at x -/
structure PlanAt (C : Addr) (H : Hp) (x : Addr) (ks : List Nat) (ps : List (List Nat)) : Prop where
  ex : ∃ dx t d, H x = some (.ins C dx (planF ks t d)) ∧ H t = some (.tup (strsV ps)) ∧ H d = some (.dK (crossKV ks ps ks))
theorem PlanAt.same {C : Addr} {H H' : Hp} {x : Addr} {ks : List Nat} {ps : List (List Nat)} (h : PlanAt C H x ks ps) (s : Same H H') : PlanAt C H' x ks ps := by
  obtain ⟨dx, t, d, a, b, c⟩ := h.ex
  exact ⟨dx, t, d, s _ _ a, s _ _ b, s _ _ c⟩
/-- the plan at x does not rest on the object at b -/
def PlanOff (C : Addr) (H : Hp) (x b : Addr) : Prop := ∃ dx ks t d, H x = some (.ins C dx (planF ks t d)) ∧ b ≠ t ∧ b ≠ d
theorem PlanOff.same {C : Addr} {H H' : Hp} {x b : Addr} (h : PlanOff C H x b) (s : Same H H') : PlanOff C H' x b := by
  obtain ⟨dx, ks, t, d, e, n⟩ := h
  exact ⟨dx, ks, t, d, s _ _ e, n⟩
theorem PlanAt.off {C : Addr} {H H' : Hp} {x b : Addr} {ks : List Nat} {ps : List (List Nat)} (h : PlanAt C H x ks ps) (n : PlanOff C H x b) (nx : x ≠ b) (k : Keep b H H') : PlanAt C H' x ks ps := by
  obtain ⟨dx, t, d, a1, a2, a3⟩ := h.ex
  obtain ⟨dx', ks', t', d', e, n1, n2⟩ := n
  rw [a1] at e
  injection e with e
  injection e with _ _ e
  have e1 := planF_p (ks := ks) (t := t) (d := d)
  rw [e, planF_p] at e1
  injection e1 with e1
  injection e1 with e1
  have e2 := planF_o (ks := ks) (t := t) (d := d)
  rw [e, planF_o] at e2
  injection e2 with e2
  injection e2 with e2
  exact ⟨dx, t, d, k _ _ a1 nx, k _ _ a2 (fun z => n1 (z.symm.trans e1.symm)), k _ _ a3 (fun z => n2 (z.symm.trans e2.symm))⟩
/-- the kinds and pairs of Plan(l, ps) -/
abbrev kindsOf (l : List Nat) : List Nat := ascOf l
abbrev prsOf (ps : List (List Nat)) : List (List Nat) := pairsOf (ps.map ascOf)
def PlanArgs (K : PySem.W.Frag) (H : Hp) (l : List Nat) (p : Addr) (ps : List (List Nat)) : Prop := SeqO K H p (strsV ps) ∧ ps.length < 1000 ∧ PairsIn l ps ∧ (∀ c ∈ l, c ∈ LET) ∧ l.Nodup ∧ l.length ≤ 8
def spPlan0 (K : PySem.W.Frag) (C : Addr) : Sp := fun vs H Q _ => ∃ (x dx : Addr) (l : List Nat) (p : Addr) (ps : List (List Nat)), vs = [.ref x, .str (tx l), .ref p] ∧ H x = some (.ins C dx []) ∧ PlanArgs K H l p ps ∧
  ∀ H', Keep x H H' → PlanAt C H' x (kindsOf l) (prsOf ps) → (∀ b o, H b = some o → b ≠ x → PlanOff C H' x b) → Q .non H'
def spPlan (K : PySem.W.Frag) (C : Addr) : Sp := fun vs H Q _ => ∃ (l : List Nat) (p : Addr) (ps : List (List Nat)), vs = [.str (tx l), .ref p] ∧ PlanArgs K H l p ps ∧ ∀ x H', H x = none → Same H H' → PlanAt C H' x (kindsOf l) (prsOf ps) → (∀ b o, H b = some o → PlanOff C H' x b) → Q (.ref x) H'
theorem conv_plan (K : PySem.W.Frag) (C : Addr) : Conv C (spPlan0 K C) (spPlan K C) := by
  rintro vs H Q E ⟨l, p, ps, rfl, ⟨hp, hr⟩, k⟩ x dx hx hdx hne
  refine ⟨x, dx, l, p, ps, rfl, upd_same, ⟨hp.go fun o ho => by rw [upd_ne (ne_of_none ho hx), upd_ne (ne_of_none ho hdx)]; exact ho, hr⟩, fun H' s' a off => ⟨rfl, k x H' hx (fun b o hb => ?_) a fun b o hb => off b o (by rw [upd_ne (ne_of_none hb hx), upd_ne (ne_of_none hb hdx)]; exact hb) (ne_of_none hb hx)⟩⟩
  refine s' b o ?_ (ne_of_none hb hx)
  rw [upd_ne (ne_of_none hb hx), upd_ne (ne_of_none hb hdx)]
  exact hb
theorem asc_len {l : List Nat} (h1 : ∀ c ∈ l, c ∈ LET) (h2 : l.Nodup) : (ascOf l).length = l.length := by
  have p : (ascOf l).Perm l := by
    refine (List.perm_ext_iff_of_nodup (ascOf_nodup l) h2).mpr fun c => ?_
    rw [ascOf_mem]
    exact ⟨fun z => z.2, fun z => ⟨h1 c z, z⟩⟩
  exact p.length_eq
section
variable {P : Program} {w : World} {K : PySem.W.Frag} {mg : Str → Option Value} {base : Heap} {C : Addr}
abbrev stPlan_init : Stmt := (inClass (top 44) 0)
abbrev NPlan_init : List Str := ["self", "kinds", "crossing"]
theorem scPlan_init : FnScope NPlan_init ["self", "kinds", "crossing"] (defScope stPlan_init) := ⟨rfl, rfl, rfl, by decide +kernel, rfl, by decide +kernel, by decide +kernel⟩

theorem ok_Plan {dvs : List V} (F : MAtD K C "__init__" "Plan.__init__" stPlan_init dvs) (hd : dvs.length = 1) (T : TxtP K mg C) (D_are_letters : Def P w K mg base CX0 1 "are_letters" ["value"] spAreLetters) (D_ascending : Def P w K mg base CX0 1 "ascending" ["letters"] spAscending)
    (D_checked_pairs : Def P w K mg base CX0 2 "checked_pairs" ["kinds", "crossing"] (spChecked K)) (D_need_few : Def P w K mg base CX0 1 "need_few" ["kinds"] spNeedFew) (D_crossing_table : Def P w K mg base CX0 1 "crossing_table" ["kinds", "pairs"] spCross) :
    CMk P w K mg base CX0 3 "Plan" C (spPlan K C) ["self", "kinds", "crossing"] "Plan.__init__" stPlan_init dvs := by
  refine F.make (sp0 := spPlan0 K C) T.Plan scPlan_init (by intro z; rw [z] at hd; cases hd) (fun T kV doc pm an cdv ct us its l1 l2 => ?_) (fun vs H Q E h => ?_) (conv_plan K C) (fun f cdv A outer s H vs Q E hr h => ?_)
  · rw [hd] at l2 ⊢
    match us, l1, its, l2 with
    | [_, _, _], _, [_], _ => exact ⟨_, rfl, rfl⟩
  · obtain ⟨x, dx, l, p, ps, rfl, _⟩ := h
    rfl
  obtain ⟨x, dx, l, p, ps, rfl, hx, ⟨hp, h1, h2, h3, h4, h5⟩, k⟩ := h
  have hu := hu_of hr
  have nd := scPlan_init.nd
  replace D_are_letters := D_are_letters.mono (show 1 ≤ 2 by decide)
  replace D_ascending := D_ascending.mono (show 1 ≤ 2 by decide)
  replace D_need_few := D_need_few.mono (show 1 ≤ 2 by decide)
  replace D_crossing_table := D_crossing_table.mono (show 1 ≤ 2 by decide)
  refine ⟨_, (pss_cons (ps_if (pt_not (pt_val (pe_cd D_are_letters hr pass0 (pa_cons (pv 1) pa_nil))))
      (pss_one ps_never)
      pss_nil)
      (pss_cons (ps_flK (K := K) rfl (pv 0) (pe_cd D_ascending hr pass0 (pa_cons (pv 1) pa_nil)) rfl)
      (pss_cons (ps_flK (K := K) rfl (pv 0) (pe_cd D_checked_pairs hr pass0 (pa_cons (pe_flK (K := K) rfl (pv 0) rfl) (pa_cons (pv 2) pa_nil))) rfl)
      (pss_cons (ps_expr (pe_cd D_need_few hr pass0 (pa_cons (pe_flK (K := K) rfl (pv 0) rfl) pa_nil)))
      (pss_one (ps_flK (K := K) rfl (pv 0) (pe_cd D_crossing_table hr pass0 (pa_cons (pe_flK (K := K) rfl (pv 0) rfl) (pa_cons (pe_flK (K := K) rfl (pv 0) rfl) pa_nil))) rfl)))))), ?_⟩
  refine s_start [some _, some _, some _] rfl ?_
  walk_at "go"
  refine ⟨l, rfl, by omega, fun H1 s1 => ?_⟩
  rw [decide_eq_true (show (∀ c ∈ l, c ∈ LET) ∧ l.Nodup from ⟨h3, h4⟩)]
  walk_at "go"
  refine ⟨l, rfl, fun H2 s2 => ?_⟩
  walk_at "go"
  have s12 := s1.trans s2
  refine v_sfld (s12 _ _ hx) T.Plan.cl T.nK (by decide) fun H3 s3 e3 => ?_
  have hp3 := (hp.same s12).keepI s3 (s12 _ _ hx)
  walk_at "go"
  refine v_fld e3 T.Plan.cl T.nK (by rw [lookup_putF, if_pos rfl]) ?_
  walk_at "go"
  refine ⟨ascOf l, p, ps, rfl, hp3, h1, ?_, fun c hc => (ascOf_mem.mp hc).1, fun t H4 ht s4 e4 => ?_⟩
  · intro q hq
    obtain ⟨a, b, e, n, ha, hb⟩ := h2 q hq
    exact ⟨a, b, e, n, ascOf_mem.mpr ⟨h3 a ha, ha⟩, ascOf_mem.mpr ⟨h3 b hb, hb⟩⟩
  walk_at "go"
  refine v_sfld (s4 _ _ e3) T.Plan.cl T.nP (by show 1 < 1000; decide) fun H5 s5 e5 => ?_
  have nt : t ≠ x := fun z => by rw [z, e3] at ht; cases ht
  have e5t := s5 _ _ e4 nt
  walk_at "go"
  refine v_fld e5 T.Plan.cl T.nK (by rw [lookup_putF, if_neg nkp, lookup_putF, if_pos rfl]) ?_
  walk_at "go"
  refine ⟨ascOf l, rfl, by rw [asc_len h3 h4]; exact h5, ?_⟩
  walk_at "go"
  refine v_fld e5 T.Plan.cl T.nK (by rw [lookup_putF, if_neg nkp, lookup_putF, if_pos rfl]) ?_
  walk_at "go"
  refine v_fld e5 T.Plan.cl T.nP (by rw [lookup_putF, if_pos rfl]) ?_
  walk_at "go"
  refine ⟨ascOf l, t, _, rfl, e5t, by have := ascOf_len l; omega, ascOf_nodup l, fun d H6 hd s6 e6 => ?_⟩
  walk_at "go"
  refine v_sfld (s6 _ _ e5) T.Plan.cl T.nO (by show 2 < 1000; decide) fun H7 s7 e7 => ?_
  have ndx : d ≠ x := fun z => by rw [z, e5] at hd; cases hd
  refine k H7 (fun b o hb nb => s7 _ _ (s6 _ _ (s5 _ _ (s4 _ _ (s3 _ _ (s12 _ _ hb) nb)) nb)) nb) ⟨dx, t, d, e7, s7 _ _ (s6 _ _ e5t) nt, s7 _ _ e6 ndx⟩ fun b o hb nb => ⟨dx, _, t, d, e7, ?_, ?_⟩
  · exact ne_of_none (s3 _ _ (s12 _ _ hb) nb) ht
  · exact ne_of_none (s5 _ _ (s4 _ _ (s3 _ _ (s12 _ _ hb) nb)) nb) hd
end
end
section
open PySem PySem.Spec L2
/-- letters alone -/
def PsOk (ps : List (List Nat)) : Prop := ∀ l ∈ ps, ∀ c ∈ l, c < 1000
def spPlanEq (C : Addr) : Sp := fun vs H Q _ => ∃ (x y : Addr) (ks ks' : List Nat) (ps ps' : List (List Nat)), vs = [.ref x, .ref y] ∧ PlanAt C H x ks ps ∧ PlanAt C H y ks' ps' ∧ PsOk ps ∧ PsOk ps' ∧ Q (.bl (decide (ks = ks' ∧ ps = ps'))) H
def spStepped (C : Addr) : Sp := fun vs H Q _ => ∃ (x : Addr) (ks : List Nat) (ps : List (List Nat)) (name : List Nat) (k : Nat), vs = [.ref x, .str (tx name), .str (tx [k])] ∧ PlanAt C H x ks ps ∧ k ∈ ks ∧ name.length ≤ 100000 ∧ Q (.str (tx (stepOf (crossOf ks ps k) name k))) H
def spJoined (C : Addr) : Sp := fun vs H Q _ => ∃ (x : Addr) (ks : List Nat) (ps : List (List Nat)) (name way : List Nat), vs = [.ref x, .str (tx name), .str (tx way)] ∧ PlanAt C H x ks ps ∧ (∀ c ∈ way, c ∈ ks) ∧ name.length + way.length ≤ 100000 ∧ Q (.str (tx (joinOf ks ps name way))) H
def spBack (C : Addr) : Sp := fun vs H Q _ => ∃ (x : Addr) (ks : List Nat) (ps : List (List Nat)) (name : List Nat), vs = [.ref x, .str (tx name)] ∧ PlanAt C H x ks ps ∧ (∀ c ∈ name, c ∈ ks) ∧ name.length ≤ 50000 ∧ Q (.str (tx (backOf ks ps name))) H
def spWayFrom (C : Addr) : Sp := fun vs H Q _ => ∃ (x : Addr) (ks : List Nat) (ps : List (List Nat)) (name goal : List Nat), vs = [.ref x, .str (tx name), .str (tx goal)] ∧ PlanAt C H x ks ps ∧ (∀ c ∈ name, c ∈ ks) ∧ (∀ c ∈ goal, c ∈ ks) ∧ name.length ≤ 50000 ∧ goal.length ≤ 50000 ∧ Q (.str (tx (wayOf ks ps name goal))) H
section
variable {P : Program} {w : World} {K : PySem.W.Frag} {mg : Str → Option Value} {base : Heap} {C : Addr}
abbrev stPlan_eq : Stmt := (inClass (top 44) 2)
abbrev NPlan_eq : List Str := ["self", "other"]
theorem scPlan_eq : FnScope NPlan_eq ["self", "other"] (defScope stPlan_eq) := ⟨rfl, rfl, rfl, by decide +kernel, rfl, by decide +kernel, by decide +kernel⟩

theorem ok_Plan_eq (F : MAt K C "__eq__" "Plan.__eq__" stPlan_eq) (T : TxtP K mg C) : MDef P w K mg base CX0 1 C "__eq__" ["self", "other"] (spPlanEq C) := by
  refine F.ok scPlan_eq (fun _ _ _ _ _ _ us hl => match us, hl with | [_, _], _ => rfl) (fun vs H Q E h => ?_) (fun f cdv A outer s H vs Q E hr h => ?_)
  · obtain ⟨x, y, ks, ks', ps, ps', rfl, _⟩ := h
    rfl
  obtain ⟨x, y, ks, ks', ps, ps', rfl, h1, h2, o1, o2, k⟩ := h
  have hu := hu_of hr
  have nd := scPlan_eq.nd
  refine ⟨_, (pss_one (ps_ret (pe_and (pe_callB (c_isiK (K := K) rfl) (by rfl) T.isinstance (by decide +kernel) (pa_cons (pv 1) (pa_cons (pe_globC T.Plan.at) pa_nil))) (pe_and (pe_cmpR op_eq (pe_flK (K := K) rfl (pv 0) rfl) (pe_flK (K := K) rfl (pv 1) rfl) (nomark _)) (pe_one (pe_cmpR (op_eqDK (K := K) rfl hr.units) (pe_flK (K := K) rfl (pv 0) rfl) (pe_flK (K := K) rfl (pv 1) rfl) (nomark _))))))), ?_⟩
  refine s_start [some _, some _] rfl ?_
  obtain ⟨dx, t, d, a1, a2, a3⟩ := h1.ex
  obtain ⟨dy, t', d', b1, b2, b3⟩ := h2.ex
  walk_at "go"
  refine v_isiC T.Plan b1 ?_
  walk_at "go"
  refine v_fld a1 T.Plan.cl T.nK planF_k ?_
  walk_at "go"
  refine v_fld b1 T.Plan.cl T.nK planF_k ?_
  walk_at "go"
  rw [dec_tx]
  refine if_dec (fun c => ?_) (fun c => ?_)
  · walk_at "go"
    refine v_fld a1 T.Plan.cl T.nP planF_p ?_
    walk_at "go"
    refine v_fld b1 T.Plan.cl T.nP planF_p ?_
    walk_at "go"
    refine v_eqT a2 b2 o1 o2 ?_
    have e : decide (ks = ks' ∧ ps = ps') = decide (ps = ps') := decide_eq_decide.mpr ⟨fun z => z.2, fun z => ⟨c, z⟩⟩
    rw [e] at k
    exact k
  · rw [decide_eq_false fun z => c z.1] at k
    exact k
abbrev ststepped : Stmt := (top 12)
abbrev Nstepped : List Str := ["plan", "name", "kind", "partners", "place"]
theorem scstepped : FnScope Nstepped ["plan", "name", "kind"] (defScope ststepped) := ⟨rfl, rfl, rfl, by decide +kernel, rfl, by decide +kernel, by decide +kernel⟩

theorem ok_stepped (F : FnAt K mg "stepped" ststepped) (T : TxtP K mg C) : Def P w K mg base CX0 1 "stepped" ["plan", "name", "kind"] (spStepped C) := by
  refine F.ok scstepped (fun _ _ _ _ _ _ us hl => match us, hl with | [_, _, _], _ => rfl) (fun vs H Q E h => ?_) (fun f cdv A outer s H vs Q E hr h => ?_)
  · obtain ⟨x, ks, ps, name, k, rfl, _⟩ := h
    rfl
  obtain ⟨x, ks, ps, name, k, rfl, h1, hk, hl, q⟩ := h
  have hu := hu_of hr
  have nd := scstepped.nd
  refine ⟨_, (pss_cons (ps_set (i := 3) nd rfl (Or.inl rfl) (pe_dget hu (pe_flK (K := K) rfl (pv 0) rfl) (pv 2) (fun _ _ => rfl)))
      (pss_cons (ps_set (i := 4) nd rfl (Or.inl rfl) (pe_callB c_lenS (by rfl) T.len PySem.boot_len (pa_cons (pv 1) pa_nil)))
      (pss_cutS (ps_while PassesOwn.never (PW.pt (pw_and (pt_cmpR op_gt (pv 4) pe_int (nomark _)) (pw_and1 (pt_cmpR op_inS (pe_ix ix_str (pv 1) (pe_op op_sub (pv 4) pe_int) (fun _ _ => rfl)) (pv 3) (by rfl)))))
      (pss_one (ps_set (i := 4) nd rfl (Or.inl rfl) (pe_op op_sub (pv 4) pe_int))))
      (pss_cutS (ps_if (PW.pt (pw_and (pt_cmpR op_gt (pv 4) pe_int (nomark _)) (pw_and1 (pt_cmpR op_eq (pe_ix ix_str (pv 1) (pe_op op_sub (pv 4) pe_int) (fun _ _ => rfl)) (pv 2) (nomark _)))))
      (pss_one (ps_ret (pe_op op_addS (pe_slice sl_S (pv 1) po_none (po_some (pe_op op_sub (pv 4) pe_int))) (pe_slice sl_S (pv 1) (po_some (pv 4)) po_none))))
      pss_nil)
      (pss_cutS (ps_while PassesOwn.never (PW.pt (pw_and (pt_cmpR op_lt (pv 4) (pe_callB c_lenS (by rfl) T.len PySem.boot_len (pa_cons (pv 1) pa_nil)) (nomark _)) (pw_and1 (pt_cmpR op_ltS (pe_ix ix_str (pv 1) (pv 4) (fun _ _ => rfl)) (pv 2) (nomark _)))))
      (pss_one (ps_set (i := 4) nd rfl (Or.inl rfl) (pe_op op_add (pv 4) pe_int))))
      (pss_one (ps_ret (pe_op op_addS (pe_op op_addS (pe_slice sl_S (pv 1) po_none (po_some (pv 4))) (pv 2)) (pe_slice sl_S (pv 1) (po_some (pv 4)) po_none))))))))), ?_⟩
  refine s_start [some _, some _, some _, none, none] rfl ?_
  obtain ⟨dx, t, d, a1, a2, a3⟩ := h1.ex
  walk_at "go"
  refine v_fld a1 T.Plan.cl T.nO planF_o ?_
  walk_at "go"
  refine v_dget (dget_let (g := fun k => V.str (tx (crossOf ks ps k))) a3 hk) ?_
  walk_at "go"
  refine s_cut (fun σ H' => ∃ ra b : List Nat, name = ra.reverse ++ b ∧ splitB (crossOf ks ps k) name.reverse [] = (ra, b) ∧ σ = [some (.ref x), some (.str (tx name)), some (.str (tx [k])), some (.str (tx (crossOf ks ps k))), some (.int (ra.length : Nat))] ∧ H' = H) ?_ ?_
  · refine s_while (fun m σ H' => ∃ ra b : List Nat, m = ra.length ∧ name = ra.reverse ++ b ∧ splitB (crossOf ks ps k) name.reverse [] = splitB (crossOf ks ps k) ra b ∧ σ = [some (.ref x), some (.str (tx name)), some (.str (tx [k])), some (.str (tx (crossOf ks ps k))), some (.int (ra.length : Nat))] ∧ H' = H) name.length ⟨name.reverse, [], by simp, by simp, rfl, by simp, rfl⟩ ?_
    rintro m σ H' ⟨ra, b, rfl, e1, e2, rfl, rfl⟩
    walk_at "go"
    cases ra with
    | nil =>
      refine if_dec (fun c => absurd c (by simp)) (fun _ => ?_)
      walk_at "go"
      exact ⟨[], b, e1, e2, rfl, rfl⟩
    | cons y r =>
      refine if_dec (fun _ => ?_) (fun c => absurd (by simp) c)
      walk_at "go"
      refine v_ixS (c := y) (by omega) (by rw [e1]; exact at_last) ?_
      walk_at "go"
      refine if_dec (fun c => ?_) (fun c => ?_)
      · refine v_turn ?_
        walk_at "go"
        refine ⟨r.length, by simp, r, y :: b, rfl, ?_, ?_, ?_, rfl⟩
        · rw [e1, List.reverse_cons, List.append_assoc]
          rfl
        · rw [e2]
          show (if y ∈ crossOf ks ps k then _ else _) = _
          rw [if_pos c]
        · have e : (((y :: r).length : Nat) : Int) - 1 = (r.length : Nat) := by
            rw [List.length_cons]
            omega
          rw [e]
          rfl
      · walk_at "go"
        refine ⟨y :: r, b, e1, ?_, rfl, rfl⟩
        rw [e2]
        show (if y ∈ crossOf ks ps k then _ else _) = _
        rw [if_neg c]
  rintro σ H' ⟨ra, b, e1, e2, rfl, rfl⟩
  have hl2 : ra.length + b.length = name.length := by
    rw [e1, List.length_append, List.length_reverse]
  have q : Q (.str (tx (stepAt k ra b))) H' := by
    have e : stepOf (crossOf ks ps k) name k = stepAt k ra b := by
      unfold stepOf
      rw [e2]
    rw [e] at q
    exact q
  refine s_cut (fun σ H2 => ra.head? ≠ some k ∧ σ = [some (.ref x), some (.str (tx name)), some (.str (tx [k])), some (.str (tx (crossOf ks ps k))), some (.int (ra.length : Nat))] ∧ H2 = H') ?_ ?_
  · walk_at "go"
    cases ra with
    | nil =>
      refine if_dec (fun c => absurd c (by simp)) (fun _ => ?_)
      walk_at "go"
      exact ⟨by simp, rfl, rfl⟩
    | cons y r =>
      refine if_dec (fun _ => ?_) (fun c => absurd (by simp) c)
      walk_at "go"
      refine v_ixS (c := y) (by omega) (by rw [e1]; exact at_last) ?_
      walk_at "go"
      rw [dec_tx]
      refine if_dec (fun c => ?_) (fun c => ?_)
      · walk_at "go"
        have ey : y = k := by
          injection c
        subst ey
        have e3 : (((y :: r).length : Nat) : Int) - 1 = (r.length : Nat) := by
          rw [List.length_cons]
          omega
        rw [e3]
        refine v_slTo (by omega) (by omega) ?_
        walk_at "go"
        refine v_slFrom (by omega) (by omega) ?_
        have e4 : name.take ((r.length : Nat) : Int).toNat = r.reverse := by
          rw [e1, List.reverse_cons, List.append_assoc]
          exact List.take_left' (by simp)
        have e5 : name.drop (((y :: r).length : Nat) : Int).toNat = b := by
          rw [e1]
          exact List.drop_left' (by simp)
        rw [e4, e5]
        refine v_addS (by rw [List.length_reverse]; rw [List.length_cons] at hl2; omega) ?_
        have e6 : stepAt y (y :: r) b = r.reverse ++ b := by
          unfold stepAt
          rw [if_pos (show (y :: r).head? = some y from rfl)]
          rfl
        rw [e6] at q
        exact q
      · walk_at "go"
        refine ⟨?_, rfl, rfl⟩
        intro z
        injection z with z
        exact c (by rw [z])
  rintro σ H2 ⟨hh, rfl, rfl⟩
  refine s_cut (fun σ H3 => ∃ c d : List Nat, b = c ++ d ∧ putIn k b = c ++ k :: d ∧ σ = [some (.ref x), some (.str (tx name)), some (.str (tx [k])), some (.str (tx (crossOf ks ps k))), some (.int ((ra.length + c.length : Nat) : Int))] ∧ H3 = H2) ?_ ?_
  · refine s_while (fun m σ H3 => ∃ c d : List Nat, m = d.length ∧ b = c ++ d ∧ putIn k b = c ++ putIn k d ∧ σ = [some (.ref x), some (.str (tx name)), some (.str (tx [k])), some (.str (tx (crossOf ks ps k))), some (.int ((ra.length + c.length : Nat) : Int))] ∧ H3 = H2) b.length ⟨[], b, rfl, rfl, rfl, rfl, rfl⟩ ?_
    rintro m σ H3 ⟨c, d, rfl, e3, e4, rfl, rfl⟩
    have hl3 : ra.length + (c.length + d.length) = name.length := by
      rw [← hl2, e3, List.length_append]
    walk_at "go"
    cases d with
    | nil =>
      refine if_dec (fun z => ?_) (fun _ => ?_)
      · rw [List.length_nil] at hl3
        omega
      walk_at "go"
      exact ⟨c, [], e3, e4, rfl, rfl⟩
    | cons y r =>
      rw [List.length_cons] at hl3
      refine if_dec (fun _ => ?_) (fun z => by omega)
      walk_at "go"
      refine v_ixS (c := y) (by omega) ?_ ?_
      · rw [e1, e3, ← List.append_assoc]
        have := at_mid (x := y) (a := ra.reverse ++ c) (b := r)
        rw [List.length_append, List.length_reverse] at this
        exact this
      walk_at "go"
      rw [lt_one]
      refine if_dec (fun z => ?_) (fun z => ?_)
      · refine v_turn ?_
        walk_at "go"
        refine ⟨r.length, by simp, c ++ [y], r, rfl, ?_, ?_, ?_, rfl⟩
        · rw [e3, List.append_assoc]
          rfl
        · rw [e4, List.append_assoc]
          congr 1
          unfold putIn
          rw [List.takeWhile_cons_of_pos (by simpa using z), List.dropWhile_cons_of_pos (by simpa using z)]
          rfl
        · have e : ((ra.length + c.length : Nat) : Int) + 1 = ((ra.length + (c ++ [y]).length : Nat) : Int) := by
            rw [List.length_append, List.length_singleton]
            omega
          rw [e]
          rfl
      · walk_at "go"
        refine ⟨c, y :: r, e3, ?_, rfl, rfl⟩
        rw [e4]
        congr 1
        unfold putIn
        rw [List.takeWhile_cons_of_neg (by simpa using z), List.dropWhile_cons_of_neg (by simpa using z)]
        rfl
  rintro σ H3 ⟨c, d, e3, e4, rfl, rfl⟩
  have hl3 : ra.length + (c.length + d.length) = name.length := by
    rw [← hl2, e3, List.length_append]
  walk_at "go"
  refine v_slTo (by omega) (by omega) ?_
  have e5 : name.take ((ra.length + c.length : Nat) : Int).toNat = ra.reverse ++ c := by
    rw [e1, e3, ← List.append_assoc]
    exact List.take_left' (by rw [List.length_append, List.length_reverse]; omega)
  have e6 : name.drop ((ra.length + c.length : Nat) : Int).toNat = d := by
    rw [e1, e3, ← List.append_assoc]
    exact List.drop_left' (by rw [List.length_append, List.length_reverse]; omega)
  rw [e5]
  have l1 : (ra.reverse ++ c).length + [k].length ≤ 1000000 := by
    rw [List.length_append, List.length_reverse, List.length_singleton]
    omega
  have l2 : (ra.reverse ++ c ++ [k]).length + d.length ≤ 1000000 := by
    rw [List.length_append, List.length_append, List.length_reverse, List.length_singleton]
    omega
  walk_at "go"
  refine v_slFrom (by omega) (by omega) ?_
  rw [e6]
  refine v_addS l2 ?_
  have e7 : stepAt k ra b = ra.reverse ++ c ++ [k] ++ d := by
    unfold stepAt
    rw [if_neg hh, e4]
    simp
  rw [e7] at q
  exact q
abbrev stjoined : Stmt := (top 13)
abbrev Njoined : List Str := ["plan", "name", "way", "kind"]
theorem scjoined : FnScope Njoined ["plan", "name", "way"] (defScope stjoined) := ⟨rfl, rfl, rfl, by decide +kernel, rfl, by decide +kernel, by decide +kernel⟩

theorem ok_joined (F : FnAt K mg "joined" stjoined) (D_stepped : Def P w K mg base CX0 1 "stepped" ["plan", "name", "kind"] (spStepped C)) : Def P w K mg base CX0 2 "joined" ["plan", "name", "way"] (spJoined C) := by
  refine F.ok scjoined (fun _ _ _ _ _ _ us hl => match us, hl with | [_, _, _], _ => rfl) (fun vs H Q E h => ?_) (fun f cdv A outer s H vs Q E hr h => ?_)
  · obtain ⟨x, ks, ps, name, k, rfl, _⟩ := h
    rfl
  obtain ⟨x, ks, ps, name, way, rfl, h1, hk, hl, q⟩ := h
  have hu := hu_of hr
  have nd := scjoined.nd
  refine ⟨_, (pss_cons (ps_for PassesOwn.never rfl (pi_str (pv 2)) (pg_name (i := 3) nd rfl (Or.inl rfl))
      (pss_one (ps_set (i := 1) nd rfl (Or.inl rfl) (pe_cd D_stepped hr pass0 (pa_cons (pv 0) (pa_cons (pv 1) (pa_cons (pv 3) pa_nil)))))))
      (pss_one (ps_ret (pv 1)))), ?_⟩
  refine s_start [some _, some _, some _, none] rfl ?_
  walk_at "go"
  refine for_it (walk_tx way) (fun i σ H' => ∃ z, σ = [some (.ref x), some (.str (tx (joinOf ks ps name (way.take i)))), some (.str (tx way)), z] ∧ H' = H) ⟨_, rfl, rfl⟩ (fun _ _ _ _ _ => trivial) ?_ ?_
  · rintro i v σ H2 H3 hi ⟨z, rfl, rfl⟩ ⟨rfl, rfl⟩
    walk_at "go"
    refine ⟨x, ks, ps, _, way.getD i 0, rfl, h1, hk _ (getD_mem hi), ?_, ?_⟩
    · have := joinOf_len ks ps (way.take i) name
      rw [List.length_take] at this
      omega
    walk_at "go"
    rw [← joinOf_snoc, ← take_getD hi]
    exact ⟨_, rfl, rfl⟩
  · rintro σ H2 ⟨z, rfl, rfl⟩
    walk_at "go"
    rw [List.take_of_length_le (Nat.le_refl _)]
    exact q
end
end
section
open PySem PySem.Spec L2
def roomF (x : Addr) (name : List Nat) : List (Str × V) := putF "name" (.str (tx name)) (putF "plan" (.ref x) [])
theorem npn : ¬ (("plan" : Str) = "name") := by decide +kernel
theorem roomF_p {x : Addr} {name : List Nat} : (roomF x name).lookup ("plan" : Str) = some (.ref x) := by
  unfold roomF
  rw [lookup_putF, if_neg npn, lookup_putF, if_pos rfl]
theorem roomF_n {x : Addr} {name : List Nat} : (roomF x name).lookup ("name" : Str) = some (.str (tx name)) := by
  unfold roomF
  rw [lookup_putF, if_pos rfl]
/-- a room of the plan at x stands at r -/
structure RoomAt (R : Addr) (H : Hp) (r x : Addr) (name : List Nat) : Prop where
  ex : ∃ dx, H r = some (.ins R dx (roomF x name))
theorem RoomAt.same {R : Addr} {H H' : Hp} {r x : Addr} {name : List Nat} (h : RoomAt R H r x name) (s : Same H H') : RoomAt R H' r x name := by
  obtain ⟨dx, e⟩ := h.ex
  exact ⟨dx, s _ _ e⟩
structure TxtR (K : PySem.W.Frag) (mg : Str → Option Value) (C R O : Addr) : Prop extends TxtP K mg C where
  enumerate : mg "enumerate" = none
  g_MOST_LETTERS : ∃ t, mg "MOST_LETTERS" = some (.int 2000 t)
  Room : ClsF K mg "Room" R
  nPl : NoAttr K R "plan"
  nNm : NoAttr K R "name"
  OtherPlan : ExcF K mg "OtherPlan" O
def spNeedWay (C : Addr) : Sp := fun vs H Q _ => ∃ (x : Addr) (ks : List Nat) (ps : List (List Nat)) (way : List Nat), vs = [.ref x, .str (tx way)] ∧ PlanAt C H x ks ps ∧ (∀ c ∈ way, c ∈ ks) ∧ way.length ≤ 2000 ∧ ∀ H', Same H H' → Q (.str (tx way)) H'
/-- two plans, and what is due if they are equal and if not -/
def Plans2 (C : Addr) (H : Hp) (x y : Addr) (e : Bool) : Prop := ∃ (ks ks' : List Nat) (ps ps' : List (List Nat)), PlanAt C H x ks ps ∧ PlanAt C H y ks' ps' ∧ PsOk ps ∧ PsOk ps' ∧ e = decide (ks = ks' ∧ ps = ps')
def spNeedSame (C O : Addr) : Sp := fun vs H Q E => ∃ (x y : Addr) (e : Bool), vs = [.ref x, .ref y] ∧ Plans2 C H x y e ∧ (e = true → Q .non H) ∧ (e = false → E (.ref O) none H)
def spRoom0 (C R : Addr) : Sp := fun vs H Q _ => ∃ (r dx x : Addr) (ks : List Nat) (ps : List (List Nat)) (way : List Nat), vs = [.ref r, .ref x, .str (tx way)] ∧ H r = some (.ins R dx []) ∧ PlanAt C H x ks ps ∧ (∀ c ∈ way, c ∈ ks) ∧ way.length ≤ 2000 ∧
  ∀ H', Keep r H H' → RoomAt R H' r x (joinOf ks ps [] way) → Q .non H'
def spRoom (C R : Addr) : Sp := fun vs H Q _ => ∃ (x : Addr) (ks : List Nat) (ps : List (List Nat)) (way : List Nat), vs = [.ref x, .str (tx way)] ∧ PlanAt C H x ks ps ∧ (∀ c ∈ way, c ∈ ks) ∧ way.length ≤ 2000 ∧ ∀ r H', H r = none → Same H H' → RoomAt R H' r x (joinOf ks ps [] way) → Q (.ref r) H'
theorem PlanAt.none {C : Addr} {H : Hp} {x : Addr} {ks : List Nat} {ps : List (List Nat)} (h : PlanAt C H x ks ps) {a b : Addr} {o u : HO} (ha : H a = none) (hb : H b = none) : PlanAt C (upd (upd H a o) b u) x ks ps := by
  refine h.same fun c z hc => ?_
  rw [upd_ne (ne_of_none hc hb), upd_ne (ne_of_none hc ha)]
  exact hc
theorem conv_room (C R : Addr) : Conv R (spRoom0 C R) (spRoom C R) := by
  rintro vs H Q E ⟨x, ks, ps, way, rfl, hp, h1, h2, k⟩ r dx hx hdx hne
  refine ⟨r, dx, x, ks, ps, way, rfl, upd_same, hp.none hdx hx, h1, h2, fun H' s' a => ⟨rfl, k r H' hx (fun b o hb => ?_) a⟩⟩
  refine s' b o ?_ (ne_of_none hb hx)
  rw [upd_ne (ne_of_none hb hx), upd_ne (ne_of_none hb hdx)]
  exact hb
section
variable {P : Program} {w : World} {K : PySem.W.Frag} {mg : Str → Option Value} {base : Heap} {C R O : Addr}
abbrev stneed_way : Stmt := (top 27)
abbrev Nneed_way : List Str := ["plan", "way", "index", "letter"]
theorem scneed_way : FnScope Nneed_way ["plan", "way"] (defScope stneed_way) := ⟨rfl, rfl, rfl, by decide +kernel, rfl, by decide +kernel, by decide +kernel⟩

theorem ok_need_way (F : FnAt K mg "need_way" stneed_way) (T : TxtR K mg C R O) : Def P w K mg base CX0 1 "need_way" ["plan", "way"] (spNeedWay C) := by
  refine F.ok scneed_way (fun _ _ _ _ _ _ us hl => match us, hl with | [_, _], _ => rfl) (fun vs H Q E h => ?_) (fun f cdv A outer s H vs Q E hr h => ?_)
  · obtain ⟨x, ks, ps, way, rfl, _⟩ := h
    rfl
  obtain ⟨x, ks, ps, way, rfl, h1, hk, hl, q⟩ := h
  have hu := hu_of hr
  have nd := scneed_way.nd
  refine ⟨_, (pss_cons (ps_if (pt_not (pt_val (pe_callB (c_isiK (K := K) rfl) (by rfl) T.isinstance (by decide +kernel) (pa_cons (pv 1) (pa_cons (pe_bltn (v := .ty "str") (u := .type "str") (by rfl) T.str (by decide +kernel) rfl) pa_nil)))))
      (pss_one ps_never)
      pss_nil)
      (pss_cons (ps_for PassesOwn.never rfl (pi_enumS (by rfl) T.enumerate (pa_cons (pv 1) pa_nil)) (pg_tup rfl (pgs_cons (pg_name (i := 2) nd rfl (Or.inl rfl)) (pgs_cons (pg_name (i := 3) nd rfl (Or.inl rfl)) pgs_nil)))
      (pss_one (ps_if (pt_cmpR op_notInS (pv 3) (pe_flK (K := K) rfl (pv 0) rfl) (by rfl))
        (pss_one ps_never)
        pss_nil)))
      (pss_cons (ps_if (pt_cmpR op_gt (pe_callB c_lenS (by rfl) T.len PySem.boot_len (pa_cons (pv 1) pa_nil)) (pe_globI T.g_MOST_LETTERS) (nomark _))
      (pss_one ps_never)
      pss_nil)
      (pss_one (ps_ret (pv 1)))))), ?_⟩
  refine s_start [some _, some _, none, none] rfl ?_
  walk_at "go"
  refine for_it (walk_enumS way) (fun i σ H' => ∃ y z, σ = [some (.ref x), some (.str (tx way)), y, z] ∧ Same H H') ⟨_, _, rfl, Same.refl _⟩ (fun _ _ _ _ _ => trivial) ?_ ?_
  · rintro i v σ H2 H3 hi ⟨y, z, rfl, s2⟩ ⟨t, c, rfl, ht, rfl, hc⟩
    have s3 : Same H (upd H2 t (.tup [.int (i : Nat), .str (tx [c])])) := s2.trans (Same.new ht)
    obtain ⟨dx, t', d, a1, a2, a3⟩ := h1.ex
    refine v_gTup2 rfl upd_same ?_
    walk_at "go"
    refine v_fld (s3 _ _ a1) T.Plan.cl T.nK planF_k ?_
    walk_at "go"
    refine if_ndec (fun z => absurd (hk c (List.mem_of_getElem? hc)) z) (fun _ => ?_)
    walk_at "go"
    exact ⟨_, _, rfl, s3⟩
  · rintro σ H2 ⟨y, z, rfl, s2⟩
    walk_at "go"
    refine if_dec (fun c => ?_) (fun c => ?_)
    · omega
    walk_at "go"
    exact q H2 s2
abbrev stneed_same : Stmt := (top 28)
abbrev Nneed_same : List Str := ["plan", "other"]
theorem scneed_same : FnScope Nneed_same ["plan", "other"] (defScope stneed_same) := ⟨rfl, rfl, rfl, by decide +kernel, rfl, by decide +kernel, by decide +kernel⟩

theorem ok_need_same (F : FnAt K mg "need_same" stneed_same) (T : TxtR K mg C R O) (N_Plan_eq : MDef P w K mg base CX0 1 C "__eq__" ["self", "other"] (spPlanEq C)) : Def P w K mg base (L2.CX P w) 3 "need_same" ["plan", "other"] (spNeedSame C O) := by
  refine F.okX scneed_same (fun _ _ _ _ _ _ us hl => match us, hl with | [_, _], _ => rfl) (fun vs H Q E h => ?_) (fun f cdv A outer s H vs Q E hr h => ?_)
  · obtain ⟨x, y, e, rfl, _⟩ := h
    rfl
  obtain ⟨x, y, e, rfl, ⟨ks, ks', ps, ps', p1, p2, o1, o2, he⟩, q1, q2⟩ := h
  have hu := hu_of hr
  have nd := scneed_same.nd
  refine ⟨_, (pss_one (ps_if (pt_cmpR (op_neM N_Plan_eq T.Plan.ne T.Plan.ob hr pass0) (pv 0) (pv 1) (nomark _))
      (pss_one (ps_raise rfl (takes_of rfl rfl rfl rfl) (pmk_own0 T.OtherPlan)))
      pss_nil)), ?_⟩
  refine s_start [some _, some _] rfl ?_
  walk_at "go"
  obtain ⟨dx, t, d, a1, a2, a3⟩ := p1.ex
  obtain ⟨dy, t', d', b1, b2, b3⟩ := p2.ex
  refine v_M2n a1 b1 ?_
  refine ⟨x, y, ks, ks', ps, ps', rfl, p1, p2, o1, o2, ?_⟩
  refine ⟨_, rfl, ?_⟩
  walk_at "go"
  refine if_ndec (fun c => ?_) (fun c => ?_)
  · exact q2 (by rw [he, decide_eq_false c])
  · walk_at "go"
    exact q1 (by rw [he, decide_eq_true c])
abbrev stRoom_init : Stmt := (inClass (top 31) 0)
abbrev NRoom_init : List Str := ["self", "plan", "way"]
theorem scRoom_init : FnScope NRoom_init ["self", "plan", "way"] (defScope stRoom_init) := ⟨rfl, rfl, rfl, by decide +kernel, rfl, by decide +kernel, by decide +kernel⟩

theorem ok_Room {dvs : List V} (F : MAtD K R "__init__" "Room.__init__" stRoom_init dvs) (hd : dvs.length = 1) (T : TxtR K mg C R O) (D_need_way : Def P w K mg base CX0 1 "need_way" ["plan", "way"] (spNeedWay C)) (D_joined : Def P w K mg base CX0 2 "joined" ["plan", "name", "way"] (spJoined C)) :
    CMk P w K mg base CX0 3 "Room" R (spRoom C R) ["self", "plan", "way"] "Room.__init__" stRoom_init dvs := by
  refine F.make (sp0 := spRoom0 C R) T.Room scRoom_init (by intro z; rw [z] at hd; cases hd) (fun T kV doc pm an cdv ct us its l1 l2 => ?_) (fun vs H Q E h => ?_) (conv_room C R) (fun f cdv A outer s H vs Q E hr h => ?_)
  · rw [hd] at l2 ⊢
    match us, l1, its, l2 with
    | [_, _, _], _, [_], _ => exact ⟨_, rfl, rfl⟩
  · obtain ⟨r, dx, x, ks, ps, way, rfl, _⟩ := h
    rfl
  obtain ⟨r, dx, x, ks, ps, way, rfl, hx, hp, h1, h2, k⟩ := h
  have hu := hu_of hr
  have nd := scRoom_init.nd
  replace D_need_way := D_need_way.mono (show 1 ≤ 2 by decide)
  refine ⟨_, (pss_cons (ps_flK (K := K) rfl (pv 0) (pv 1) rfl)
      (pss_one (ps_flK (K := K) rfl (pv 0) (pe_cd D_joined hr pass0 (pa_cons (pv 1) (pa_cons (pe_tx [] (by decide +kernel)) (pa_cons (pe_cd D_need_way hr pass0 (pa_cons (pv 1) (pa_cons (pv 2) pa_nil))) pa_nil)))) rfl))), ?_⟩
  refine s_start [some _, some _, some _] rfl ?_
  walk_at "go"
  refine v_sfld hx T.Room.cl T.nPl (by decide) fun H1 s1 e1 => ?_
  walk_at "go"
  have hp1 : PlanAt C H1 x ks ps := by
    obtain ⟨dx', t', d, a1, a2, a3⟩ := hp.ex
    exact ⟨dx', t', d, s1 _ _ a1 (fun z => by rw [z, hx] at a1; injection a1 with a1; injection a1 with _ _ a1; cases a1), s1 _ _ a2 (ne_of a2 hx (by intro z; cases z)), s1 _ _ a3 (ne_of a3 hx (by intro z; cases z))⟩
  refine ⟨x, ks, ps, way, rfl, hp1, h1, h2, fun H2 s2 => ?_⟩
  walk_at "go"
  refine ⟨x, ks, ps, [], way, rfl, hp1.same s2, h1, by rw [List.length_nil]; omega, ?_⟩
  walk_at "go"
  refine v_sfld (s2 _ _ e1) T.Room.cl T.nNm (by show 1 < 1000; decide) fun H3 s3 e3 => ?_
  refine k H3 (fun b o hb nb => s3 _ _ (s2 _ _ (s1 _ _ hb nb)) nb) ⟨dx, e3⟩
end
end
section
open PySem PySem.Spec L2
theorem Plans2.same {C : Addr} {H H' : Hp} {x y : Addr} {e : Bool} (h : Plans2 C H x y e) (s : Same H H') : Plans2 C H' x y e := by
  obtain ⟨ks, ks', ps, ps', a, b, c⟩ := h
  exact ⟨ks, ks', ps, ps', a.same s, b.same s, c⟩
def spRoomLen (R : Addr) : Sp := fun vs H Q _ => ∃ (r x : Addr) (name : List Nat), vs = [.ref r] ∧ RoomAt R H r x name ∧ name.length ≤ 100000 ∧ Q (.int name.length) H
/-- two rooms, and whether their plans are equal -/
structure Rooms2 (C R : Addr) (H : Hp) (r x : Addr) (a : List Nat) (r' y : Addr) (b : List Nat) (e : Bool) : Prop where
  one : RoomAt R H r x a
  two : RoomAt R H r' y b
  pl : Plans2 C H x y e
  la : a.length ≤ 2000
  lb : b.length ≤ 2000
theorem Rooms2.same {C R : Addr} {H H' : Hp} {r x : Addr} {a : List Nat} {r' y : Addr} {b : List Nat} {e : Bool} (h : Rooms2 C R H r x a r' y b e) (s : Same H H') : Rooms2 C R H' r x a r' y b e := ⟨h.one.same s, h.two.same s, h.pl.same s, h.la, h.lb⟩
def spRoomEq (C R : Addr) : Sp := fun vs H Q _ => ∃ (r x : Addr) (a : List Nat) (r' y : Addr) (b : List Nat) (e : Bool), vs = [.ref r, .ref r'] ∧ Rooms2 C R H r x a r' y b e ∧ Q (.bl (e && decide (a = b))) H
def spWayTo (C R O : Addr) : Sp := fun vs H Q E => ∃ (r x : Addr) (a : List Nat) (r' y : Addr) (b : List Nat) (e : Bool) (ks : List Nat) (ps : List (List Nat)), vs = [.ref r, .ref r'] ∧ Rooms2 C R H r x a r' y b e ∧
  PlanAt C H x ks ps ∧ (∀ c ∈ a, c ∈ ks) ∧ (e = true → ∀ c ∈ b, c ∈ ks) ∧ (e = true → Q (.str (tx (wayOf ks ps a b))) H) ∧ (e = false → E (.ref O) none H)
theorem roomF_no {x : Addr} {name : List Nat} {m : Str} (h1 : ¬ m = "name") (h2 : ¬ m = "plan") : (roomF x name).lookup m = none := by
  unfold roomF
  rw [lookup_putF, if_neg h1, lookup_putF, if_neg h2]
  rfl
section
variable {P : Program} {w : World} {K : PySem.W.Frag} {mg : Str → Option Value} {base : Heap} {C R O : Addr}
abbrev stRoom_eq : Stmt := (inClass (top 31) 9)
abbrev NRoom_eq : List Str := ["self", "other"]
theorem scRoom_eq : FnScope NRoom_eq ["self", "other"] (defScope stRoom_eq) := ⟨rfl, rfl, rfl, by decide +kernel, rfl, by decide +kernel, by decide +kernel⟩

theorem ok_Room_eq (F : MAt K R "__eq__" "Room.__eq__" stRoom_eq) (T : TxtR K mg C R O) (M_Plan_eq : MDef P w K mg base CX0 1 C "__eq__" ["self", "other"] (spPlanEq C)) : MDef P w K mg base CX0 2 R "__eq__" ["self", "other"] (spRoomEq C R) := by
  refine F.ok scRoom_eq (fun _ _ _ _ _ _ us hl => match us, hl with | [_, _], _ => rfl) (fun vs H Q E h => ?_) (fun f cdv A outer s H vs Q E hr h => ?_)
  · obtain ⟨r, x, a, r', y, b, e, rfl, _⟩ := h
    rfl
  obtain ⟨r, x, a, r', y, b, e, rfl, h, q⟩ := h
  have hu := hu_of hr
  have nd := scRoom_eq.nd
  refine ⟨_, (pss_one (ps_ret (pe_and (pe_callB (c_isiK (K := K) rfl) (by rfl) T.isinstance (by decide +kernel) (pa_cons (pv 1) (pa_cons (pe_globC T.Room.at) pa_nil))) (pe_and (pe_cmpR (op_cmpM (op := .Eq) (fun _ _ => rfl) M_Plan_eq hr pass0) (pe_flK (K := K) rfl (pv 0) rfl) (pe_flK (K := K) rfl (pv 1) rfl) (nomark _)) (pe_one (pe_cmpR op_eq (pe_flK (K := K) rfl (pv 0) rfl) (pe_flK (K := K) rfl (pv 1) rfl) (nomark _))))))), ?_⟩
  refine s_start [some _, some _] rfl ?_
  obtain ⟨dr, a1⟩ := h.one.ex
  obtain ⟨dr', b1⟩ := h.two.ex
  obtain ⟨ks, ks', ps, ps', p1, p2, o1, o2, he⟩ := h.pl
  obtain ⟨dx, t, d, c1, c2, c3⟩ := p1.ex
  obtain ⟨dy, t', d', d1, d2, d3⟩ := p2.ex
  walk_at "go"
  refine v_isiC T.Room b1 ?_
  walk_at "go"
  refine v_fld a1 T.Room.cl T.nPl roomF_p ?_
  walk_at "go"
  refine v_fld b1 T.Room.cl T.nPl roomF_p ?_
  refine v_M2 c1 d1 ⟨x, y, ks, ks', ps, ps', rfl, p1, p2, o1, o2, ?_⟩
  rw [← he]
  walk_at "go"
  cases e with
  | true =>
    walk_at "go"
    refine v_fld a1 T.Room.cl T.nNm roomF_n ?_
    walk_at "go"
    refine v_fld b1 T.Room.cl T.nNm roomF_n ?_
    walk_at "go"
    rw [dec_tx]
    exact q
  | false =>
    walk_at "go"
    exact q
end
end
section
open PySem PySem.Spec L2
def spPen (K : PySem.W.Frag) : Sp := fun vs H Q _ => ∃ (a : Addr) (ns : List Int), vs = [.ref a] ∧ SqL K H a (ns.map V.int) ∧ ns.length ≤ 63 ∧ ∀ (g : Pen) (H' : Hp), PenAt g H' 0 → Same H H' → H g.p = none → Q (.ref g.p) H'
theorem cut_ints (ns : List Int) (lo hi : Option Int) : ∃ ms : List Int, cutV (ns.map V.int) lo hi = ms.map V.int ∧ ms.length ≤ ns.length := by
  unfold cutV
  rw [← List.map_drop, ← List.map_take]
  refine ⟨_, rfl, ?_⟩
  rw [List.length_take, List.length_drop]
  omega
section
variable {P : Program} {w : World} {K : PySem.W.Frag} {mg : Str → Option Value} {base : Heap}
abbrev stpen : Stmt := (top 47)
abbrev Npen : List Str := ["_law_script"]
theorem scpen : FnScope Npen ["_law_script"] (defScope stpen) := ⟨rfl, rfl, rfl, by decide +kernel, rfl, by decide +kernel, by decide +kernel⟩

theorem ok_pen (F : FnAt K mg "_law_pen" stpen) (T : Txt K mg) : Def P w K mg base CX0 1 "_law_pen" ["_law_script"] (spPen K) := by
  refine F.ok scpen (fun _ _ _ _ _ _ us hl => match us, hl with | [_], _ => rfl) (fun vs H Q E h => ?_) (fun f cdv A outer s H vs Q E hr h => ?_)
  · obtain ⟨a, ns, rfl, _⟩ := h
    rfl
  obtain ⟨a, ns, rfl, ha, hn, k⟩ := h
  have hu := hu_of hr
  have nd := scpen.nd
  refine ⟨_, (pss_one (ps_ret (pe_disp (pps_cons pe_str (pe_callTy (c_listK (K := K) rfl) (by rfl) T.list (by decide +kernel) (pa_cons (pe_slice (sl_LK (K := K) rfl) (pv 0) po_none (po_some pe_int)) pa_nil)) (pps_cons pe_str pe_int (pps_cons pe_str pe_int pps_nil))) (by rfl) (by rfl) (fun z => by cases z) (by decide)))), ?_⟩
  refine s_start [some _] rfl ?_
  walk_at "go"
  intro p hp
  have s1 : Same H (upd H p (.dK [])) := Same.new hp
  obtain ⟨ms, e1, l1⟩ := cut_ints ns none (some 63)
  walk_at "go"
  refine v_slL (sqL_same ha s1) fun b H2 hb s2 e2 => ?_
  rw [e1] at e2
  walk_at "go"
  refine v_list (SqL.of e2) fun c H3 hc s3 e3 => ?_
  walk_at "go"
  have ep : H3 p = some (.dK []) := s3 _ _ (s2 _ _ upd_same)
  refine ⟨ep, [(Sum.inr "cells", .ref c), (Sum.inr "place", .int 0), (Sum.inr "rest", .int 0)], rfl, (by show 3 ≤ 15; decide), ?_⟩
  have hcp : c ≠ p := (ne_of_none (s2 _ _ upd_same) hc).symm
  have em : mergeK [] [(Sum.inr ("cells" : Str), V.ref c), (Sum.inr ("place" : Str), .int 0), (Sum.inr ("rest" : Str), .int 0)] = penL c 0 0 := by
    unfold mergeK penL
    rw [List.foldl_cons, List.foldl_cons, List.foldl_cons, List.foldl_nil]
    rw [putK_new (k := Sum.inr ("cells" : Str)) _ rfl, putK_new (k := Sum.inr ("place" : Str)) _ (by rw [List.nil_append, valV_neg kcp]; rfl), putK_new (k := Sum.inr ("rest" : Str)) _ (by rw [List.nil_append, List.cons_append, valV_neg kcr, List.nil_append, valV_neg kpr]; rfl)]
    rfl
  rw [em]
  have s4 : Same H (upd H3 p (.dK (penL c 0 0))) := fun b' o hb' => by
    rw [upd_ne (ne_of_none hb' hp)]
    exact s3 _ _ (s2 _ _ (s1 _ _ hb'))
  refine k ⟨p, c, ms⟩ _ ⟨0, 0, upd_same, ?_, by show ms.length ≤ 63; omega, by omega, by omega, by omega⟩ s4 hp
  show upd H3 p _ c = _
  rw [upd_ne hcp]
  exact e3
end
end
section
open PySem PySem.Spec L2
theorem cells_ne {k : Nat} : ¬ ((Sum.inr (tx [k]) : Key) = Sum.inr ("cells" : Str)) := by
  intro h
  injection h with h
  have : (tx [k]).length = ("cells" : Str).length := by rw [h]
  rw [tx_len, List.length_singleton] at this
  exact absurd this (by decide +kernel)
theorem RoomAt.pen {R : Addr} {H H' : Hp} {r x : Addr} {nm : List Nat} {g : Pen} {n : Nat} (h : RoomAt R H r x nm) (p : PenAt g H n) (k : Keep g.p H H') : RoomAt R H' r x nm := by
  obtain ⟨dx, e⟩ := h.ex
  obtain ⟨a, b, h1, _⟩ := p.ex
  exact ⟨dx, k _ _ e (ne_of e h1 (by intro z; cases z))⟩
theorem PlanAt.pen {C : Addr} {H H' : Hp} {x : Addr} {ks : List Nat} {ps : List (List Nat)} {g : Pen} {n : Nat} (h : PlanAt C H x ks ps) (p : PenAt g H n) (k : Keep g.p H H') : PlanAt C H' x ks ps := by
  obtain ⟨dx, t, d, a1, a2, a3⟩ := h.ex
  obtain ⟨a, b, h1, _⟩ := p.ex
  refine ⟨dx, t, d, k _ _ a1 (ne_of a1 h1 (by intro z; cases z)), k _ _ a2 (ne_of a2 h1 (by intro z; cases z)), k _ _ a3 fun z => ?_⟩
  rw [z, h1] at a3
  injection a3 with a3
  injection a3 with a3
  unfold crossKV penL at a3
  generalize hk : ks.map _ = m at a3
  cases ks with
  | nil => rw [List.map_nil] at hk; rw [← hk] at a3; cases a3
  | cons c r =>
    rw [List.map_cons] at hk
    rw [← hk] at a3
    injection a3 with a3 _
    injection a3 with a3 _
    exact cells_ne a3.symm
theorem RoomAt.lst {R : Addr} {H H' : Hp} {r x q : Addr} {nm : List Nat} {l : List V} (h : RoomAt R H r x nm) (e0 : H q = some (.lst l)) (k : Keep q H H') : RoomAt R H' r x nm := by
  obtain ⟨dx, e⟩ := h.ex
  exact ⟨dx, k _ _ e (ne_of e e0 (by intro z; cases z))⟩
theorem PlanAt.lst {C : Addr} {H H' : Hp} {x q : Addr} {ks : List Nat} {ps : List (List Nat)} {l : List V} (h : PlanAt C H x ks ps) (e0 : H q = some (.lst l)) (k : Keep q H H') : PlanAt C H' x ks ps := by
  obtain ⟨dx, t, d, a1, a2, a3⟩ := h.ex
  exact ⟨dx, t, d, k _ _ a1 (ne_of a1 e0 (by intro z; cases z)), k _ _ a2 (ne_of a2 e0 (by intro z; cases z)), k _ _ a3 (ne_of a3 e0 (by intro z; cases z))⟩
end
section
open PySem PySem.Spec L2
def spIsKind (C : Addr) : Sp := fun vs H Q _ => ∃ (x : Addr) (ks : List Nat) (ps : List (List Nat)) (k : Nat), vs = [.ref x, .str (tx [k])] ∧ PlanAt C H x ks ps ∧ k ∈ ks ∧ Q (.bl true) H
def spRoomAdd (C R : Addr) : Sp := fun vs H Q _ => ∃ (r x : Addr) (ks : List Nat) (ps : List (List Nat)) (name way : List Nat), vs = [.ref r, .str (tx way)] ∧ RoomAt R H r x name ∧ PlanAt C H x ks ps ∧ (∀ c ∈ name, c ∈ ks) ∧ (∀ c ∈ way, c ∈ ks) ∧ name.length ≤ 2000 ∧ way.length ≤ 2000 ∧ (joinOf ks ps name way).length ≤ 2000 ∧
  ∀ r' H', H r' = none → Same H H' → RoomAt R H' r' x (joinOf ks ps [] (joinOf ks ps name way)) → Q (.ref r') H'
/-- a room and a text -/
def spRoomEqS (R : Addr) : Sp := fun vs H Q _ => ∃ (r : Addr) (z : Str), vs = [.ref r, .str z] ∧ Q (.bl false) H
section
variable {P : Program} {w : World} {K : PySem.W.Frag} {mg : Str → Option Value} {base : Heap} {C R O : Addr}
abbrev stis_kind : Stmt := (top 25)
abbrev Nis_kind : List Str := ["plan", "value"]
theorem scis_kind : FnScope Nis_kind ["plan", "value"] (defScope stis_kind) := ⟨rfl, rfl, rfl, by decide +kernel, rfl, by decide +kernel, by decide +kernel⟩

theorem ok_is_kind (F : FnAt K mg "is_kind" stis_kind) (T : TxtP K mg C) : Def P w K mg base CX0 1 "is_kind" ["plan", "value"] (spIsKind C) := by
  refine F.ok scis_kind (fun _ _ _ _ _ _ us hl => match us, hl with | [_, _], _ => rfl) (fun vs H Q E h => ?_) (fun f cdv A outer s H vs Q E hr h => ?_)
  · obtain ⟨x, ks, ps, k, rfl, _⟩ := h
    rfl
  obtain ⟨x, ks, ps, k, rfl, h1, hk, q⟩ := h
  have hu := hu_of hr
  have nd := scis_kind.nd
  refine ⟨_, (pss_one (ps_ret (pe_and (pe_callB (c_isiK (K := K) rfl) (by rfl) T.isinstance (by decide +kernel) (pa_cons (pv 1) (pa_cons (pe_bltn (v := .ty "str") (u := .type "str") (by rfl) T.str (by decide +kernel) rfl) pa_nil))) (pe_and (pe_cmpR op_eq (pe_callB c_lenS (by rfl) T.len PySem.boot_len (pa_cons (pv 1) pa_nil)) pe_int (nomark _)) (pe_one (pe_cmpR op_inS (pv 1) (pe_flK (K := K) rfl (pv 0) rfl) (by rfl))))))), ?_⟩
  refine s_start [some _, some _] rfl ?_
  obtain ⟨dx, t, d, a1, a2, a3⟩ := h1.ex
  have l1 : [k].length ≤ 1000000 := by simp
  walk_at "go"
  refine if_dec (fun c => ?_) (fun c => (c (by rfl)).elim)
  walk_at "go"
  refine v_fld a1 T.Plan.cl T.nK planF_k ?_
  walk_at "go"
  rw [decide_eq_true hk]
  exact q
abbrev stRoom_add : Stmt := (inClass (top 31) 4)
abbrev NRoom_add : List Str := ["self", "way"]
theorem scRoom_add : FnScope NRoom_add ["self", "way"] (defScope stRoom_add) := ⟨rfl, rfl, rfl, by decide +kernel, rfl, by decide +kernel, by decide +kernel⟩

theorem ok_Room_add (F : MAt K R "__add__" "Room.__add__" stRoom_add) (T : TxtR K mg C R O) (D_need_way : Def P w K mg base CX0 1 "need_way" ["plan", "way"] (spNeedWay C)) (D_joined : Def P w K mg base CX0 2 "joined" ["plan", "name", "way"] (spJoined C)) (C_Room : CDef P w K mg base CX0 3 "Room" R (spRoom C R)) : MDef P w K mg base CX0 5 R "__add__" ["self", "way"] (spRoomAdd C R) := by
  refine F.ok scRoom_add (fun _ _ _ _ _ _ us hl => match us, hl with | [_, _], _ => rfl) (fun vs H Q E h => ?_) (fun f cdv A outer s H vs Q E hr h => ?_)
  · obtain ⟨r, x, ks, ps, name, way, rfl, _⟩ := h
    rfl
  obtain ⟨r, x, ks, ps, name, way, rfl, h1, h2, hn, hw, l1, l2, l3, q⟩ := h
  have hu := hu_of hr
  have nd := scRoom_add.nd
  replace D_need_way := D_need_way.mono (show 1 ≤ 4 by decide)
  replace D_joined := D_joined.mono (show 2 ≤ 4 by decide)
  refine ⟨_, (pss_one (ps_ret (pe_mk C_Room hr pass0 (pa_cons (pe_flK (K := K) rfl (pv 0) rfl) (pa_cons (pe_cd D_joined hr pass0 (pa_cons (pe_flK (K := K) rfl (pv 0) rfl) (pa_cons (pe_flK (K := K) rfl (pv 0) rfl) (pa_cons (pe_cd D_need_way hr pass0 (pa_cons (pe_flK (K := K) rfl (pv 0) rfl) (pa_cons (pv 1) pa_nil))) pa_nil)))) pa_nil))))), ?_⟩
  refine s_start [some _, some _] rfl ?_
  obtain ⟨dr, a1⟩ := h1.ex
  walk_at "go"
  refine v_fld a1 T.Room.cl T.nPl roomF_p ?_
  walk_at "go"
  refine v_fld a1 T.Room.cl T.nPl roomF_p ?_
  walk_at "go"
  refine v_fld a1 T.Room.cl T.nNm roomF_n ?_
  walk_at "go"
  refine v_fld a1 T.Room.cl T.nPl roomF_p ?_
  walk_at "go"
  refine ⟨x, ks, ps, way, rfl, h2, hw, l2, fun H1 s1 => ?_⟩
  walk_at "go"
  refine ⟨x, ks, ps, name, way, rfl, h2.same s1, hw, by omega, ?_⟩
  walk_at "go"
  refine ⟨x, ks, ps, _, rfl, h2.same s1, fun c hc => (joinOf_mem hc).elim (hn c) (hw c), l3, fun r' H' a b c => q r' H' ?_ (s1.trans b) c⟩
  exact L2.Same.free s1 a
end
end
section
open PySem PySem.Spec L2
def spPick : Sp := fun vs H Q _ => ∃ (g : Pen) (n : Nat) (q : Addr) (xs : List V), vs = [.ref g.p, .ref q] ∧ H q = some (.lst xs) ∧ 0 < xs.length ∧ xs.length < 1000000 ∧ PenAt g H n ∧ n < 1000000 ∧ q ≠ g.p ∧
  ∀ v H', v ∈ xs → PenAt g H' (n + 1) → Keep g.p H H' → Q v H'
def spShuffled : Sp := fun vs H Q _ => ∃ (g : Pen) (n : Nat) (q : Addr) (ls : List Nat), vs = [.ref g.p, .ref q] ∧ H q = some (.lst (ls.map fun c => V.str (tx [c]))) ∧ ls.length ≤ 1000 ∧ (∀ c ∈ ls, c < 1000) ∧ PenAt g H n ∧ n < 950000 ∧
  ∀ (l : Addr) (ys : List Nat) (H' : Hp), H l = none → ys.Perm ls → H' l = some (.lst (ys.map fun c => V.str (tx [c]))) → PenAt g H' (n + ls.length) → Keep g.p H H' → Q (.ref l) H'
section
variable {P : Program} {w : World} {K : PySem.W.Frag} {mg : Str → Option Value} {base : Heap}
abbrev stpick : Stmt := (top 49)
abbrev Npick : List Str := ["_law_pen_here", "_law_items"]
theorem scpick : FnScope Npick ["_law_pen_here", "_law_items"] (defScope stpick) := ⟨rfl, rfl, rfl, by decide +kernel, rfl, by decide +kernel, by decide +kernel⟩

theorem ok_pick (F : FnAt K mg "_law_pick" stpick) (T : Txt K mg) (D_draw : Def P w K mg base CX0 1 "_law_draw" ["_law_pen_here", "_law_number"] spDraw) : Def P w K mg base CX0 2 "_law_pick" ["_law_pen_here", "_law_items"] spPick := by
  refine F.ok scpick (fun _ _ _ _ _ _ us hl => match us, hl with | [_, _], _ => rfl) (fun vs H Q E h => ?_) (fun f cdv A outer s H vs Q E hr h => ?_)
  · obtain ⟨g, n, q, xs, rfl, _⟩ := h
    rfl
  obtain ⟨g, n, q, xs, rfl, hq, h0, h1, hp, hn, hne, k⟩ := h
  have hu := hu_of hr
  have nd := scpick.nd
  refine ⟨_, (pss_one (ps_ret (pe_ix (ix_LK (K := K) rfl) (pv 1) (pe_cd D_draw hr pass0 (pa_cons (pv 0) (pa_cons (pe_callB (c_lenK (K := K) rfl) (by rfl) T.len PySem.boot_len (pa_cons (pv 1) pa_nil)) pa_nil))) (fun _ _ => rfl)))), ?_⟩
  refine s_start [some _, some _] rfl ?_
  walk_at "go"
  refine ⟨g, xs.length, n, rfl, by omega, by omega, hp, hn, fun z H1 z0 z1 p1 k1 => ?_⟩
  walk_at "go"
  have hz : z.toNat < xs.length := by omega
  refine v_ixL (k1 _ _ hq hne) (at_of (j := z.toNat) (by omega) (List.getElem?_eq_getElem hz)) ?_
  exact k _ H1 (List.getElem_mem hz) p1 k1
abbrev stshuffled : Stmt := (top 50)
abbrev Nshuffled : List Str := ["_law_pen_here", "_law_items", "_law_left", "_law_found"]
theorem scshuffled : FnScope Nshuffled ["_law_pen_here", "_law_items"] (defScope stshuffled) := ⟨rfl, rfl, rfl, by decide +kernel, rfl, by decide +kernel, by decide +kernel⟩

theorem ok_shuffled (F : FnAt K mg "_law_shuffled" stshuffled) (T : Txt K mg) (D_draw : Def P w K mg base CX0 1 "_law_draw" ["_law_pen_here", "_law_number"] spDraw) : Def P w K mg base CX0 2 "_law_shuffled" ["_law_pen_here", "_law_items"] spShuffled := by
  refine F.ok scshuffled (fun _ _ _ _ _ _ us hl => match us, hl with | [_, _], _ => rfl) (fun vs H Q E h => ?_) (fun f cdv A outer s H vs Q E hr h => ?_)
  · obtain ⟨g, n, q, xs, rfl, _⟩ := h
    rfl
  obtain ⟨g, n, q, ls, rfl, hq, h1, h2, hp, hn, k⟩ := h
  have hu := hu_of hr
  have nd := scshuffled.nd
  refine ⟨_, (pss_cons (ps_par (i := 2) (j := 3) (by rfl) nd rfl rfl (by decide) rfl rfl (pa_cons (pe_callTy (c_listK (K := K) rfl) (by rfl) T.list (by decide +kernel) (pa_cons (pv 1) pa_nil)) (pa_cons (pe_lst pa_nil) pa_nil)) (by rfl))
      (pss_cutS (ps_while PassesOwn.never (pt_cmpR (op_neDK (K := K) rfl hr.units) (pv 2) (pe_lst pa_nil) (nomark _))
      (pss_one (ps_expr (pe_appK (K := K) rfl (pv 3) (pe_popK (K := K) rfl (pv 2) (pe_cd D_draw hr pass0 (pa_cons (pv 0) (pa_cons (pe_callB (c_lenK (K := K) rfl) (by rfl) T.len PySem.boot_len (pa_cons (pv 2) pa_nil)) pa_nil))))))))
      (pss_one (ps_ret (pv 3))))), ?_⟩
  refine s_start [some _, some _, none, none] rfl ?_
  walk_at "go"
  refine v_list (SqL.of hq) fun a H1 ha s1 e1 => ?_
  walk_at "go"
  intro b H2 hb s2 e2
  walk_at "go"
  have hab : a ≠ b := ne_of_none e1 hb
  refine s_cut (fun σ H' => ∃ ys : List Nat, σ = [some (.ref g.p), some (.ref q), some (.ref a), some (.ref b)] ∧ ys.Perm ls ∧ H' b = some (.lst (ys.map fun c => V.str (tx [c]))) ∧ PenAt g H' (n + ls.length) ∧ Keep g.p H H') ?_ ?_
  · refine s_while (fun m σ H' => ∃ xs ys : List Nat, m = xs.length ∧ σ = [some (.ref g.p), some (.ref q), some (.ref a), some (.ref b)] ∧ (ys ++ xs).Perm ls ∧ H' a = some (.lst (xs.map fun c => V.str (tx [c]))) ∧ H' b = some (.lst (ys.map fun c => V.str (tx [c]))) ∧ PenAt g H' (n + ys.length) ∧ Keep g.p H H') ls.length ⟨ls, [], rfl, rfl, .refl _, s2 _ _ e1, e2, hp.same (s1.trans s2), Keep.of (s1.trans s2)⟩ ?_
    rintro m σ H3 ⟨xs, ys, rfl, rfl, pm, ea, eb, p3, k3⟩
    have hl := pm.length_eq
    rw [List.length_append] at hl
    walk_at "go"
    intro e H4 he s4 e4
    have ea4 := s4 _ _ ea
    have eb4 := s4 _ _ eb
    have ea5 : H4 a = some (.lst ((xs.map fun c => tx [c]).map V.str)) := by
      rw [ea4, List.map_map]
      rfl
    refine v_neNilS ea5 (fun x hx => ?_) e4 ?_
    · obtain ⟨c, hc, rfl⟩ := List.mem_map.mp hx
      refine ok_tx fun d hd => ?_
      rw [List.mem_singleton] at hd
      subst hd
      exact h2 _ (pm.subset (List.mem_append_right _ hc))
    walk_at "go"
    rw [List.isEmpty_map]
    cases xs with
    | nil =>
      walk_at "go"
      refine ⟨ys, rfl, by simpa using pm, eb4, (p3.same s4).mono (by omega), fun c o hc nc => s4 _ _ (k3 _ _ hc nc)⟩
    | cons x0 xr =>
      walk_at "go"
      refine v_turn ?_
      walk_at "go"
      refine ⟨g, _, n + ys.length, rfl, ?_, ?_, p3.same s4, by omega, fun z H5 z0 z1 p5 k5 => ?_⟩
      · rw [List.length_map, List.length_map, List.length_cons]; omega
      · rw [List.length_map, List.length_map]; omega
      rw [List.length_map, List.length_map] at z1
      have nag : a ≠ g.p := (hp.p_ne ha).symm
      have nbg : b ≠ g.p := ((hp.same s1).p_ne hb).symm
      have hz : z.toNat < (x0 :: xr).length := by omega
      walk_at "go"
      refine v_pop (k5 _ _ ea4 nag) z0 (by rw [List.length_map]; omega) (by rw [List.length_map]; omega) (y := V.str (tx [(x0 :: xr)[z.toNat]])) (by rw [List.getElem?_map, List.getElem?_eq_getElem hz]; rfl) fun H6 k6 e6 => ?_
      walk_at "go"
      have eb6 := k6 _ _ (k5 _ _ eb4 nbg) hab.symm
      refine v_app eb6 (by rw [List.length_map]; omega) fun H7 k7 e7 => ?_
      walk_at "go"
      refine ⟨xr.length, by simp, (x0 :: xr).eraseIdx z.toNat, ys ++ [(x0 :: xr)[z.toNat]], ?_, rfl, ?_, ?_, ?_, ?_, ?_⟩
      · rw [List.length_eraseIdx_of_lt hz]
        rfl
      · refine .trans ?_ pm
        rw [List.append_assoc]
        refine .append_left _ ?_
        exact erase_perm _ _ hz
      · rw [k7 _ _ e6 hab]
        rw [erase_map]
      · rw [e7, List.map_append]
        rfl
      · have q6 := p5.keep k6 (hp.p_ne ha) (hp.cl_ne ha)
        have q7 := q6.keep k7 ((hp.same s1).p_ne hb) ((hp.same s1).cl_ne hb)
        rw [List.length_append]
        exact q7
      · intro c o hc nc
        exact k7 _ _ (k6 _ _ (k5 _ _ (s4 _ _ (k3 _ _ hc nc)) nc) (ne_of_none hc ha)) (ne_of_none (s1 _ _ hc) hb)
  rintro σ H3 ⟨ys, rfl, pm, eb, p3, k3⟩
  walk_at "go"
  exact k b ys H3 (L2.Same.free s1 hb) pm eb p3 k3
end
end
section
open PySem PySem.Spec L2
def spFloor : Sp := fun vs H Q _ => ∃ (g : Pen) (n num : Nat), vs = [.ref g.p, .int num] ∧ 1 ≤ num ∧ num ≤ 8 ∧ PenAt g H n ∧ n < 900000 ∧
  ∀ (d : Addr) (ls : List Nat) (rel : Nat → Nat → Bool) (H' : Hp), H d = none → Flr num ls rel → H' d = some (.dK (tabKV ls (crossBy ls rel))) → PenAt g H' (n + 300) → Keep g.p H H' → Q (.ref d) H'
structure TxtH (K : PySem.W.Frag) (mg : Str → Option Value) : Prop extends Txt K mg where
  range : mg "range" = none
section
variable {P : Program} {w : World} {K : PySem.W.Frag} {mg : Str → Option Value} {base : Heap}
abbrev stfloor : Stmt := (top 51)
abbrev Nfloor : List Str := ["_law_pen_here", "_law_number", "_law_letters", "_law_sort", "_law_table", "_law_item", "_law_at", "_law_far_here", "_law_is_side", "_law_is_drawn", "_law_is_often", "_law_peer"]
theorem scfloor : FnScope Nfloor ["_law_pen_here", "_law_number"] (defScope stfloor) := ⟨rfl, rfl, rfl, by decide +kernel, rfl, by decide +kernel, by decide +kernel⟩

theorem ok_floor (F : FnAt K mg "_law_floor" stfloor) (T : TxtH K mg) (D_draw : Def P w K mg base CX0 1 "_law_draw" ["_law_pen_here", "_law_number"] spDraw) (D_pick : Def P w K mg base CX0 2 "_law_pick" ["_law_pen_here", "_law_items"] spPick) : Def P w K mg base CX0 3 "_law_floor" ["_law_pen_here", "_law_number"] spFloor := by
  refine F.ok scfloor (fun _ _ _ _ _ _ us hl => match us, hl with | [_, _], _ => rfl) (fun vs H Q E h => ?_) (fun f cdv A outer s H vs Q E hr h => ?_)
  · obtain ⟨g, n, num, rfl, _⟩ := h
    rfl
  obtain ⟨g, n, num, rfl, n1, n8, hp, hn, k⟩ := h
  have hu := hu_of hr
  have nd := scfloor.nd
  replace D_draw := D_draw.mono (show 1 ≤ 2 by decide)
  refine ⟨_, (pss_cons (ps_set (i := 2) nd rfl (Or.inl rfl) (pe_slice sl_S (pe_cd D_pick hr pass0 (pa_cons (pv 0) (pa_cons (pe_lst (pa_cons (pe_tx [97, 98, 99, 100, 101, 102, 103, 104] (by decide +kernel)) (pa_cons (pe_tx [98, 100, 102, 104, 106, 108, 110, 112] (by decide +kernel)) (pa_cons (pe_tx [115, 116, 117, 118, 119, 120, 121, 122] (by decide +kernel)) pa_nil)))) pa_nil))) po_none (po_some (pe_op op_add pe_int (pe_cd D_draw hr pass0 (pa_cons (pv 0) (pa_cons (pv 1) pa_nil)))))))
      (pss_cons (ps_par (i := 3) (j := 4) (by rfl) nd rfl rfl (by decide) rfl rfl (pa_cons (pe_cd D_draw hr pass0 (pa_cons (pv 0) (pa_cons pe_int pa_nil))) (pa_cons pe_dnewK pa_nil)) (by rfl))
      (pss_cons (ps_for PassesOwn.never rfl (pi_str (pv 2)) (pg_name (i := 5) nd rfl (Or.inl rfl))
      (pss_one (ps_dput hu (pv 4) (pv 5) (pe_tx [] (by decide +kernel)) rfl)))
      (pss_cons (ps_for PassesOwn.never rfl (pi_range1 (by rfl) T.range (pa_cons (pe_callB c_lenS (by rfl) T.len PySem.boot_len (pa_cons (pv 2) pa_nil)) pa_nil)) (pg_name (i := 6) nd rfl (Or.inl rfl))
      (pss_one (ps_for PassesOwn.never rfl (pi_range2 (by rfl) T.range (pa_cons (pe_op op_add (pv 6) pe_int) (pa_cons (pe_callB c_lenS (by rfl) T.len PySem.boot_len (pa_cons (pv 2) pa_nil)) pa_nil))) (pg_name (i := 7) nd rfl (Or.inl rfl))
        (pss_cons (ps_set (i := 8) nd rfl (Or.inl rfl) (pe_cut (pe_or (pe_cmpR op_eq (pe_op op_sub (pv 7) (pv 6)) pe_int (nomark _)) (pe_one (pe_cmpR op_eq (pe_op op_sub (pv 7) (pv 6)) (pe_op op_sub (pe_callB c_lenS (by rfl) T.len PySem.boot_len (pa_cons (pv 2) pa_nil)) pe_int) (nomark _))))))
          (pss_cons (ps_set (i := 9) nd rfl (Or.inl rfl) (pe_cmpR op_eq (pe_cd D_draw hr pass0 (pa_cons (pv 0) (pa_cons pe_int pa_nil))) pe_int (nomark _)))
          (pss_cons (ps_set (i := 10) nd rfl (Or.inl rfl) (pe_cut (pe_or (pv 9) (pe_one (pe_cmpR op_eq (pe_cd D_draw hr pass0 (pa_cons (pv 0) (pa_cons pe_int pa_nil))) pe_int (nomark _))))))
          (pss_one (ps_if (pt_val (pe_ix (ix_LK (K := K) rfl) (pe_lst (pa_cons pe_bl (pa_cons pe_bl (pa_cons (pv 8) (pa_cons (pv 10) (pa_cons (pv 9) (pa_cons (pv 9) pa_nil))))))) (pv 3) (fun _ _ => rfl)))
          (pss_cons (ps_par (i := 5) (j := 11) (by rfl) nd rfl rfl (by decide) rfl rfl (pa_cons (pe_ix ix_str (pv 2) (pv 6) (fun _ _ => rfl)) (pa_cons (pe_ix ix_str (pv 2) (pv 7) (fun _ _ => rfl)) pa_nil)) (by rfl))
            (pss_cons (ps_dput hu (pv 4) (pv 5) (pe_op op_addS (pe_dget hu (pv 4) (pv 5) (fun _ _ => rfl)) (pv 11)) rfl)
            (pss_one (ps_dput hu (pv 4) (pv 11) (pe_op op_addS (pe_dget hu (pv 4) (pv 11) (fun _ _ => rfl)) (pv 5)) rfl))))
          pss_nil))))))))
      (pss_one (ps_ret (pv 4))))))), ?_⟩
  refine s_start [some _, some _, none, none, none, none, none, none, none, none, none, none] rfl ?_
  walk_at "go"
  intro q H1 hq s1 e1
  walk_at "go"
  refine ⟨g, n, q, _, rfl, e1, by decide, by decide, hp.same s1, by omega, (hp.p_ne hq).symm, fun v H2 hv p2 k2 => ?_⟩
  obtain ⟨t, ht, rfl⟩ : ∃ t ∈ ABC, v = V.str (tx t) := by
    simp only [List.mem_cons, List.not_mem_nil, or_false] at hv
    rcases hv with rfl | rfl | rfl
    · exact ⟨_, by decide, rfl⟩
    · exact ⟨_, by decide, rfl⟩
    · exact ⟨_, by decide, rfl⟩
  have tl := (abc_ok t ht).2.2.1
  walk_at "go"
  refine ⟨g, num, n + 1, rfl, by omega, by omega, p2, by omega, fun z H3 z0 z1 p3 k3 => ?_⟩
  walk_at "go"
  refine v_slTo (by omega) (by omega) ?_
  have hcut : ∃ t' ∈ ABC, ∃ m, 1 ≤ m ∧ m ≤ num ∧ t.take (1 + z).toNat = t'.take m := ⟨t, ht, (1 + z).toNat, by omega, by omega, rfl⟩
  generalize t.take (1 + z).toNat = ls at hcut ⊢
  have lnd := cut_nd hcut
  have lle := cut_len hcut
  have llt := cut_lt hcut
  walk_at "go"
  refine ⟨g, 6, n + 2, rfl, by omega, by omega, p3, by omega, fun so H4 so0 so1 p4 k4 => ?_⟩
  walk_at "go"
  intro d H5 hd s5 e5
  have kA : Keep g.p H H5 := fun b o hb nb => s5 _ _ (k4 _ _ (k3 _ _ (k2 _ _ (s1 _ _ hb) nb) nb) nb)
  have hd0 : H d = none := by
    cases z : H d with
    | none => rfl
    | some o =>
      by_cases e : d = g.p
      · exact absurd e (p4.p_ne hd).symm
      · have := k4 _ _ (k3 _ _ (k2 _ _ (s1 _ _ z) e) e) e
        rw [hd] at this
        cases this
  have ndp := (p4.p_ne hd)
  have ndc := (p4.cl_ne hd)
  have p5 := p4.same s5
  walk_at "go"
  refine for_it (walk_tx ls) (fun i σ H' => ∃ x, σ = [some (.ref g.p), some (.int num), some (.str (tx ls)), some (.int so), some (.ref d), x, none, none, none, none, none, none] ∧ PenAt g H' (n + 3) ∧ Keep g.p H H' ∧ H' d = some (.dK (tabKV (ls.take i) (crossBy ls fun _ _ => false)))) ⟨_, rfl, p5, kA, e5⟩ (fun _ _ _ _ _ => trivial) ?_ ?_
  · rintro i v σ H6 H7 hi ⟨x, rfl, p6, k6, e6⟩ ⟨rfl, rfl⟩
    walk_at "go"
    refine v_put (tab_new e6 (take_notin lnd hi) (by unfold crossBy; simp) (by rw [List.length_take]; omega)) fun H8 k8 e8 => ?_
    refine ⟨_, rfl, p6.keep k8 ndp ndc, fun b o hb nb => k8 _ _ (k6 _ _ hb nb) (ne_of_none hb hd0), ?_⟩
    rw [take_getD hi]
    exact e8
  rintro σ H6 ⟨x, rfl, p6, k6, e6⟩
  rw [List.take_of_length_le (Nat.le_refl _)] at e6
  have relA : RelOk ls fun _ _ => false := ⟨fun _ _ => rfl, fun _ _ h => by cases h⟩
  walk_at "go"
  refine for_it (walk_rI (fun i => ((i : Nat) : Int)) (fun k => Int.zero_add _)) (fun i σ H' => ∃ x1 x2 x3 x4 x5 x6 x7 rel, σ = [some (.ref g.p), some (.int num), some (.str (tx ls)), some (.int so), some (.ref d), x1, x2, x3, x4, x5, x6, x7] ∧ PenAt g H' (n + 3 + 20 * i) ∧ Keep g.p H H' ∧ RelOk ls rel ∧ Upto ls rel i 0 ∧ H' d = some (.dK (tabKV ls (crossBy ls rel)))) ⟨_, _, _, _, _, _, _, _, rfl, p6, k6, relA, fun _ _ _ _ h => (by cases h), e6⟩ (fun _ _ _ _ _ => trivial) ?_ ?_
  · rintro i v σ H7 H8 hi ⟨x1, x2, x3, x4, x5, x6, x7, rel, rfl, p7, k7, r7, u7, e7⟩ ⟨rfl, rfl⟩
    have hi' : i < ls.length := by omega
    walk_at "go"
    refine for_it (walk_rI (fun j => ((i + 1 + j : Nat) : Int)) (fun k => by omega)) (fun j σ H' => ∃ x1 x3 x4 x5 x6 x7 rel, σ = [some (.ref g.p), some (.int num), some (.str (tx ls)), some (.int so), some (.ref d), x1, some (.int (i : Nat)), x3, x4, x5, x6, x7] ∧ PenAt g H' (n + 3 + 20 * i + 2 * j) ∧ Keep g.p H H' ∧ RelOk ls rel ∧ Upto ls rel i (i + 1 + j) ∧ H' d = some (.dK (tabKV ls (crossBy ls rel)))) ⟨_, _, _, _, _, _, _, rfl, p7, k7, r7, ?_, e7⟩ (fun _ _ _ _ _ => trivial) ?_ ?_
    · intro a b h1 h2 h3
      have := u7 a b h1 h2 h3
      omega
    · rintro j v σ H9 H10 hj ⟨y1, y3, y4, y5, y6, y7, rel, rfl, p9, k9, r9, u9, e9⟩ ⟨rfl, rfl⟩
      have hj' : i + 1 + j < ls.length := by omega
      walk_at "go"
      refine e_cut (fun v H' => (∃ b, v = .bl b) ∧ H' = H10) ?_ ?_
      · walk_at "go"
        refine if_bool (fun _ => ⟨⟨_, rfl⟩, rfl⟩) (fun _ => ?_)
        walk_at "go"
        exact ⟨⟨_, rfl⟩, rfl⟩
      rintro v H11 ⟨⟨b1, rfl⟩, rfl⟩
      walk_at "go"
      refine ⟨g, 2, _, rfl, by omega, by omega, p9, by omega, fun z1 H12 _ _ p12 k12 => ?_⟩
      walk_at "go"
      refine e_cut (fun v H' => (∃ b, v = .bl b) ∧ PenAt g H' (n + 3 + 20 * i + 2 * j + 2) ∧ Keep g.p H12 H') ?_ ?_
      · walk_at "go"
        refine if_bool (fun _ => ⟨⟨_, rfl⟩, p12.mono (by omega), Keep.refl _ _⟩) (fun _ => ?_)
        walk_at "go"
        refine ⟨g, 2, _, rfl, by omega, by omega, p12, by omega, fun z2 H13 _ _ p13 k13 => ?_⟩
        walk_at "go"
        exact ⟨⟨_, rfl⟩, p13, k13⟩
      rintro v H13 ⟨⟨b2, rfl⟩, p13, k13⟩
      have e13 := k13 _ _ (k12 _ _ e9 ndp.symm) ndp.symm
      have k13' : Keep g.p H H13 := fun b o hb nb => k13 _ _ (k12 _ _ (k9 _ _ hb nb) nb) nb
      walk_at "go"
      intro q2 H14 hq2 s14 e14
      walk_at "go"
      obtain ⟨bb, hbb⟩ : ∃ bb, [V.bl false, V.bl true, V.bl b1, V.bl b2, V.bl (decide (V.int z1 = V.int 0)), V.bl (decide (V.int z1 = V.int 0))][so.toNat]? = some (V.bl bb) := by
        have : so.toNat = 0 ∨ so.toNat = 1 ∨ so.toNat = 2 ∨ so.toNat = 3 ∨ so.toNat = 4 ∨ so.toNat = 5 := by omega
        rcases this with e | e | e | e | e | e <;> rw [e] <;> exact ⟨_, rfl⟩
      refine v_ixL e14 (at_of (j := so.toNat) (by omega) hbb) ?_
      walk_at "go"
      have e15 := s14 _ _ e13
      have p15 := p13.same s14
      have k15 : Keep g.p H H14 := fun b o hb nb => s14 _ _ (k13' _ _ hb nb)
      have hx : ls.getD i 0 ∈ ls := getD_mem hi'
      have hy : ls.getD (i + 1 + j) 0 ∈ ls := getD_mem hj'
      have hxy : ls.getD (i + 1 + j) 0 ≠ ls.getD i 0 := fun z => by have := getD_inj lnd hj' hi' z; omega
      cases bb with
      | false =>
        walk_at "go"
        exact ⟨_, _, _, _, _, _, rel, rfl, p15.mono (by omega), k15, r9, u9.more, e15⟩
      | true =>
        walk_at "go"
        refine v_ixS (by omega) (at_getD hi') ?_
        walk_at "go"
        refine v_ixS (by omega) (at_getD hj') ?_
        walk_at "go"
        refine v_dget (tab_get e15 hx) ?_
        have l1 : (crossBy ls rel (ls.getD i 0)).length ≤ ls.length := List.length_filter_le _ _
        have l2 : (crossBy ls rel (ls.getD (i + 1 + j) 0)).length ≤ ls.length := List.length_filter_le _ _
        have l3 : (crossBy ls rel (ls.getD i 0)).length + [ls.getD (i + 1 + j) 0].length ≤ 1000000 := by rw [List.length_singleton]; omega
        have l4 : (crossBy ls rel (ls.getD (i + 1 + j) 0)).length + [ls.getD i 0].length ≤ 1000000 := by rw [List.length_singleton]; omega
        walk_at "go"
        refine v_put (tab_put e15 hx (by omega)) fun H16 k16 e16 => ?_
        walk_at "go"
        refine v_dget (tab_get e16 hy) ?_
        rw [if_neg hxy]
        walk_at "go"
        refine v_put (tab_put e16 hy (by omega)) fun H17 k17 e17 => ?_
        refine ⟨_, _, _, _, _, _, addRel rel (ls.getD i 0) (ls.getD (i + 1 + j) 0), rfl, ((p15.keep k16 ndp ndc).keep k17 ndp ndc).mono (by omega), fun b o hb nb => k17 _ _ (k16 _ _ (k15 _ _ hb nb) (ne_of_none hb hd0)) (ne_of_none hb hd0), r9.add hx hy hxy.symm, u9.add lnd (by omega) hj', ?_⟩
        rw [e17]
        congr 2
        refine tabKV_congr fun c hc => ?_
        rw [← tabStep lnd r9 (show i < i + 1 + j by omega) hj' u9 c hc, if_neg hxy]
    · rintro σ H9 ⟨y1, y3, y4, y5, y6, y7, rel, rfl, p9, k9, r9, u9, e9⟩
      refine ⟨_, _, _, _, _, _, _, rel, rfl, p9.mono (by omega), k9, r9, u9.turn (by omega), e9⟩
  rintro σ H7 ⟨x1, x2, x3, x4, x5, x6, x7, rel, rfl, p7, k7, r7, u7, e7⟩
  walk_at "go"
  refine k d ls rel H7 hd0 ⟨hcut, r7⟩ e7 (p7.mono (by omega)) k7
end
end
section
open PySem PySem.Spec L2
structure TxtV (K : PySem.W.Frag) (mg : Str → Option Value) : Prop extends TxtH K mg where
  tuple : mg "tuple" = none
  min : mg "min" = none
  dict : mg "dict" = none
def spUnits : Sp := fun vs H Q _ => ∃ (d : Addr) (ls : List Nat) (f : Nat → List Nat), vs = [.ref d] ∧ H d = some (.dK (tabKV ls f)) ∧ Tab ls f ∧ ∀ m H', H m = none → MarksAt H' m ls (fun c x => unit x c) → Same H H' → Q (.ref m) H'
def spThrough : Sp := fun vs H Q _ => ∃ (d m : Addr) (ls : List Nat) (f : Nat → List Nat) (M : Nat → Nat → Int) (k : Nat), vs = [.ref d, .ref m, .str (tx [k])] ∧ H d = some (.dK (tabKV ls f)) ∧ Tab ls f ∧ k ∈ ls ∧ MarksAt H m ls M ∧
  ∀ m' H', H m' = none → MarksAt H' m' ls (fun c x => thr f k (fun e => M e x) c) → Same H H' → Q (.ref m') H'
section
variable {P : Program} {w : World} {K : PySem.W.Frag} {mg : Str → Option Value} {base : Heap}
abbrev stunits : Stmt := (top 55)
abbrev Nunits : List Str := ["_law_table", "_law_letters", "_law_found", "_law_item", "_law_each"]
theorem scunits : FnScope Nunits ["_law_table"] (defScope stunits) := ⟨rfl, rfl, rfl, by decide +kernel, rfl, by decide +kernel, by decide +kernel⟩

theorem ok_units (F : FnAt K mg "_law_units" stunits) (T : TxtV K mg) : Def P w K mg base CX0 1 "_law_units" ["_law_table"] spUnits := by
  refine F.ok scunits (fun _ _ _ _ _ _ us hl => match us, hl with | [_], _ => rfl) (fun vs H Q E h => ?_) (fun f cdv A outer s H vs Q E hr h => ?_)
  · obtain ⟨d, ls, f, rfl, _⟩ := h
    rfl
  obtain ⟨d, ls, fn, rfl, hd, tab, k⟩ := h
  have hu := hu_of hr
  have nd := scunits.nd
  have tl := tab.len
  refine ⟨_, (pss_cons (ps_par (i := 1) (j := 2) (by rfl) nd rfl rfl (by decide) rfl rfl (pa_cons (pe_callTy (call_list_dK rfl) (by rfl) T.list (by decide +kernel) (pa_cons (pv 0) pa_nil)) (pa_cons pe_dnewK pa_nil)) (by rfl))
      (pss_cons (ps_for PassesOwn.never rfl (pi_listK (K := K) rfl (pv 1)) (pg_name (i := 3) nd rfl (Or.inr rfl))
      (pss_one (ps_dput hu (pv 2) (pv 3) (pe_callTy (c_tupleK (K := K) rfl) (by rfl) T.tuple (by decide +kernel) (pa_cons (pe_lc (own := [("_law_each", 4)]) (g := gName 4) (by rfl) nd (pi_listK (K := K) rfl (pv 1)) (blkOk_by (own := [("_law_each", 4)]) (N := Nunits) (sc := defScope stunits) (by decide +kernel)) (fun _ _ _ _ _ => (pg_name (i := 4) nd rfl (Or.inl rfl))) (fun _ _ _ _ _ => pts_nil) (fun _ _ _ _ _ => (pe_callTy c_int (by rfl) T.int (by decide +kernel) (pa_cons (pe_cmpR op_eq (pv 3) (pv 4) (nomark _)) pa_nil)))) pa_nil)) rfl)))
      (pss_one (ps_ret (pv 2))))), ?_⟩
  refine s_start [some _, none, none, none, none] rfl ?_
  walk_at "go"
  refine v_listD hd fun l H1 hl s1 e1 => ?_
  rw [tab_keys] at e1
  walk_at "go"
  intro m H2 hm s2 e2
  have e1' := s2 _ _ e1
  walk_at "go"
  refine for_it (walk_listM (ls := ls) (f := fun c => V.str (tx [c]))) (fun i σ H' => ∃ x A, σ = [some (.ref d), some (.ref l), some (.ref m), x, none] ∧ (∀ b o, H1 b = some o → H' b = some o) ∧ H' m = some (.dK (marksKV (ls.take i) A)) ∧ ∀ c ∈ ls.take i, H' (A c) = some (.tup (vecV ls fun x => unit x c))) ⟨_, fun _ => 0, rfl, s2, e2, by simp⟩ ?_ ?_ ?_
  · rintro i σ H' _ ⟨x, A, rfl, k1, _⟩
    exact SqL.of (k1 _ _ e1)
  · rintro i v σ H3 H4 hi ⟨x, A, rfl, k3, m3, t3⟩ ⟨rfl, hv⟩
    have hx : ls.getD i 0 ∈ ls := getD_mem hi
    obtain ⟨c, hc⟩ : ∃ c, ls.getD i 0 = c := ⟨_, rfl⟩
    obtain rfl : v = V.str (tx [c]) := by rw [← hc]; exact hv
    rw [hc] at hx
    have e3 := k3 _ _ e1
    walk_at "go"
    refine vals_all (ls := ls) (it := fun c => V.str (tx [c])) (f := fun x => V.int (unit x c)) (walk_listM (ls := ls) (f := fun c => V.str (tx [c]))) (fun H' s' => SqL.of (s' _ _ e3)) (by omega) (fun y hy H5 s5 R r => ?_) (fun y hy H5 s5 R r => ?_) (fun D H5 hD s5 e5 => ?_)
    · exact r H5 (Same.refl _)
    · walk_at "go"
      have e : (if decide (V.str (tx [c]) = V.str (tx [y])) = true then (1 : Int) else 0) = unit y c := by
        rw [dec_tx]
        unfold unit
        by_cases e : c = y
        · rw [if_pos e, e]
          simp
        · rw [if_neg e]
          simp [e]
      rw [e]
      exact r H5 (Same.refl _)
    walk_at "go"
    refine v_tuple e5 fun t H6 ht s6 e6 => ?_
    have m6 := s6 _ _ (s5 _ _ m3)
    walk_at "go"
    have hn : ¬ c ∈ ls.take i := hc ▸ take_notin tab.nd hi
    refine v_put (marks_new m6 hn (by rw [List.length_take]; omega)) fun H7 k7 e7 => ?_
    refine ⟨_, _, rfl, fun b o hb => k7 _ _ (s6 _ _ (s5 _ _ (k3 _ _ hb))) (ne_of_none hb hm), by rw [take_getD hi, hc]; exact e7, ?_⟩
    intro y hy
    rw [take_getD hi, hc, List.mem_append, List.mem_singleton] at hy
    have ntm : t ≠ m := (ne_of_none (s5 _ _ m3) ht).symm
    by_cases e : y = c
    · rw [if_pos e, e]
      exact k7 _ _ e6 ntm
    · rw [if_neg e]
      have hy := hy.resolve_right e
      have := t3 y hy
      exact k7 _ _ (s6 _ _ (s5 _ _ this)) (ne_of this m3 (by intro z; cases z))
  rintro σ H3 ⟨x, A, rfl, k3, m3, t3⟩
  rw [List.take_of_length_le (Nat.le_refl _)] at m3 t3
  have hm1 : H m = none := by
    cases z : H m with
    | none => rfl
    | some o => have := s1 _ _ z; rw [hm] at this; cases this
  walk_at "go"
  exact k m H3 hm1 ⟨A, m3, t3⟩ fun b o hb => k3 _ _ (s1 _ _ hb)
end
end
section
open PySem PySem.Spec L2
section
variable {P : Program} {w : World} {K : PySem.W.Frag} {mg : Str → Option Value} {base : Heap}
abbrev stthrough : Stmt := (top 56)
abbrev Nthrough : List Str := ["_law_table", "_law_marks_here", "_law_door", "_law_own", "_law_found", "_law_each", "_law_number", "_law_at"]
theorem scthrough : FnScope Nthrough ["_law_table", "_law_marks_here", "_law_door"] (defScope stthrough) := ⟨rfl, rfl, rfl, by decide +kernel, rfl, by decide +kernel, by decide +kernel⟩

theorem ok_through (F : FnAt K mg "_law_through" stthrough) (T : TxtV K mg) : Def P w K mg base CX0 1 "_law_through" ["_law_table", "_law_marks_here", "_law_door"] spThrough := by
  refine F.ok scthrough (fun _ _ _ _ _ _ us hl => match us, hl with | [_, _, _], _ => rfl) (fun vs H Q E h => ?_) (fun f cdv A outer s H vs Q E hr h => ?_)
  · obtain ⟨d, m, ls, f, M, k, rfl, _⟩ := h
    rfl
  obtain ⟨d, m, ls, fn, M, kk, rfl, hd, tab, hk, hM, k⟩ := h
  have hu := hu_of hr
  have nd := scthrough.nd
  have tl := tab.len
  obtain ⟨A0, hm, hA⟩ := hM.ex
  refine ⟨_, (pss_cons (ps_asg (pe_tup (pa_cons (pe_dget hu (pv 1) (pv 2) (fun _ _ => rfl)) (pa_cons pe_dnewK pa_nil))) (pg_tup rfl (pgs_cons (pg_name (i := 3) nd rfl (Or.inr rfl)) (pgs_cons (pg_name (i := 4) nd rfl (Or.inl rfl)) pgs_nil))))
      (pss_cons (ps_lock (ps_for PassesOwn.never rfl (pi_keys (pv 1)) (pg_name (i := 5) nd rfl (Or.inr rfl))
      (pss_one (ps_if (pt_cmpR op_eq (pv 5) (pv 2) (nomark _))
        (pss_one (ps_dput hu (pv 4) (pv 5) (pe_callTy (c_tupleK (K := K) rfl) (by rfl) T.tuple (by decide +kernel) (pa_cons (pe_lc (own := [("_law_number", 6)]) (g := gName 6) (by rfl) nd (pi_tupK (K := K) rfl (pv 3)) (blkOk_by (own := [("_law_number", 6)]) (N := Nthrough) (sc := defScope stthrough) (by decide +kernel)) (fun _ _ _ _ _ => (pg_name (i := 6) nd rfl (Or.inl rfl))) (fun _ _ _ _ _ => pts_nil) (fun _ _ _ _ _ => (pe_un un_neg (pv 6)))) pa_nil)) rfl))
        (pss_one (ps_if (pt_cmpR op_inS (pv 5) (pe_dget hu (pv 0) (pv 2) (fun _ _ => rfl)) (by rfl))
          (pss_one (ps_dput hu (pv 4) (pv 5) (pe_dget hu (pv 1) (pv 5) (fun _ _ => rfl)) rfl))
          (pss_one (ps_dput hu (pv 4) (pv 5) (pe_callTy (c_tupleK (K := K) rfl) (by rfl) T.tuple (by decide +kernel) (pa_cons (pe_lc (own := [("_law_at", 7)]) (g := gName 7) (by rfl) nd (pi_range1 (by rfl) T.range (pa_cons (pe_callB (c_lenK (K := K) rfl) (by rfl) T.len PySem.boot_len (pa_cons (pv 3) pa_nil)) pa_nil)) (blkOk_by (own := [("_law_at", 7)]) (N := Nthrough) (sc := defScope stthrough) (by decide +kernel)) (fun _ _ _ _ _ => (pg_name (i := 7) nd rfl (Or.inl rfl))) (fun _ _ _ _ _ => pts_nil) (fun _ _ _ _ _ => (pe_op op_add (pe_ix (ix_TK (K := K) rfl) (pe_dget hu (pv 1) (pv 5) (fun _ _ => rfl)) (pv 7) (fun _ _ => rfl)) (pe_op op_mul pe_int (pe_ix (ix_TK (K := K) rfl) (pv 3) (pv 7) (fun _ _ => rfl)))))) pa_nil)) rfl))))))))
      (pss_one (ps_ret (pv 4))))), ?_⟩
  refine s_start [some _, some _, some _, none, none, none, none, none] rfl ?_
  walk_at "go"
  refine v_dget (marks_get hm hk) ?_
  walk_at "go"
  intro q H1 hq s1 e1
  walk_at "go"
  intro t H2 ht s2 e2
  refine v_gTup2 rfl e2 ?_
  have s12 := s1.trans s2
  have hm2 := s12 _ _ hm
  walk_at "go"
  refine e_lock hm2 trivial fun od => ?_
  have nqm : q ≠ m := (ne_of_none hm hq).symm
  have ndm : d ≠ m := by
    intro z
    rw [z, hm] at hd
    injection hd with hd
    injection hd with hd
    cases ls with
    | nil => cases hk
    | cons c r =>
      unfold marksKV tabKV at hd
      rw [List.map_cons, List.map_cons] at hd
      injection hd with hd _
      injection hd with _ hd
      cases hd
  have nqd : q ≠ d := (ne_of_none hd hq).symm
  have nAm : ∀ c ∈ ls, A0 c ≠ m := fun c hc => ne_of (hA c hc) hm (by intro z; cases z)
  have nAq : ∀ c ∈ ls, A0 c ≠ q := fun c hc => ne_of_none (hA c hc) hq
  walk_at "go"
  refine ⟨m, od, rfl, .inl ⟨_, upd_same, ?_⟩⟩
  refine for_it walk_let (fun i σ H' => ∃ x B, σ = [some (.ref d), some (.ref m), some (.str (tx [kk])), some (.ref (A0 kk)), some (.ref q), x, none, none] ∧ (∀ b o, H b = some o → b ≠ m → H' b = some o) ∧ H' m = some (.frz od (.dK (marksKV ls A0))) ∧ H' q = some (.dK (marksKV (ls.take i) B)) ∧ ∀ c ∈ ls.take i, H' (B c) = some (.tup (vecV ls fun x => thr fn kk (fun e => M e x) c)))
    ⟨_, fun _ => 0, rfl, fun b o hb nb => by rw [upd_ne nb]; exact s12 _ _ hb, upd_same, by rw [upd_ne nqm]; exact s2 _ _ e1, by simp⟩ ?_ ?_ ?_
  · rintro i σ H' _ ⟨x, B, rfl, _, h, _⟩
    exact h
  · rintro i v σ H3 H4 hi ⟨x, B, rfl, k3, m3, q3, t3⟩ ⟨rfl, hv⟩
    have hx : ls.getD i 0 ∈ ls := getD_mem hi
    obtain ⟨c, hc⟩ : ∃ c, ls.getD i 0 = c := ⟨_, rfl⟩
    obtain rfl : v = V.str (tx [c]) := by rw [← hc]; exact hv
    rw [hc] at hx
    have hn : ¬ c ∈ ls.take i := hc ▸ take_notin tab.nd hi
    have hown := k3 _ _ (hA kk hk) (nAm kk hk)
    have hcA := k3 _ _ (hA c hx) (nAm c hx)
    have fin : ∀ (H5 H6 : Hp) (p : Addr), Same H4 H5 → H5 p = some (.tup (vecV ls fun x => thr fn kk (fun e => M e x) c)) → Keep q H5 H6 → H6 q = some (.dK (marksKV (ls.take i ++ [c]) fun y => if y = c then p else B y)) →
        ∃ x B, [some (V.ref d), some (V.ref m), some (V.str (tx [kk])), some (V.ref (A0 kk)), some (V.ref q), some (V.str (tx [c])), none, none] = [some (.ref d), some (.ref m), some (.str (tx [kk])), some (.ref (A0 kk)), some (.ref q), x, none, none] ∧ (∀ b o, H b = some o → b ≠ m → H6 b = some o) ∧ H6 m = some (.frz od (.dK (marksKV ls A0))) ∧ H6 q = some (.dK (marksKV (ls.take (i + 1)) B)) ∧ ∀ c ∈ ls.take (i + 1), H6 (B c) = some (.tup (vecV ls fun x => thr fn kk (fun e => M e x) c)) := by
      intro H5 H6 p s5 e5 k6 e6
      have q5 := s5 _ _ q3
      refine ⟨_, _, rfl, fun b o hb nb => k6 _ _ (s5 _ _ (k3 _ _ hb nb)) (ne_of_none hb hq), k6 _ _ (s5 _ _ m3) nqm.symm, by rw [take_getD hi, hc]; exact e6, ?_⟩
      intro y hy
      rw [take_getD hi, hc, List.mem_append, List.mem_singleton] at hy
      by_cases e : y = c
      · rw [if_pos e, e]
        exact k6 _ _ e5 (ne_of e5 q5 (by intro z; cases z))
      · rw [if_neg e]
        have := t3 y (hy.resolve_right e)
        exact k6 _ _ (s5 _ _ this) (ne_of this q3 (by intro z; cases z))
    walk_at "go"
    rw [dec_tx]
    refine if_dec (fun c1 => ?_) (fun c1 => ?_)
    · have c1 : c = kk := by
        injection c1
      walk_at "go"
      refine v_iT hown ?_
      refine vals_all (ls := ls) (it := fun x => V.int (M kk x)) (f := fun x => V.int (- M kk x)) (walk_tupM (ls := ls) (f := fun x => V.int (M kk x))) (fun H' s' => SqT.of (s' _ _ hown)) (by omega) (fun y hy H5 s5 R r => ?_) (fun y hy H5 s5 R r => ?_) (fun D H5 hD s5 e5 => ?_)
      · exact r H5 (Same.refl _)
      · walk_at "go"
        exact ⟨_, rfl, r H5 (Same.refl _)⟩
      walk_at "go"
      refine v_tuple e5 fun p H6 hp s6 e6 => ?_
      have q6 := s6 _ _ (s5 _ _ q3)
      walk_at "go"
      refine v_put (marks_new q6 hn (by rw [List.length_take]; omega)) fun H7 k7 e7 => ?_
      refine fin H6 H7 p (s5.trans s6) ?_ k7 e7
      rw [e6]
      congr 2
      refine List.map_congr_left fun x _ => ?_
      show _ = V.int (thr fn kk (fun e => M e x) c)
      rw [c1, thr_self]
    · have c1 : c ≠ kk := fun z => c1 (by rw [z])
      walk_at "go"
      refine v_dget (tab_get (k3 _ _ hd ndm) hk) ?_
      walk_at "go"
      refine if_dec (fun c2 => ?_) (fun c2 => ?_)
      · walk_at "go"
        refine v_dget (marks_getF m3 hx) ?_
        walk_at "go"
        refine v_put (marks_new q3 hn (by rw [List.length_take]; omega)) fun H7 k7 e7 => ?_
        refine fin H4 H7 (A0 c) (Same.refl _) ?_ k7 e7
        rw [hcA]
        congr 2
        refine List.map_congr_left fun x _ => ?_
        show _ = V.int (thr fn kk (fun e => M e x) c)
        unfold thr
        rw [if_neg c1, if_pos c2]
      · walk_at "go"
        refine v_lenT hown ?_
        rw [vecV_len]
        walk_at "go"
        refine vals_rng (ls := ls) (f := fun x => V.int (M c x + 2 * M kk x)) (by omega) (fun j hj H5 s5 R r => ?_) (fun j hj H5 s5 R r => ?_) (fun D H5 hD s5 e5 => ?_)
        · exact r H5 (Same.refl _)
        · walk_at "go"
          refine v_dget (marks_getF (s5 _ _ m3) hx) ?_
          walk_at "go"
          refine v_ixT (s5 _ _ hcA) (at_vec hj) ?_
          walk_at "go"
          refine v_ixT (s5 _ _ hown) (at_vec hj) ?_
          walk_at "go"
          exact r H5 (Same.refl _)
        walk_at "go"
        refine v_tuple e5 fun p H6 hp s6 e6 => ?_
        have q6 := s6 _ _ (s5 _ _ q3)
        walk_at "go"
        refine v_put (marks_new q6 hn (by rw [List.length_take]; omega)) fun H7 k7 e7 => ?_
        refine fin H6 H7 p (s5.trans s6) ?_ k7 e7
        rw [e6]
        congr 2
        refine List.map_congr_left fun x _ => ?_
        show _ = V.int (thr fn kk (fun e => M e x) c)
        rw [thr_not c1 c2]
  rintro σ H3 ⟨x, B, rfl, k3, m3, q3, t3⟩
  rw [List.take_of_length_le (Nat.le_refl _)] at q3 t3
  refine ⟨m3, ?_⟩
  walk_at "go"
  refine k q _ hq ⟨B, by rw [upd_ne nqm]; exact q3, fun c hc => ?_⟩ fun b o hb => ?_
  · have := t3 c hc
    rw [upd_ne (ne_of this m3 (by intro z; cases z))]
    exact this
  · by_cases e : b = m
    · rw [e, upd_same, ← hb, e, hm]
    · rw [upd_ne e]
      exact k3 _ _ hb e
end
end
section
open PySem PySem.Spec L2
def spMarks : Sp := fun vs H Q _ => ∃ (d : Addr) (ls : List Nat) (f : Nat → List Nat) (w : List Nat), vs = [.ref d, .str (tx w)] ∧ H d = some (.dK (tabKV ls f)) ∧ Tab ls f ∧ (∀ c ∈ w, c ∈ ls) ∧ ∀ m H', MarksAt H' m ls (fun c x => act f w.reverse (unit x) c) → Same H H' → Q (.ref m) H'
def backs (ls : List Nat) (M : Nat → Nat → Int) : List Nat := ls.filter fun c => decide (∃ x ∈ ls, M c x < 0)
def spBacks : Sp := fun vs H Q _ => ∃ (m : Addr) (ls : List Nat) (M : Nat → Nat → Int), vs = [.ref m] ∧ MarksAt H m ls M ∧ ls.length ≤ 8 ∧ 
  ∀ l H', H' l = some (.lst ((backs ls M).map fun c => V.str (tx [c]))) → Same H H' → Q (.ref l) H'
def spName : Sp := fun vs H Q _ => ∃ (d : Addr) (ls : List Nat) (f : Nat → List Nat) (w : List Nat), vs = [.ref d, .str (tx w)] ∧ H d = some (.dK (tabKV ls f)) ∧ Tab ls f ∧ CrOk f ∧ ls.Pairwise (· < ·) ∧ (∀ c ∈ w, c ∈ ls) ∧ w.length ≤ 10000 ∧ ∀ H', Same H H' → Q (.str (tx (joinC f [] w))) H'
theorem joinC_mem {cr : Nat → List Nat} {c : Nat} : ∀ {way name : List Nat}, c ∈ joinC cr name way → c ∈ name ∨ c ∈ way
  | [], name, h => .inl h
  | k :: r, name, h => by
    rcases joinC_mem (way := r) (name := stepOf (cr k) name k) h with z | z
    · rcases stepOf_mem z with e | e
      · exact .inr (e ▸ List.mem_cons_self ..)
      · exact .inl e
    · exact .inr (List.mem_cons_of_mem _ z)
theorem joinC_len (cr : Nat → List Nat) : ∀ (way name : List Nat), (joinC cr name way).length ≤ name.length + way.length
  | [], name => Nat.le_refl _
  | k :: r, name => by
    show (joinC cr (stepOf (cr k) name k) r).length ≤ _
    have := joinC_len cr r (stepOf (cr k) name k)
    have := stepOf_len (cr k) name k
    rw [List.length_cons]
    omega
/-- the backs of a name's marks: empty for home, else its first letter first -/
theorem backs_nil {f : Nat → List Nat} {ls : List Nat} (ok : CrOk f) : backs ls (fun c x => act f [] (unit x) c) = [] := by
  unfold backs
  rw [List.filter_eq_nil_iff]
  intro c hc h
  have := (mark_neg (ls := ls) ok (w := []) trivial (fun _ z => nomatch z) hc).mp (of_decide_eq_true h)
  exact this
theorem backs_cons {f : Nat → List Nat} {ls : List Nat} (ok : CrOk f) (asc : ls.Pairwise (· < ·)) {c : Nat} {r : List Nat} (h : NF f (c :: r)) (hw : ∀ y ∈ c :: r, y ∈ ls) : ∃ t, backs ls (fun e x => act f (c :: r) (unit x) e) = c :: t := by
  have mem : ∀ s, s ∈ backs ls (fun e x => act f (c :: r) (unit x) e) → c ≤ s := fun s hs => by
    obtain ⟨h1, h2⟩ := List.mem_filter.mp hs
    exact h.least ((mark_neg ok h.red hw h1).mp (of_decide_eq_true h2))
  have hc : c ∈ backs ls (fun e x => act f (c :: r) (unit x) e) := List.mem_filter.mpr ⟨hw c (List.mem_cons_self ..), decide_eq_true ((mark_neg ok h.red hw (hw c (List.mem_cons_self ..))).mpr (.inl rfl))⟩
  have ap : (backs ls (fun e x => act f (c :: r) (unit x) e)).Pairwise (· < ·) := asc.filter _
  generalize backs ls (fun e x => act f (c :: r) (unit x) e) = b at *
  cases b with
  | nil => cases hc
  | cons y t =>
    refine ⟨t, ?_⟩
    have h1 := mem y (List.mem_cons_self ..)
    rcases List.mem_cons.mp hc with e | e
    · rw [e]
    · have := (List.pairwise_cons.mp ap).1 c e
      omega
section
variable {P : Program} {w : World} {K : PySem.W.Frag} {mg : Str → Option Value} {base : Heap}
abbrev stmarks : Stmt := (top 57)
abbrev Nmarks : List Str := ["_law_table", "_law_walk_here", "_law_found", "_law_item"]
theorem scmarks : FnScope Nmarks ["_law_table", "_law_walk_here"] (defScope stmarks) := ⟨rfl, rfl, rfl, by decide +kernel, rfl, by decide +kernel, by decide +kernel⟩

theorem ok_marks (F : FnAt K mg "_law_marks" stmarks) (D_units : Def P w K mg base CX0 1 "_law_units" ["_law_table"] spUnits) (D_through : Def P w K mg base CX0 1 "_law_through" ["_law_table", "_law_marks_here", "_law_door"] spThrough) : Def P w K mg base CX0 2 "_law_marks" ["_law_table", "_law_walk_here"] spMarks := by
  refine F.ok scmarks (fun _ _ _ _ _ _ us hl => match us, hl with | [_, _], _ => rfl) (fun vs H Q E h => ?_) (fun f cdv A outer s H vs Q E hr h => ?_)
  · obtain ⟨d, ls, f, w, rfl, _⟩ := h
    rfl
  obtain ⟨d, ls, fn, wk, rfl, hd, tab, hw, k⟩ := h
  have hu := hu_of hr
  have nd := scmarks.nd
  refine ⟨_, (pss_cons (ps_set (i := 2) nd rfl (Or.inl rfl) (pe_cd D_units hr pass0 (pa_cons (pv 0) pa_nil)))
      (pss_cons (ps_for PassesOwn.never rfl (pi_str (pv 1)) (pg_name (i := 3) nd rfl (Or.inl rfl))
      (pss_one (ps_set (i := 2) nd rfl (Or.inl rfl) (pe_cd D_through hr pass0 (pa_cons (pv 0) (pa_cons (pv 2) (pa_cons (pv 3) pa_nil)))))))
      (pss_one (ps_ret (pv 2))))), ?_⟩
  refine s_start [some _, some _, none, none] rfl ?_
  walk_at "go"
  refine ⟨d, ls, fn, rfl, hd, tab, fun m H1 _ m1 s1 => ?_⟩
  walk_at "go"
  refine for_it (walk_tx wk) (fun i σ H' => ∃ x m, σ = [some (.ref d), some (.str (tx wk)), some (.ref m), x] ∧ MarksAt H' m ls (fun c x => act fn (wk.take i).reverse (unit x) c) ∧ Same H H') ⟨_, m, rfl, m1, s1⟩ (fun _ _ _ _ _ => trivial) ?_ ?_
  · rintro i v σ H2 H3 hi ⟨x, m, rfl, m2, s2⟩ ⟨rfl, rfl⟩
    walk_at "go"
    refine ⟨d, m, ls, fn, _, wk.getD i 0, rfl, s2 _ _ hd, tab, hw _ (getD_mem hi), m2, fun m' H4 _ m4 s4 => ?_⟩
    refine ⟨_, m', rfl, ?_, s2.trans s4⟩
    rw [take_getD hi, List.reverse_append]
    exact m4
  rintro σ H2 ⟨x, m, rfl, m2, s2⟩
  rw [List.take_of_length_le (Nat.le_refl _)] at m2
  walk_at "go"
  exact k m H2 m2 s2
abbrev stbacks : Stmt := (top 58)
abbrev Nbacks : List Str := ["_law_marks_here", "_law_item", "_law_number"]
theorem scbacks : FnScope Nbacks ["_law_marks_here"] (defScope stbacks) := ⟨rfl, rfl, rfl, by decide +kernel, rfl, by decide +kernel, by decide +kernel⟩

theorem ok_backs (F : FnAt K mg "_law_backs" stbacks) (T : TxtV K mg) : Def P w K mg base CX0 1 "_law_backs" ["_law_marks_here"] spBacks := by
  refine F.ok scbacks (fun _ _ _ _ _ _ us hl => match us, hl with | [_], _ => rfl) (fun vs H Q E h => ?_) (fun f cdv A outer s H vs Q E hr h => ?_)
  · obtain ⟨m, ls, M, rfl, _⟩ := h
    rfl
  obtain ⟨m, ls, M, rfl, hM, hl, k⟩ := h
  have hu := hu_of hr
  have nd := scbacks.nd
  obtain ⟨A0, hm, hA⟩ := hM.ex
  refine ⟨_, (pss_one (ps_lock (ps_ret (pe_lc (own := [("_law_item", 1)]) (g := gName 1) (by rfl) nd (pi_keys (pv 0)) (blkOk_by (own := [("_law_item", 1)]) (N := Nbacks) (sc := defScope stbacks) (by decide +kernel)) (fun _ _ _ _ _ => (pg_name (i := 1) nd rfl (Or.inl rfl))) (fun _ _ _ _ _ => (pts_one (pt_cmpR op_lt (pe_callB (cr_minK (K := K) rfl rfl) (by rfl) T.min (by decide +kernel) (pa_cons (pe_lc (own := [("_law_number", 2)]) (g := gName 2) (by rfl) nd (pi_tupK (K := K) rfl (pe_dget hu (pv 0) (pv 1) (fun _ _ => rfl))) (blkOk_by (own := [("_law_number", 2)]) (N := Nbacks) (sc := lcSc [".0", "_law_item"] ["min"] ["_law_marks_here"]) (by decide +kernel)) (fun _ _ _ _ _ => (pg_name (i := 2) nd rfl (Or.inl rfl))) (fun _ _ _ _ _ => pts_nil) (fun _ _ _ _ _ => (pe_callTy c_int (by rfl) T.int (by decide +kernel) (pa_cons (pv 2) pa_nil)))) pa_nil)) pe_int (nomark _)))) (fun _ _ _ _ _ => (pv 1)))))), ?_⟩
  refine s_start [some _, none, none] rfl ?_
  refine e_lock hm trivial fun od => ?_
  have nAm : ∀ c ∈ ls, A0 c ≠ m := fun c hc => ne_of (hA c hc) hm (by intro z; cases z)
  walk_at "go"
  refine ⟨m, od, rfl, .inl ⟨_, upd_same, ?_⟩⟩
  refine vals_some (ls := ls) (it := fun c => V.str (tx [c])) (f := fun c => V.str (tx [c])) (b := fun c => decide (∃ x ∈ ls, M c x < 0)) (walk_let (g := fun c => V.ref (A0 c))) (fun H' s' => s' _ _ upd_same) (by omega) (fun c hc H1 s1 R r => ?_) (fun c hc hb H1 s1 R r => ?_) (fun D H1 hD s1 e1 => ?_)
  · have hc1 : H1 (A0 c) = some (.tup (vecV ls (M c))) := s1 _ _ (by rw [upd_ne (nAm c hc)]; exact hA c hc)
    walk_at "go"
    refine v_dget (marks_getF (s1 _ _ upd_same) hc) ?_
    walk_at "go"
    refine v_iT hc1 ?_
    refine vals_all (ls := ls) (it := fun x => V.int (M c x)) (f := fun x => V.int (M c x)) (walk_tupM (ls := ls) (f := fun x => V.int (M c x))) (fun H' s' => SqT.of (s' _ _ hc1)) (by omega) (fun y hy H5 s5 R r => ?_) (fun y hy H5 s5 R r => ?_) (fun D H5 hD s5 e5 => ?_)
    · exact r H5 (Same.refl _)
    · walk_at "go"
      exact r H5 (Same.refl _)
    walk_at "go"
    have e6 : H5 D = some (.lst ((ls.map (M c)).map V.int)) := by
      rw [e5, List.map_map]
      rfl
    refine ⟨D, _, rfl, SqL.of e6, by rw [List.length_map]; exact List.length_pos_of_mem hc, fun z hz hle => ?_⟩
    walk_at "go"
    have e7 : decide (z < 0) = decide (∃ x ∈ ls, M c x < 0) := by
      refine decide_eq_decide.mpr ⟨fun h => ?_, fun h => ?_⟩
      · obtain ⟨x, hx, e⟩ := List.mem_map.mp hz
        exact ⟨x, hx, by omega⟩
      · obtain ⟨x, hx, e⟩ := h
        have := hle (M c x) (List.mem_map.mpr ⟨x, hx, rfl⟩)
        omega
    rw [e7]
    exact r H5 s5
  · walk_at "go"
    exact r H1 (Same.refl _)
  have hmm : H1 m = some (.frz od (.dK (marksKV ls A0))) := s1 _ _ upd_same
  refine ⟨hmm, ?_⟩
  have hDm : D ≠ m := fun z => by rw [z, upd_same] at hD; cases hD
  refine k D _ (by rw [upd_ne hDm]; exact e1) fun b o hb => ?_
  by_cases e : b = m
  · rw [e, upd_same, ← hb, e, hm]
  · rw [upd_ne e]
    exact s1 _ _ (by rw [upd_ne e]; exact hb)
abbrev stname : Stmt := (top 59)
abbrev Nname : List Str := ["_law_table", "_law_walk_here", "_law_marks_here", "_law_found", "_law_backs_here"]
theorem scname : FnScope Nname ["_law_table", "_law_walk_here"] (defScope stname) := ⟨rfl, rfl, rfl, by decide +kernel, rfl, by decide +kernel, by decide +kernel⟩

theorem ok_name (F : FnAt K mg "_law_name" stname) (D_marks : Def P w K mg base CX0 2 "_law_marks" ["_law_table", "_law_walk_here"] spMarks) (D_through : Def P w K mg base CX0 1 "_law_through" ["_law_table", "_law_marks_here", "_law_door"] spThrough) (D_backs : Def P w K mg base CX0 1 "_law_backs" ["_law_marks_here"] spBacks) : Def P w K mg base CX0 3 "_law_name" ["_law_table", "_law_walk_here"] spName := by
  refine F.ok scname (fun _ _ _ _ _ _ us hl => match us, hl with | [_, _], _ => rfl) (fun vs H Q E h => ?_) (fun f cdv A outer s H vs Q E hr h => ?_)
  · obtain ⟨d, ls, f, w, rfl, _⟩ := h
    rfl
  obtain ⟨d, ls, fn, wk, rfl, hd, tab, ok, asc, hw, hwl, k⟩ := h
  have hu := hu_of hr
  have nd := scname.nd
  replace D_through := D_through.mono (show 1 ≤ 2 by decide)
  replace D_backs := D_backs.mono (show 1 ≤ 2 by decide)
  have tl := tab.len
  have nfN : NF fn (joinC fn [] wk) := NF_join ok NF_nil
  have memN : ∀ y ∈ joinC fn [] wk, y ∈ ls := fun y hy => (joinC_mem hy).elim (fun z => nomatch z) (hw y)
  have lenN := joinC_len fn wk []
  rw [List.length_nil] at lenN
  have actN : ∀ f0, act fn (joinC fn [] wk) f0 = act fn wk f0 := fun f0 => act_join ok wk [] f0
  generalize joinC fn [] wk = NN at *
  refine ⟨_, (pss_cons (ps_par (i := 2) (j := 3) (by rfl) nd rfl rfl (by decide) rfl rfl (pa_cons (pe_cd D_marks hr pass0 (pa_cons (pv 0) (pa_cons (pe_revS (pv 1)) pa_nil))) (pa_cons (pe_tx [] (by decide +kernel)) pa_nil)) (by rfl))
      (pss_cons (ps_set (i := 4) nd rfl (Or.inl rfl) (pe_cd D_backs hr pass0 (pa_cons (pv 2) pa_nil)))
      (pss_cutS (ps_while PassesOwn.never (pt_cmpR (op_neDK (K := K) rfl hr.units) (pv 4) (pe_lst pa_nil) (nomark _))
      (pss_cons (ps_set (i := 3) nd rfl (Or.inl rfl) (pe_op op_addS (pv 3) (pe_ix (ix_LK (K := K) rfl) (pv 4) pe_int (fun _ _ => rfl))))
        (pss_cons (ps_set (i := 2) nd rfl (Or.inl rfl) (pe_cd D_through hr pass0 (pa_cons (pv 0) (pa_cons (pv 2) (pa_cons (pe_ix (ix_LK (K := K) rfl) (pv 4) pe_int (fun _ _ => rfl)) pa_nil)))))
        (pss_one (ps_set (i := 4) nd rfl (Or.inl rfl) (pe_cd D_backs hr pass0 (pa_cons (pv 2) pa_nil)))))))
      (pss_one (ps_ret (pv 3)))))), ?_⟩
  refine s_start [some _, some _, none, none, none] rfl ?_
  walk_at "go"
  refine ⟨d, ls, fn, _, rfl, hd, tab, fun c hc => hw c (List.mem_reverse.mp hc), fun m H1 m1 s1 => ?_⟩
  have m1 : MarksAt H1 m ls (fun c x => act fn NN (unit x) c) := m1.congr fun c _ x _ => by rw [List.reverse_reverse, actN]
  walk_at "go"
  refine ⟨m, ls, _, rfl, m1, tl, fun l H2 e2 s2 => ?_⟩
  walk_at "go"
  refine s_cut (fun σ H' => ∃ m l, σ = [some (.ref d), some (.str (tx wk)), some (.ref m), some (.str (tx NN)), some (.ref l)] ∧ Same H H') ?_ ?_
  · refine s_while (fun n σ H' => ∃ u v m l, NN = u ++ v ∧ n = v.length ∧ σ = [some (.ref d), some (.str (tx wk)), some (.ref m), some (.str (tx u)), some (.ref l)] ∧ Same H H' ∧ MarksAt H' m ls (fun c x => act fn v (unit x) c) ∧ H' l = some (.lst ((backs ls (fun c x => act fn v (unit x) c)).map fun c => V.str (tx [c])))) NN.length ⟨[], NN, m, l, rfl, rfl, rfl, s1.trans s2, m1.same s2, e2⟩ ?_
    rintro n σ H3 ⟨u, v, m, l, e, rfl, rfl, s3, m3, e3⟩
    have nfv : NF fn v := by
      rw [e] at nfN
      clear e actN memN lenN
      induction u with
      | nil => exact nfN
      | cons y u ih => exact ih nfN.tail
    have memv : ∀ y ∈ v, y ∈ ls := fun y hy => memN y (by rw [e]; exact List.mem_append_right _ hy)
    walk_at "go"
    intro q H4 hq s4 e4
    have small : ∀ l' ∈ (backs ls (fun c x => act fn v (unit x) c)).map (fun c => [c]), ∀ c ∈ l', c < 1000 := by
      intro l' hl' c hc
      obtain ⟨y, hy, rfl⟩ := List.mem_map.mp hl'
      rw [List.mem_singleton.mp hc]
      have := LET_lt (tab.lt y (List.mem_filter.mp hy).1)
      omega
    have e3' : H4 l = some (.lst (((backs ls (fun c x => act fn v (unit x) c)).map fun c => tx [c]).map V.str)) := by
      rw [s4 _ _ e3, List.map_map]
      rfl
    refine v_neNilS e3' (fun x hx => ?_) e4 ?_
    · obtain ⟨y, hy, rfl⟩ := List.mem_map.mp hx
      exact ok_tx (small [y] (List.mem_map.mpr ⟨y, hy, rfl⟩))
    rw [List.isEmpty_map]
    walk_at "go"
    cases v with
    | nil =>
      rw [backs_nil ok]
      refine iteF ?_
      refine ⟨m, l, ?_, s3.trans s4⟩
      rw [e, List.append_nil]
    | cons c r =>
      obtain ⟨t, et⟩ := backs_cons ok asc nfv memv
      rw [et]
      rw [et] at e3
      refine iteT ?_
      have e34 := s4 _ _ e3
      have hc : c ∈ ls := memv c (List.mem_cons_self ..)
      have lu : u.length + [c].length ≤ 1000000 := by
        have := congrArg List.length e
        rw [List.length_append] at this
        rw [List.length_singleton]
        omega
      refine v_turn ?_
      walk_at "go"
      refine v_ixL e34 (atI_nat (j := 0) rfl) ?_
      walk_at "go"
      refine v_ixL e34 (atI_nat (j := 0) rfl) ?_
      walk_at "go"
      refine ⟨d, m, ls, fn, _, c, rfl, s4 _ _ (s3 _ _ hd), tab, hc, m3.same s4, fun m' H5 _ m5 s5 => ?_⟩
      have m5 : MarksAt H5 m' ls (fun c x => act fn r (unit x) c) := m5.congr fun b _ x _ => by
        show thr fn c (thr fn c (act fn r (unit x))) b = _
        rw [thr_thr ok]
      walk_at "go"
      refine ⟨m', ls, _, rfl, m5, tl, fun l' H6 e6 s6 => ?_⟩
      refine ⟨r.length, by simp, u ++ [c], r, m', l', by rw [e]; simp, rfl, rfl, ((s3.trans s4).trans s5).trans s6, m5.same s6, e6⟩
  rintro σ H3 ⟨m, l, rfl, s3⟩
  walk_at "go"
  exact k H3 s3
end
end
section
open PySem PySem.Spec L2
def spPlain : Sp := fun vs H Q _ => ∃ (d : Addr) (ls : List Nat) (f : Nat → List Nat), vs = [.ref d] ∧ H d = some (.dK (tabKV ls f)) ∧ Tab ls f ∧ ∀ p H', H p = none → Same H H' → H' p = some (.dK (tabKV ls (fun _ => []))) → Q (.ref p) H'
theorem paired_map {α β : Type} {r : α → β → Prop} {A : Nat → α} {B : Nat → β} : ∀ {ls : List Nat}, (∀ c ∈ ls, r (A c) (B c)) → Paired r (ls.map A) (ls.map B)
  | [], _ => .nil
  | c :: ls, h => .cons (h c (List.mem_cons_self ..)) (paired_map fun d hd => h d (List.mem_cons_of_mem _ hd))
theorem let_pw {ls : List Nat} {g : Nat → V} (h : ls.Nodup) : (ls.map fun c => ((Sum.inr (tx [c]) : Key), g c)).Pairwise (fun a b => a.1 ≠ b.1) := by
  rw [List.pairwise_map]
  refine List.Pairwise.imp (fun {a b} hab z => ?_) h
  have := key_tx.mp z
  injection this with e _
  exact hab e
section
variable {P : Program} {w : World} {K : PySem.W.Frag} {mg : Str → Option Value} {base : Heap}
abbrev stplain : Stmt := (top 64)
abbrev Nplain : List Str := ["_law_table", "_law_item"]
theorem scplain : FnScope Nplain ["_law_table"] (defScope stplain) := ⟨rfl, rfl, rfl, by decide +kernel, rfl, by decide +kernel, by decide +kernel⟩

theorem ok_plain (F : FnAt K mg "_law_plain" stplain) (T : TxtV K mg) : Def P w K mg base CX0 1 "_law_plain" ["_law_table"] spPlain := by
  refine F.ok scplain (fun _ _ _ _ _ _ us hl => match us, hl with | [_], _ => rfl) (fun vs H Q E h => ?_) (fun f cdv A outer s H vs Q E hr h => ?_)
  · obtain ⟨d, ls, f, rfl, _⟩ := h
    rfl
  obtain ⟨d, ls, fn, rfl, hd, tab, k⟩ := h
  have hu := hu_of hr
  have nd := scplain.nd
  have tl := tab.len
  refine ⟨_, (pss_one (ps_lock (ps_ret (pe_callTy (c_dictPK (K := K) rfl rfl) (by rfl) T.dict (by decide +kernel) (pa_cons (pe_lc (own := [("_law_item", 1)]) (g := gName 1) (by rfl) nd (pi_keys (pv 0)) (blkOk_by (own := [("_law_item", 1)]) (N := Nplain) (sc := defScope stplain) (by decide +kernel)) (fun _ _ _ _ _ => (pg_name (i := 1) nd rfl (Or.inl rfl))) (fun _ _ _ _ _ => pts_nil) (fun _ _ _ _ _ => (pe_tup (pa_cons (pv 1) (pa_cons (pe_tx [] (by decide +kernel)) pa_nil))))) pa_nil))))), ?_⟩
  refine s_start [some _, none] rfl ?_
  refine e_lock hd trivial fun od => ?_
  walk_at "go"
  refine ⟨d, od, rfl, .inl ⟨_, upd_same, ?_⟩⟩
  intro D hD
  have hDd : D ≠ d := fun z => by rw [z, upd_same] at hD; cases hD
  have hDH : H D = none := by rw [upd_ne hDd] at hD; exact hD
  refine lc_it (walk_let (g := fun c => V.str (tx (fn c)))) (fun j H' => ∃ A : Nat → Addr, H' D = some (.lst ((ls.take j).map fun c => V.ref (A c))) ∧ (∀ c ∈ ls.take j, H' (A c) = some (.tup [.str (tx [c]), .str (tx [])])) ∧ (∀ b o, H b = some o → b ≠ d → H' b = some o) ∧ H' d = some (.frz od (.dK (tabKV ls fn)))) ⟨fun _ => 0, upd_same, by simp, fun b o hb nb => by rw [upd_ne (ne_of_none hb hDH), upd_ne nb]; exact hb, by rw [upd_ne hDd.symm]; exact upd_same⟩ ?_ ?_ ?_
  · rintro j H' _ ⟨A, _, _, _, h⟩
    exact h
  · rintro j v H3 H4 hj ⟨A, e3, t3, k3, d3⟩ ⟨rfl, hv⟩
    obtain ⟨c, hc⟩ : ∃ c, ls.getD j 0 = c := ⟨_, rfl⟩
    obtain rfl : v = V.str (tx [c]) := by rw [← hc]; exact hv
    have hn : ¬ c ∈ ls.take j := hc ▸ take_notin tab.nd hj
    walk_at "go"
    refine ⟨rfl, ?_⟩
    walk_at "go"
    intro t H5 ht s5 e5
    have e5D := s5 _ _ e3
    refine ⟨_, e5D, ?_, fun y => if y = c then t else A y, ?_, ?_, ?_, ?_⟩
    · refine szlt ?_
      rw [List.length_map, List.length_take]
      omega
    · rw [upd_same, take_getD hj, hc, List.map_append]
      congr 3
      · refine List.map_congr_left fun y hy => ?_
        show V.ref (A y) = V.ref (if y = c then t else A y)
        rw [if_neg (fun z : y = c => hn (z ▸ hy))]
      · show [V.ref t] = [V.ref (if c = c then t else A c)]
        rw [if_pos rfl]
    · intro y hy
      rw [take_getD hj, hc, List.mem_append, List.mem_singleton] at hy
      show upd H5 D _ (if y = c then t else A y) = _
      by_cases e : y = c
      · rw [if_pos e, upd_ne (ne_of e5 e5D (by intro z; cases z)), e]
        exact e5
      · rw [if_neg e]
        have := s5 _ _ (t3 y (hy.resolve_right e))
        rw [upd_ne (ne_of this e5D (by intro z; cases z))]
        exact this
    · intro b o hb nb
      rw [upd_ne (ne_of_none hb hDH)]
      exact s5 _ _ (k3 _ _ hb nb)
    · rw [upd_ne hDd.symm]
      exact s5 _ _ d3
  rintro H3 ⟨A, e3, t3, k3, d3⟩
  rw [List.take_of_length_le (Nat.le_refl _)] at e3 t3
  walk_at "go"
  refine ⟨D, ls.map A, ls.map fun c => ((Sum.inr (tx [c]) : Key), V.str (tx [])), rfl, SqL.of (by rw [e3, List.map_map]; rfl), paired_map fun c hc => SqT.of (t3 c hc), fun p hp => ?_⟩
  rw [merge_new (fun _ _ => rfl) (let_pw tab.nd), List.nil_append]
  have hpd : p ≠ d := fun z => by rw [z, d3] at hp; cases hp
  refine ⟨by rw [upd_ne hpd.symm]; exact d3, ?_⟩
  refine k p _ ?_ ?_ ?_
  · cases z : H p with
    | none => rfl
    | some o =>
      have := k3 _ _ z hpd
      rw [hp] at this
      cases this
  · intro b o hb
    by_cases e : b = d
    · rw [e, upd_same, ← hb, e, hd]
    · rw [upd_ne e]
      have := k3 _ _ hb e
      rw [upd_ne (ne_of_none this hp)]
      exact this
  · rw [upd_ne hpd, upd_same]
    rfl
end
end
section
open PySem PySem.Spec L2
def spLaw (K : PySem.W.Frag) : Sp := fun vs H Q _ => ∃ (a : Addr) (ns : List Int), vs = [.ref a] ∧ SqL K H a (ns.map V.int) ∧ ns.length ≤ 63 ∧ ∀ H', Q (.bl true) H'
theorem if_nI {c A B : Prop} {inst : Decidable c} (h : c) (q : B) : if (!decide c) = true then A else B := if_ndec (fun z => absurd h z) (fun _ => q)
theorem if_I {c A B : Prop} {inst : Decidable c} (h : c) (q : A) : if decide c = true then A else B := if_dec (fun _ => q) (fun z => absurd h z)
/-! ### rooms of one plan -/
theorem RoomAt.go {R : Addr} {H H' : Hp} {r x : Addr} {name : List Nat} (s : Same H H') (h : RoomAt R H r x name) : RoomAt R H' r x name := h.same s
theorem PlanAt.go {C : Addr} {H H' : Hp} {x : Addr} {ks : List Nat} {ps : List (List Nat)} (s : Same H H') (h : PlanAt C H x ks ps) : PlanAt C H' x ks ps := h.same s
section
variable {K : PySem.W.Frag} {H : Hp} {Q : VK} {C R r r' x : Addr} {a b : List Nat} {ks : List Nat} {ps : List (List Nat)} {E : XK}
theorem v_rname {P : V → Prop} (h : RoomAt R H r x a) (c : Cls K R) (n : NoAttr K R "name") (q : P (.str (tx a))) : ∃ a' C dx fs v, V.ref r = .ref a' ∧ H a' = some (.ins C dx fs) ∧ Cls K C ∧ NoAttr K C "name" ∧ fs.lookup ("name" : Str) = some v ∧ P v := by
  obtain ⟨dx, e⟩ := h.ex
  exact v_fld e c n roomF_n q
theorem v_rnameG {P : V → Prop} (q : ∃ R x a, RoomAt R H r x a ∧ Cls K R ∧ NoAttr K R "name" ∧ P (.str (tx a))) : ∃ a' C dx fs v, V.ref r = .ref a' ∧ H a' = some (.ins C dx fs) ∧ Cls K C ∧ NoAttr K C "name" ∧ fs.lookup ("name" : Str) = some v ∧ P v := by
  obtain ⟨R, x, a, h, c, n, q⟩ := q
  exact v_rname h c n q
theorem v_rplan {P : V → Prop} (h : RoomAt R H r x a) (c : Cls K R) (n : NoAttr K R "plan") (q : P (.ref x)) : ∃ a' C dx fs v, V.ref r = .ref a' ∧ H a' = some (.ins C dx fs) ∧ Cls K C ∧ NoAttr K C "plan" ∧ fs.lookup ("plan" : Str) = some v ∧ P v := by
  obtain ⟨dx, e⟩ := h.ex
  exact v_fld e c n roomF_p q
theorem v_rplanG {P : V → Prop} (q : ∃ R x a, RoomAt R H r x a ∧ Cls K R ∧ NoAttr K R "plan" ∧ P (.ref x)) : ∃ a' C dx fs v, V.ref r = .ref a' ∧ H a' = some (.ins C dx fs) ∧ Cls K C ∧ NoAttr K C "plan" ∧ fs.lookup ("plan" : Str) = some v ∧ P v := by
  obtain ⟨R, x, a, h, c, n, q⟩ := q
  exact v_rplan h c n q
theorem rooms2 (h1 : RoomAt R H r x a) (h2 : RoomAt R H r' x b) (pl : PlanAt C H x ks ps) (ok : PsOk ps) (la : a.length ≤ 2000) (lb : b.length ≤ 2000) : Rooms2 C R H r x a r' x b true := ⟨h1, h2, ⟨ks, ks, ps, ps, pl, pl, ok, ok, (decide_eq_true ⟨rfl, rfl⟩).symm⟩, la, lb⟩
theorem v_req (h1 : RoomAt R H r x a) (h2 : RoomAt R H r' x b) (pl : PlanAt C H x ks ps) (ok : PsOk ps) (la : a.length ≤ 2000) (lb : b.length ≤ 2000) (q : Q (.bl (decide (a = b))) H) : rM2 R (spRoomEq C R) E (.ref r) (.ref r') H Q := by
  obtain ⟨dx, e1⟩ := h1.ex
  obtain ⟨dy, e2⟩ := h2.ex
  refine v_M2 e1 e2 ⟨_, _, _, _, _, _, _, rfl, rooms2 h1 h2 pl ok la lb, ?_⟩
  rw [Bool.true_and]
  exact q
theorem v_rne (h1 : RoomAt R H r x a) (h2 : RoomAt R H r' x b) (pl : PlanAt C H x ks ps) (ok : PsOk ps) (la : a.length ≤ 2000) (lb : b.length ≤ 2000) (q : Q (.bl (!decide (a = b))) H) : rM2n R (spRoomEq C R) E (.ref r) (.ref r') H Q := by
  obtain ⟨dx, e1⟩ := h1.ex
  obtain ⟨dy, e2⟩ := h2.ex
  refine v_M2n e1 e2 ⟨_, _, _, _, _, _, _, rfl, rooms2 h1 h2 pl ok la lb, ?_⟩
  rw [Bool.true_and]
  exact ⟨_, rfl, q⟩
theorem v_rlen (h : RoomAt R H r x a) (l : a.length ≤ 100000) (q : Q (.int a.length) H) : rLenM R (spRoomLen R) E [.ref r] H Q := by
  obtain ⟨dx, e⟩ := h.ex
  exact v_lenM e ⟨_, _, _, rfl, h, l, a.length, rfl, by omega, q⟩
theorem v_reqT {z : Str} (h : RoomAt R H r x a) (q : Q (.bl false) H) : rMS R (spRoomEqS R) E (.ref r) (.str z) H Q := by
  obtain ⟨dx, e⟩ := h.ex
  exact v_MS e ⟨_, _, rfl, q⟩
theorem v_rlenG (q : ∃ x a, RoomAt R H r x a ∧ a.length ≤ 100000 ∧ Q (.int a.length) H) : rLenM R (spRoomLen R) E [.ref r] H Q := by
  obtain ⟨x, a, h, l, q⟩ := q
  exact v_rlen h l q
theorem v_reqG (q : ∃ x a b ks ps, RoomAt R H r x a ∧ RoomAt R H r' x b ∧ PlanAt C H x ks ps ∧ PsOk ps ∧ a.length ≤ 2000 ∧ b.length ≤ 2000 ∧ Q (.bl (decide (a = b))) H) : rM2 R (spRoomEq C R) E (.ref r) (.ref r') H Q := by
  obtain ⟨x, a, b, ks, ps, h1, h2, h3, h4, h5, h6, q⟩ := q
  exact v_req h1 h2 h3 h4 h5 h6 q
theorem v_rneG (q : ∃ x a b ks ps, RoomAt R H r x a ∧ RoomAt R H r' x b ∧ PlanAt C H x ks ps ∧ PsOk ps ∧ a.length ≤ 2000 ∧ b.length ≤ 2000 ∧ Q (.bl (!decide (a = b))) H) : rM2n R (spRoomEq C R) E (.ref r) (.ref r') H Q := by
  obtain ⟨x, a, b, ks, ps, h1, h2, h3, h4, h5, h6, q⟩ := q
  exact v_rne h1 h2 h3 h4 h5 h6 q
theorem v_reqTG {z : Str} (q : ∃ x a, RoomAt R H r x a ∧ Q (.bl false) H) : rMS R (spRoomEqS R) E (.ref r) (.str z) H Q := by
  obtain ⟨x, a, h, q⟩ := q
  exact v_reqT h q
theorem v_peqS {x : Addr} (pl : PlanAt C H x ks ps) (ok : PsOk ps) (q : Q (.bl true) H) : rM2 C (spPlanEq C) E (.ref x) (.ref x) H Q := by
  obtain ⟨dx, t, d, e, _⟩ := pl.ex
  refine v_M2 e e ⟨_, _, _, _, _, _, rfl, pl, pl, ok, ok, ?_⟩
  rw [decide_eq_true ⟨rfl, rfl⟩]
  exact q
theorem v_peqG {x : Addr} (q : ∃ ks ps, PlanAt C H x ks ps ∧ PsOk ps ∧ Q (.bl true) H) : rM2 C (spPlanEq C) E (.ref x) (.ref x) H Q := by
  obtain ⟨ks, ps, h1, h2, q⟩ := q
  exact v_peqS h1 h2 q
end
/-! ### rooms of a drawn floor -/
section
variable {K : PySem.W.Frag} {H : Hp} {Q : VK} {C R r x : Addr} {ls : List Nat} {fn : Nat → List Nat} {a b w : List Nat} {k : Nat} {E : XK}
theorem inAsc (T : Tab ls fn) (h : ∀ c ∈ a, c ∈ ls) : ∀ c ∈ a, c ∈ ascOf ls := fun c hc => ascOf_mem.mpr ⟨T.lt c (h c hc), h c hc⟩
theorem memN (h : ∀ c ∈ a, c ∈ ls) : ∀ c ∈ joinC fn [] a, c ∈ ls := fun c hc => h c (name_mem hc)
theorem sp_room (fl : Fl ls fn) (pl : PlanAt C H x (ascOf ls) (tabPairs ls fn)) (hw : ∀ c ∈ w, c ∈ ls) (l : w.length ≤ 2000) (q : ∀ r H', H r = none → Same H H' → RoomAt R H' r x (joinC fn [] w) → Q (.ref r) H') : spRoom C R [.ref x, .str (tx w)] H Q E := by
  refine ⟨x, _, _, w, rfl, pl, inAsc fl.tab hw, l, fun r H' h s ro => q r H' h s ?_⟩
  rw [joinOf_tab fl.tab (name := []) (by simp) hw] at ro
  exact ro
theorem v_add (fl : Fl ls fn) (h : RoomAt R H r x (joinC fn [] a)) (pl : PlanAt C H x (ascOf ls) (tabPairs ls fn)) (ha : ∀ c ∈ a, c ∈ ls) (hb : ∀ c ∈ b, c ∈ ls) (la : a.length ≤ 1000) (lb : b.length ≤ 1000) (q : ∀ r' H', H r' = none → Same H H' → RoomAt R H' r' x (joinC fn [] (a ++ b)) → Q (.ref r') H') : rMS R (spRoomAdd C R) E (.ref r) (.str (tx b)) H Q := by
  obtain ⟨dr, er⟩ := h.ex
  have n1 := name_len fn a
  have j1 := joinOf_len (ascOf ls) (tabPairs ls fn) b (joinC fn [] a)
  have n1 : (joinC fn [] a).length ≤ a.length := n1
  refine v_MS er ⟨r, x, _, _, _, b, rfl, h, pl, inAsc fl.tab (memN ha), inAsc fl.tab hb, by omega, by omega, by omega, fun r' H' hr' s' ro => q r' H' hr' s' ?_⟩
  have hm : ∀ c ∈ joinC fn (joinC fn [] a) b, c ∈ ls := fun c hc => (joinC_mem' hc).elim (memN ha c) (hb c)
  rw [joinOf_tab fl.tab (memN ha) hb, joinOf_tab fl.tab (name := []) (by simp) hm, show joinC fn [] (joinC fn (joinC fn [] a) b) = joinC fn [] (a ++ b) from name_app fl.ok a b] at ro
  exact ro
theorem sp_name {d : Addr} (fl : Fl ls fn) (hd : H d = some (.dK (tabKV ls fn))) (hw : ∀ c ∈ w, c ∈ ls) (l : w.length ≤ 10000) (q : ∀ H', Same H H' → Q (.str (tx (joinC fn [] w))) H') : spName [.ref d, .str (tx w)] H Q E := ⟨d, ls, fn, w, rfl, hd, fl.tab, fl.ok, fl.asc, hw, l, q⟩
end
theorem v_mdRG {R r : Addr} {H : Hp} {m : Str} {P : Prop} (q : ∃ x a, RoomAt R H r x a ∧ (¬ m = "name" ∧ ¬ m = "plan") ∧ P) : ∃ a dx fs, V.ref r = .ref a ∧ H a = some (.ins R dx fs) ∧ fs.lookup m = none ∧ P := by
  obtain ⟨x, a, h, ⟨h1, h2⟩, q⟩ := q
  obtain ⟨dx, e⟩ := h.ex
  exact ⟨r, dx, _, rfl, e, roomF_no h1 h2, q⟩
end
section
open PySem PySem.Spec L2
section
variable {P : Program} {w : World} {K : PySem.W.Frag} {mg : Str → Option Value} {base : Heap} {C : Addr}
abbrev stturned_back : Stmt := (top 14)
abbrev Nturned_back : List Str := ["plan", "name"]
theorem scturned_back : FnScope Nturned_back ["plan", "name"] (defScope stturned_back) := ⟨rfl, rfl, rfl, by decide +kernel, rfl, by decide +kernel, by decide +kernel⟩

theorem ok_turned_back (F : FnAt K mg "turned_back" stturned_back) (D_joined : Def P w K mg base CX0 2 "joined" ["plan", "name", "way"] (spJoined C)) : Def P w K mg base CX0 3 "turned_back" ["plan", "name"] (spBack C) := by
  refine F.ok scturned_back (fun _ _ _ _ _ _ us hl => match us, hl with | [_, _], _ => rfl) (fun vs H Q E h => ?_) (fun f cdv A outer s H vs Q E hr h => ?_)
  · obtain ⟨x, ks, ps, name, rfl, _⟩ := h
    rfl
  obtain ⟨x, ks, ps, name, rfl, h1, hk, hl, q⟩ := h
  have hu := hu_of hr
  have nd := scturned_back.nd
  refine ⟨_, (pss_one (ps_ret (pe_cd D_joined hr pass0 (pa_cons (pv 0) (pa_cons (pe_tx [] (by decide +kernel)) (pa_cons (pe_revS (pv 1)) pa_nil)))))), ?_⟩
  refine s_start [some _, some _] rfl ?_
  walk_at "go"

  refine ⟨x, ks, ps, [], name.reverse, rfl, h1, fun c hc => hk c (List.mem_reverse.mp hc), ?_, q⟩
  rw [List.length_reverse, List.length_nil]
  omega
abbrev stway_from : Stmt := (top 15)
abbrev Nway_from : List Str := ["plan", "name", "goal"]
theorem scway_from : FnScope Nway_from ["plan", "name", "goal"] (defScope stway_from) := ⟨rfl, rfl, rfl, by decide +kernel, rfl, by decide +kernel, by decide +kernel⟩

theorem ok_way_from (F : FnAt K mg "way_from" stway_from) (D_joined : Def P w K mg base CX0 2 "joined" ["plan", "name", "way"] (spJoined C)) (D_turned_back : Def P w K mg base CX0 3 "turned_back" ["plan", "name"] (spBack C)) : Def P w K mg base CX0 4 "way_from" ["plan", "name", "goal"] (spWayFrom C) := by
  refine F.ok scway_from (fun _ _ _ _ _ _ us hl => match us, hl with | [_, _, _], _ => rfl) (fun vs H Q E h => ?_) (fun f cdv A outer s H vs Q E hr h => ?_)
  · obtain ⟨x, ks, ps, name, goal, rfl, _⟩ := h
    rfl
  obtain ⟨x, ks, ps, name, goal, rfl, h1, hk, hg, hl, hm, q⟩ := h
  have hu := hu_of hr
  have nd := scway_from.nd
  replace D_joined := D_joined.mono (show 2 ≤ 3 by decide)
  refine ⟨_, (pss_one (ps_ret (pe_cd D_joined hr pass0 (pa_cons (pv 0) (pa_cons (pe_cd D_turned_back hr pass0 (pa_cons (pv 0) (pa_cons (pv 1) pa_nil))) (pa_cons (pv 2) pa_nil)))))), ?_⟩
  refine s_start [some _, some _, some _] rfl ?_
  walk_at "go"
  refine ⟨x, ks, ps, name, rfl, h1, hk, hl, ?_⟩
  walk_at "go"
  refine ⟨x, ks, ps, _, goal, rfl, h1, hg, ?_, q⟩
  have := backOf_len ks ps name
  omega
end
end
section
open PySem PySem.Spec L2
section
variable {P : Program} {w : World} {K : PySem.W.Frag} {mg : Str → Option Value} {base : Heap} {C R O : Addr}
abbrev stRoom_way_to : Stmt := (inClass (top 31) 5)
abbrev NRoom_way_to : List Str := ["self", "other"]
theorem scRoom_way_to : FnScope NRoom_way_to ["self", "other"] (defScope stRoom_way_to) := ⟨rfl, rfl, rfl, by decide +kernel, rfl, by decide +kernel, by decide +kernel⟩

theorem ok_Room_way_to (F : MAt K R "way_to" "Room.way_to" stRoom_way_to) (T : TxtR K mg C R O) (D_need_same : Def P w K mg base (L2.CX P w) 3 "need_same" ["plan", "other"] (spNeedSame C O)) (D_way_from : Def P w K mg base CX0 4 "way_from" ["plan", "name", "goal"] (spWayFrom C)) : MDef P w K mg base (L2.CX P w) 5 R "way_to" ["self", "other"] (spWayTo C R O) := by
  refine F.okX scRoom_way_to (fun _ _ _ _ _ _ us hl => match us, hl with | [_, _], _ => rfl) (fun vs H Q E h => ?_) (fun f cdv A outer s H vs Q E hr h => ?_)
  · obtain ⟨r, x, a, r', y, b, e, ks, ps, rfl, _⟩ := h
    rfl
  obtain ⟨r, x, a, r', y, b, e, ks, ps, rfl, h, hp, ha, hb, q1, q2⟩ := h
  have hu := hu_of hr
  have nd := scRoom_way_to.nd
  have la := h.la
  have lb := h.lb
  replace D_need_same := D_need_same.mono (show 3 ≤ 4 by decide)
  refine ⟨_, (pss_cons (ps_expr (pe_cd D_need_same hr (passes_call (takes_of rfl rfl rfl rfl) (fun _ _ _ _ h => h)) (pa_cons (pe_flK (K := K) rfl (pv 0) rfl) (pa_cons (pe_flK (K := K) rfl (pv 1) rfl) pa_nil))))
      (pss_one (ps_ret (pe_cd D_way_from hr pass0 (pa_cons (pe_flK (K := K) rfl (pv 0) rfl) (pa_cons (pe_flK (K := K) rfl (pv 0) rfl) (pa_cons (pe_flK (K := K) rfl (pv 1) rfl) pa_nil))))))), ?_⟩
  refine s_start [some _, some _] rfl ?_
  obtain ⟨dr, a1⟩ := h.one.ex
  obtain ⟨dr', b1⟩ := h.two.ex
  walk_at "go"
  refine v_fld a1 T.Room.cl T.nPl roomF_p ?_
  walk_at "go"
  refine v_fld b1 T.Room.cl T.nPl roomF_p ?_
  walk_at "go"
  refine ⟨x, y, e, rfl, h.pl, fun ht => ?_, fun hf => q2 hf⟩
  walk_at "go"
  refine v_fld a1 T.Room.cl T.nPl roomF_p ?_
  walk_at "go"
  refine v_fld a1 T.Room.cl T.nNm roomF_n ?_
  walk_at "go"
  refine v_fld b1 T.Room.cl T.nNm roomF_n ?_
  walk_at "go"
  refine ⟨x, ks, ps, a, b, rfl, hp, ha, hb ht, by omega, by omega, q1 ht⟩
end
end
section
open PySem PySem.Spec L2
def spFree (C : Addr) : Sp := fun vs H Q _ => ∃ (x : Addr) (ks : List Nat) (ps : List (List Nat)) (free : List Nat) (k : Nat), vs = [.ref x, .str (tx free), .str (tx [k])] ∧ PlanAt C H x ks ps ∧ k ∈ ks ∧ free.length ≤ 1000 ∧ ∀ H', Same H H' → Q (.str (tx (free.filter fun o => decide (o ∈ crossOf ks ps k)))) H'
/-- the kinds in front of a way -/
def firstsOf (ks : List Nat) (ps : List (List Nat)) (way : List Nat) : List Nat := ks.filter fun s => decide (s ∈ founds (crossOf ks ps) ks way)
theorem filt_len {p : Nat → Bool} {l : List Nat} : (l.filter p).length ≤ l.length := List.length_filter_le p l
section
variable {P : Program} {w : World} {K : PySem.W.Frag} {mg : Str → Option Value} {base : Heap} {C R O : Addr}
abbrev ststill_free : Stmt := (top 16)
abbrev Nstill_free : List Str := ["plan", "kinds", "kind", "other"]
theorem scstill_free : FnScope Nstill_free ["plan", "kinds", "kind"] (defScope ststill_free) := ⟨rfl, rfl, rfl, by decide +kernel, rfl, by decide +kernel, by decide +kernel⟩

theorem ok_still_free (F : FnAt K mg "still_free" ststill_free) (T : TxtP K mg C) : Def P w K mg base CX0 1 "still_free" ["plan", "kinds", "kind"] (spFree C) := by
  refine F.ok scstill_free (fun _ _ _ _ _ _ us hl => match us, hl with | [_, _, _], _ => rfl) (fun vs H Q E h => ?_) (fun f cdv A outer s H vs Q E hr h => ?_)
  · obtain ⟨x, ks, ps, free, k, rfl, _⟩ := h
    rfl
  obtain ⟨x, ks, ps, free, k, rfl, h1, hk, hl, q⟩ := h
  have hu := hu_of hr
  have nd := scstill_free.nd
  refine ⟨_, (pss_one (ps_ret (pe_joinK (K := K) rfl (pe_tx [] (by decide +kernel)) (pe_lc (own := [("other", 3)]) (g := gName 3) (by rfl) nd (pi_str (pv 1)) (blkOk_by (own := [("other", 3)]) (N := Nstill_free) (sc := defScope ststill_free) (by decide +kernel)) (fun _ _ _ _ _ => (pg_name (i := 3) nd rfl (Or.inl rfl))) (fun _ _ _ _ _ => (pts_one (pt_cmpR op_inS (pv 3) (pe_dget hu (pe_flK (K := K) rfl (pv 0) rfl) (pv 2) (fun _ _ => rfl)) (by rfl)))) (fun _ _ _ _ _ => (pv 3)))))), ?_⟩
  refine s_start [some _, some _, some _, none] rfl ?_
  obtain ⟨dx, t, d, a1, a2, a3⟩ := h1.ex
  walk_at "go"
  refine v_lcS (l := free) (b := fun c => decide (c ∈ crossOf ks ps k)) (f := fun c => V.str (tx [c])) (by omega) (fun c _ H1 s1 R r => ?_) (fun c _ _ H1 s1 R r => ?_) (fun D H1 hD s1 e1 => ?_)
  · walk_at "go"
    refine v_fld (s1 _ _ a1) T.Plan.cl T.nO planF_o ?_
    walk_at "go"
    refine v_dget (dget_let (g := fun k => V.str (tx (crossOf ks ps k))) (s1 _ _ a3) hk) ?_
    walk_at "go"
    exact r H1 (Same.refl _)
  · walk_at "go"
    exact r H1 (Same.refl _)
  walk_at "go"
  rw [strs_ones] at e1
  have hl2 := filt_len (p := fun c => decide (c ∈ crossOf ks ps k)) (l := free)
  refine v_join e1 (by rw [flat_ones]; omega) ?_
  rw [flat_ones]
  exact q H1 s1
end
/-! ### of a drawn floor -/
section
variable {K : PySem.W.Frag} {H : Hp} {Q : VK} {C R O r r' x : Addr} {ls : List Nat} {fn : Nat → List Nat} {a b : List Nat} {E : XK}
theorem asc_self (fl : Fl ls fn) : ascOf ls = ls := by
  have h1 : (ascOf ls).Perm ls := by
    refine (List.perm_ext_iff_of_nodup (ascOf_nodup ls) fl.tab.nd).mpr fun c => ?_
    rw [ascOf_mem]
    exact ⟨fun z => z.2, fun z => ⟨fl.tab.lt c z, z⟩⟩
  have s1 : (ascOf ls).Pairwise (· < ·) := List.Pairwise.filter _ (by decide +kernel : LET.Pairwise (· < ·))
  exact h1.eq_of_pairwise (fun a b _ _ h1 h2 => by omega) s1 fl.asc
end
end
section
open PySem PySem.Spec L2
def spSplit (C : Addr) : Sp := fun vs H Q _ => ∃ (x : Addr) (ks : List Nat) (ps : List (List Nat)) (way kinds : List Nat), vs = [.ref x, .str (tx way), .str (tx kinds)] ∧ PlanAt C H x ks ps ∧ (∀ c ∈ way, c ∈ ks) ∧ kinds.length ≤ 1000 ∧ way.length ≤ 100000 ∧
  ∀ p H', H p = none → Same H H' → H' p = some (.tup [.str (tx (splitA (crossOf ks ps) kinds way).1), .str (tx (splitA (crossOf ks ps) kinds way).2)]) → Q (.ref p) H'
def spNoEnd (C : Addr) : Sp := fun vs H Q _ => ∃ (x : Addr) (ks : List Nat) (ps : List (List Nat)) (way kinds : List Nat), vs = [.ref x, .str (tx way), .str (tx kinds)] ∧ PlanAt C H x ks ps ∧ (∀ c ∈ way, c ∈ ks) ∧ kinds.length ≤ 1000 ∧ way.length ≤ 100000 ∧
  ∀ H', Same H H' → Q (.str (tx (splitA (crossOf ks ps) kinds way.reverse).2.reverse)) H'
def nearOf (ks : List Nat) (ps : List (List Nat)) (name : List Nat) (k : Nat) : List Nat := if k ∈ firstsOf ks ps name.reverse then stepOf (crossOf ks ps k) name k else name
def startOf (ks : List Nat) (ps : List (List Nat)) (name : List Nat) (k : Nat) : List Nat := (splitA (crossOf ks ps) (crossOf ks ps k) (nearOf ks ps name k).reverse).2.reverse
theorem splitA_yes {f : Nat → List Nat} {k : Nat} {free r : List Nat} (h : k ∈ free) : splitA f free (k :: r) = (k :: (splitA f free r).1, (splitA f free r).2) := by
  conv => lhs; unfold splitA
  exact if_pos h
theorem splitA_no {f : Nat → List Nat} {k : Nat} {free r : List Nat} (h : ¬ k ∈ free) : splitA f free (k :: r) = ((splitA f (free.filter fun o => decide (o ∈ f k)) r).1, k :: (splitA f (free.filter fun o => decide (o ∈ f k)) r).2) := by
  conv => lhs; unfold splitA
  exact if_neg h
/-! ### walls -/
def wallF (x : Addr) (k : Nat) (r : Addr) : List (Str × V) := putF "room" (.ref r) (putF "kind" (.str (tx [k])) (putF "plan" (.ref x) []))
/-- a wall stands at a; its room, which has the name m, at r -/
structure WallAt (W R : Addr) (H : Hp) (a r x : Addr) (k : Nat) (m : List Nat) : Prop where
  ex : ∃ dx, H a = some (.ins W dx (wallF x k r))
  ro : RoomAt R H r x m
theorem WallAt.same {W R : Addr} {H H' : Hp} {a r x : Addr} {k : Nat} {m : List Nat} (h : WallAt W R H a r x k m) (s : Same H H') : WallAt W R H' a r x k m := by
  obtain ⟨⟨dx, e⟩, ro⟩ := h
  exact ⟨⟨dx, s _ _ e⟩, ro.same s⟩
structure TxtW (K : PySem.W.Frag) (mg : Str → Option Value) (C R O W : Addr) : Prop extends TxtR K mg C R O where
  Wall : ClsF K mg "Wall" W
  nWp : NoAttr K W "plan"
  nWk : NoAttr K W "kind"
  nWr : NoAttr K W "room"
section
variable {P : Program} {w : World} {K : PySem.W.Frag} {mg : Str → Option Value} {base : Heap} {C R O W : Addr}
abbrev stsplit_ahead : Stmt := (top 17)
abbrev Nsplit_ahead : List Str := ["plan", "way", "kinds", "begun", "rest", "free", "at", "kind"]
theorem scsplit_ahead : FnScope Nsplit_ahead ["plan", "way", "kinds"] (defScope stsplit_ahead) := ⟨rfl, rfl, rfl, by decide +kernel, rfl, by decide +kernel, by decide +kernel⟩

theorem ok_split_ahead (F : FnAt K mg "split_ahead" stsplit_ahead) (T : TxtR K mg C R O) (D_still_free : Def P w K mg base CX0 1 "still_free" ["plan", "kinds", "kind"] (spFree C)) : Def P w K mg base CX0 2 "split_ahead" ["plan", "way", "kinds"] (spSplit C) := by
  refine F.ok scsplit_ahead (fun _ _ _ _ _ _ us hl => match us, hl with | [_, _, _], _ => rfl) (fun vs H Q E h => ?_) (fun f cdv A outer s H vs Q E hr h => ?_)
  · obtain ⟨x, ks, ps, way, kinds, rfl, _⟩ := h
    rfl
  obtain ⟨x, ks, ps, way, kinds, rfl, h1, hw, hk, hl, q⟩ := h
  have hu := hu_of hr
  have nd := scsplit_ahead.nd
  refine ⟨_, (pss_cons (ps_set (i := 3) nd rfl (Or.inl rfl) (pe_tx [] (by decide +kernel)))
      (pss_cons (ps_set (i := 4) nd rfl (Or.inl rfl) (pe_tx [] (by decide +kernel)))
      (pss_cons (ps_set (i := 5) nd rfl (Or.inl rfl) (pv 2))
      (pss_cons (ps_for PassesOwn.never rfl (pi_enumS (by rfl) T.enumerate (pa_cons (pv 1) pa_nil)) (pg_tup rfl (pgs_cons (pg_name (i := 6) nd rfl (Or.inl rfl)) (pgs_cons (pg_name (i := 7) nd rfl (Or.inl rfl)) pgs_nil)))
      (pss_cons (ps_if (pt_cmpR op_eq (pv 5) (pe_tx [] (by decide +kernel)) (nomark _))
        (pss_one (ps_ret (pe_tup (pa_cons (pv 3) (pa_cons (pe_op op_addS (pv 4) (pe_slice sl_S (pv 1) (po_some (pv 6)) po_none)) pa_nil)))))
        pss_nil)
        (pss_one (ps_if (pt_cmpR op_inS (pv 7) (pv 5) (by rfl))
        (pss_one (ps_set (i := 3) nd rfl (Or.inl rfl) (pe_op op_addS (pv 3) (pv 7))))
        (pss_cons (ps_set (i := 4) nd rfl (Or.inl rfl) (pe_op op_addS (pv 4) (pv 7)))
          (pss_one (ps_set (i := 5) nd rfl (Or.inl rfl) (pe_cd D_still_free hr pass0 (pa_cons (pv 0) (pa_cons (pv 5) (pa_cons (pv 7) pa_nil)))))))))))
      (pss_one (ps_ret (pe_tup (pa_cons (pv 3) (pa_cons (pv 4) pa_nil))))))))), ?_⟩
  refine s_start [some _, some _, some _, none, none, none, none, none] rfl ?_
  have sl := splitA_len (crossOf ks ps) way kinds
  walk_at "go"
  refine for_it (walk_enumS way) (fun i σ H' => ∃ bg rs free y z, σ = [some (.ref x), some (.str (tx way)), some (.str (tx kinds)), some (.str (tx bg)), some (.str (tx rs)), some (.str (tx free)), y, z] ∧ Same H H' ∧ free.length ≤ 1000 ∧ splitA (crossOf ks ps) kinds way = (bg ++ (splitA (crossOf ks ps) free (way.drop i)).1, rs ++ (splitA (crossOf ks ps) free (way.drop i)).2)) ⟨[], [], kinds, _, _, rfl, Same.refl _, hk, rfl⟩ (fun _ _ _ _ _ => trivial) ?_ ?_
  · rintro i v σ H2 H3 hi ⟨bg, rs, free, y, z, rfl, s2, lf, e2⟩ ⟨t, c, rfl, ht, rfl, hc⟩
    have s3 : Same H (upd H2 t (.tup [.int (i : Nat), .str (tx [c])])) := s2.trans (Same.new ht)
    refine v_gTup2 rfl upd_same ?_
    generalize upd H2 t (.tup [.int (i : Nat), .str (tx [c])]) = H4 at s3 ⊢
    have l1 : bg.length + rs.length ≤ 100000 := by
      have a1 := congrArg (fun p => p.1.length) e2
      have a2 := congrArg (fun p => p.2.length) e2
      simp only [List.length_append] at a1 a2
      omega
    have hd : way.drop i = c :: way.drop (i + 1) := by
      rw [List.drop_eq_getElem_cons hi]
      congr 1
      rw [List.getElem?_eq_getElem hi] at hc
      injection hc
    walk_at "go"
    rw [dec_tx]
    refine if_dec (fun c1 => ?_) (fun c1 => ?_)
    · subst c1
      rw [splitA_nil, List.append_nil] at e2
      walk_at "go"
      refine v_slFrom (by omega) (by omega) ?_
      have e3 : way.drop ((i : Nat) : Int).toNat = way.drop i := rfl
      rw [e3]
      have l2 : rs.length + (way.drop i).length ≤ 1000000 := by rw [List.length_drop]; omega
      walk_at "go"
      intro p H5 hp s5 e5
      refine q p H5 ?_ (s3.trans s5) ?_
      · exact L2.Same.free s3 hp
      · rw [e2]
        exact e5
    walk_at "go"
    refine if_dec (fun c2 => ?_) (fun c2 => ?_)
    · have l3 : bg.length + [c].length ≤ 1000000 := by rw [List.length_singleton]; omega
      walk_at "go"
      refine ⟨bg ++ [c], rs, free, _, _, rfl, s3, lf, ?_⟩
      rw [e2, hd, splitA_yes c2, List.append_assoc]
      rfl
    · have l3 : rs.length + [c].length ≤ 1000000 := by rw [List.length_singleton]; omega
      walk_at "go"
      have hc2 : c ∈ ks := hw c (List.mem_of_getElem? hc)
      refine ⟨x, ks, ps, free, c, rfl, h1.same s3, hc2, lf, fun H5 s5 => ?_⟩
      have lf2 := filt_len (p := fun o => decide (o ∈ crossOf ks ps c)) (l := free)
      refine ⟨bg, rs ++ [c], _, _, _, rfl, s3.trans s5, by omega, ?_⟩
      rw [e2, hd, splitA_no c2, List.append_assoc]
      rfl
  · rintro σ H2 ⟨bg, rs, free, y, z, rfl, s2, lf, e2⟩
    rw [List.drop_length] at e2
    have e2 : splitA (crossOf ks ps) kinds way = (bg, rs) := by
      rw [e2]
      show (bg ++ [], rs ++ []) = _
      rw [List.append_nil, List.append_nil]
    walk_at "go"
    intro p H5 hp s5 e5
    refine q p H5 ?_ (s2.trans s5) ?_
    · exact L2.Same.free s2 hp
    · rw [e2]
      exact e5
abbrev stwithout_end : Stmt := (top 18)
abbrev Nwithout_end : List Str := ["plan", "way", "kinds", "begun", "rest"]
theorem scwithout_end : FnScope Nwithout_end ["plan", "way", "kinds"] (defScope stwithout_end) := ⟨rfl, rfl, rfl, by decide +kernel, rfl, by decide +kernel, by decide +kernel⟩

theorem ok_without_end (F : FnAt K mg "without_end" stwithout_end) (D_split_ahead : Def P w K mg base CX0 2 "split_ahead" ["plan", "way", "kinds"] (spSplit C)) : Def P w K mg base CX0 3 "without_end" ["plan", "way", "kinds"] (spNoEnd C) := by
  refine F.ok scwithout_end (fun _ _ _ _ _ _ us hl => match us, hl with | [_, _, _], _ => rfl) (fun vs H Q E h => ?_) (fun f cdv A outer s H vs Q E hr h => ?_)
  · obtain ⟨x, ks, ps, way, kinds, rfl, _⟩ := h
    rfl
  obtain ⟨x, ks, ps, way, kinds, rfl, h1, hw, hk, hl, q⟩ := h
  have hu := hu_of hr
  have nd := scwithout_end.nd
  refine ⟨_, (pss_cons (ps_asg (pe_cd D_split_ahead hr pass0 (pa_cons (pv 0) (pa_cons (pe_revS (pv 1)) (pa_cons (pv 2) pa_nil)))) (pg_tup rfl (pgs_cons (pg_name (i := 3) nd rfl (Or.inl rfl)) (pgs_cons (pg_name (i := 4) nd rfl (Or.inl rfl)) pgs_nil))))
      (pss_one (ps_ret (pe_revS (pv 4))))), ?_⟩
  refine s_start [some _, some _, some _, none, none] rfl ?_
  have sl := splitA_len (crossOf ks ps) way.reverse kinds
  rw [List.length_reverse] at sl
  walk_at "go"
  refine ⟨x, ks, ps, way.reverse, kinds, rfl, h1, fun c hc => hw c (List.mem_reverse.mp hc), hk, by rw [List.length_reverse]; exact hl, fun p H2 hp s2 e2 => ?_⟩
  refine v_gTup2 rfl e2 ?_
  have l3 : (splitA (crossOf ks ps) kinds way.reverse).2.length ≤ 1000000 := by omega
  walk_at "go"
  exact q H2 s2
end
/-! ### of a drawn floor -/
section
variable {K : PySem.W.Frag} {H : Hp} {Q : VK} {C R W r x : Addr} {ls : List Nat} {fn : Nat → List Nat} {a : List Nat} {k : Nat} {E : XK}
end
end
section
open PySem PySem.Spec L2
def kindsIn (ks kinds : List Nat) : List Nat := ks.filter fun k => decide (k ∈ kinds)
def spNeedKinds (C : Addr) : Sp := fun vs H Q _ => ∃ (x : Addr) (ks : List Nat) (ps : List (List Nat)) (kinds : List Nat), vs = [.ref x, .str (tx kinds)] ∧ PlanAt C H x ks ps ∧ (∀ c ∈ kinds, c ∈ ks) ∧ kinds.Nodup ∧ kinds.length ≤ 1000 ∧ ks.length ≤ 1000 ∧ ∀ H', Same H H' → Q (.str (tx (kindsIn ks kinds))) H'
def allCross (ks : List Nat) (ps : List (List Nat)) (a b : List Nat) : Bool := a.all fun i => b.all fun j => decide (i = j ∨ j ∈ crossOf ks ps i)
def spAllCross (C : Addr) : Sp := fun vs H Q _ => ∃ (x : Addr) (ks : List Nat) (ps : List (List Nat)) (a b : List Nat), vs = [.ref x, .str (tx a), .str (tx b)] ∧ PlanAt C H x ks ps ∧ (∀ c ∈ a, c ∈ ks) ∧ a.length ≤ 900 ∧ b.length ≤ 900 ∧ ∀ H', Same H H' → Q (.bl (allCross ks ps a b)) H'
theorem flatMap_congr16 {α β : Type} {l : List α} {f g : α → List β} (h : ∀ a ∈ l, f a = g a) : l.flatMap f = l.flatMap g := by
  induction l with
  | nil => rfl
  | cons a r ih => rw [List.flatMap_cons, List.flatMap_cons, h a (.head _), ih fun b hb => h b (.tail _ hb)]
theorem lc2_out16 {te0 t1 te : TE} {tt tt1 : TT} {g g1 : TG} {vs vs1 : List Nat} {σ : L2.St} {H : Hp} {Q : VK} {la : List Nat} (h : ∀ R : VK, R (.str (tx la)) H → te0 σ H R) (q : tLc2 (iStr (tC (.str (tx la)))) g tt (iStr t1) g1 tt1 te vs vs1 σ H Q) : tLc2 (iStr te0) g tt (iStr t1) g1 tt1 te vs vs1 σ H Q := h _ q
section
variable {P : Program} {w : World} {K : PySem.W.Frag} {mg : Str → Option Value} {base : Heap} {C R O : Addr}
abbrev stneed_kinds : Stmt := (top 33)
abbrev Nneed_kinds : List Str := ["plan", "kinds", "index", "letter", "kind"]
theorem scneed_kinds : FnScope Nneed_kinds ["plan", "kinds"] (defScope stneed_kinds) := ⟨rfl, rfl, rfl, by decide +kernel, rfl, by decide +kernel, by decide +kernel⟩

theorem ok_need_kinds (F : FnAt K mg "need_kinds" stneed_kinds) (T : TxtR K mg C R O) (D_is_kind : Def P w K mg base CX0 1 "is_kind" ["plan", "value"] (spIsKind C)) : Def P w K mg base CX0 2 "need_kinds" ["plan", "kinds"] (spNeedKinds C) := by
  refine F.ok scneed_kinds (fun _ _ _ _ _ _ us hl => match us, hl with | [_, _], _ => rfl) (fun vs H Q E h => ?_) (fun f cdv A outer s H vs Q E hr h => ?_)
  · obtain ⟨x, ks, ps, kinds, rfl, _⟩ := h
    rfl
  obtain ⟨x, ks, ps, kinds, rfl, h1, hk, hn, hl, hl', q⟩ := h
  have hu := hu_of hr
  have nd := scneed_kinds.nd
  refine ⟨_, (pss_cons (ps_if (pt_not (pt_val (pe_callB (c_isiK (K := K) rfl) (by rfl) T.isinstance (by decide +kernel) (pa_cons (pv 1) (pa_cons (pe_bltn (v := .ty "str") (u := .type "str") (by rfl) T.str (by decide +kernel) rfl) pa_nil)))))
      (pss_one ps_never)
      pss_nil)
      (pss_cons (ps_for PassesOwn.never rfl (pi_enumS (by rfl) T.enumerate (pa_cons (pv 1) pa_nil)) (pg_tup rfl (pgs_cons (pg_name (i := 2) nd rfl (Or.inl rfl)) (pgs_cons (pg_name (i := 3) nd rfl (Or.inl rfl)) pgs_nil)))
      (pss_cons (ps_if (pt_not (pt_val (pe_cd D_is_kind hr pass0 (pa_cons (pv 0) (pa_cons (pv 3) pa_nil)))))
        (pss_one ps_never)
        pss_nil)
        (pss_one (ps_if (pt_cmpR op_inS (pv 3) (pe_slice sl_S (pv 1) po_none (po_some (pv 2))) (by rfl))
        (pss_one ps_never)
        pss_nil))))
      (pss_one (ps_ret (pe_joinK (K := K) rfl (pe_tx [] (by decide +kernel)) (pe_lc (own := [("kind", 4)]) (g := gName 4) (by rfl) nd (pi_str (pe_flK (K := K) rfl (pv 0) rfl)) (blkOk_by (own := [("kind", 4)]) (N := Nneed_kinds) (sc := defScope stneed_kinds) (by decide +kernel)) (fun _ _ _ _ _ => (pg_name (i := 4) nd rfl (Or.inl rfl))) (fun _ _ _ _ _ => (pts_one (pt_cmpR op_inS (pv 4) (pv 1) (by rfl)))) (fun _ _ _ _ _ => (pv 4)))))))), ?_⟩
  refine s_start [some _, some _, none, none, none] rfl ?_
  walk_at "go"
  refine for_it (walk_enumS kinds) (fun i σ H' => ∃ y z, σ = [some (.ref x), some (.str (tx kinds)), y, z, none] ∧ Same H H') ⟨_, _, rfl, Same.refl _⟩ (fun _ _ _ _ _ => trivial) ?_ ?_
  · rintro i v σ H2 H3 hi ⟨y, z, rfl, s2⟩ ⟨t, c, rfl, ht, rfl, hc⟩
    have s3 : Same H (upd H2 t (.tup [.int (i : Nat), .str (tx [c])])) := s2.trans (Same.new ht)
    refine v_gTup2 rfl upd_same ?_
    walk_at "go"
    refine ⟨x, ks, ps, c, rfl, h1.same s3, hk c (List.mem_of_getElem? hc), ?_⟩
    walk_at "go"
    refine v_slTo (by omega) (by omega) ?_
    walk_at "go"
    have hi' : i < kinds.length := (List.getElem?_eq_some_iff.mp hc).1
    have n1 : c ∉ kinds.take ((i : Nat) : Int).toNat := fun z => by
      rw [Int.toNat_natCast] at z
      obtain ⟨j, hj, e⟩ := List.getElem_of_mem z
      rw [List.length_take] at hj
      rw [List.getElem_take] at e
      have e2 := (List.getElem?_eq_some_iff.mp hc).2
      have e3 := (List.getElem_inj hn).mp (e.trans e2.symm)
      omega
    refine if_dec (fun z => (n1 z).elim) (fun _ => ?_)
    walk_at "go"
    exact ⟨_, _, rfl, s3⟩
  · rintro σ H2 ⟨y, z, rfl, s2⟩
    obtain ⟨dx, t', d, a1, a2, a3⟩ := h1.ex
    walk_at "go"
    refine v_fld (s2 _ _ a1) T.Plan.cl T.nK planF_k ?_
    walk_at "go"
    refine v_lcS (l := ks) (b := fun c => decide (c ∈ kinds)) (f := fun c => V.str (tx [c])) (by omega) (fun c _ H1 s1 R r => ?_) (fun c _ _ H1 s1 R r => ?_) (fun D H1 hD s1 e1 => ?_)
    · walk_at "go"
      exact r H1 (Same.refl _)
    · walk_at "go"
      exact r H1 (Same.refl _)
    walk_at "go"
    rw [strs_ones] at e1
    have hl2 := filt_len (p := fun c => decide (c ∈ kinds)) (l := ks)
    refine v_join e1 (by rw [flat_ones]; omega) ?_
    rw [flat_ones]
    exact q H1 (s2.trans s1)
abbrev stall_cross : Stmt := (top 34)
abbrev Nall_cross : List Str := ["plan", "kinds", "others", "one", "two"]
theorem scall_cross : FnScope Nall_cross ["plan", "kinds", "others"] (defScope stall_cross) := ⟨rfl, rfl, rfl, by decide +kernel, rfl, by decide +kernel, by decide +kernel⟩

theorem ok_all_cross (F : FnAt K mg "all_cross" stall_cross) (T : TxtR K mg C R O) : Def P w K mg base CX0 1 "all_cross" ["plan", "kinds", "others"] (spAllCross C) := by
  refine F.ok scall_cross (fun _ _ _ _ _ _ us hl => match us, hl with | [_, _, _], _ => rfl) (fun vs H Q E h => ?_) (fun f cdv A outer s H vs Q E hr h => ?_)
  · obtain ⟨x, ks, ps, a, b, rfl, _⟩ := h
    rfl
  obtain ⟨x, ks, ps, a, b, rfl, h1, hk, l1, l2, q⟩ := h
  have hu := hu_of hr
  have nd := scall_cross.nd
  refine ⟨_, (pss_one (ps_ret (pe_callB (c_allK (K := K) rfl rfl) (by rfl) T.all (by decide +kernel) (pa_cons (pe_lc2 (own := [("one", 3), ("two", 4)]) (vs1 := [4]) (by rfl) nd (pi_str (pv 1)) (blkOk_by (own := [("one", 3), ("two", 4)]) (N := Nall_cross) (sc := defScope stall_cross) (by decide +kernel)) (by decide) (fun _ _ _ _ _ => (pg_name (i := 3) nd rfl (Or.inl rfl))) (fun _ _ _ _ _ => pts_nil) (fun _ _ _ _ _ => (pi_str (pv 2))) (fun _ _ _ _ _ => (pg_name (i := 4) nd rfl (Or.inl rfl))) (fun _ _ _ _ _ => pts_nil) (fun _ _ _ _ _ => (pe_or (pe_cmpR op_eq (pv 3) (pv 4) (nomark _)) (pe_one (pe_cmpR op_inS (pv 4) (pe_dget hu (pe_flK (K := K) rfl (pv 0) rfl) (pv 3) (fun _ _ => rfl)) (by rfl)))))) pa_nil)))), ?_⟩
  refine s_start [some _, some _, some _, none, none] rfl ?_
  obtain ⟨dx, t, d, a1, a2, a3⟩ := h1.ex
  walk_at "go"
  refine lc2_out16 (la := a) (fun R r => ?_) ?_
  · walk_at "go"
    exact r
  refine v_lc2S (la := a) (lb := b) (b := fun _ _ => true) (f := fun p q => V.bl (decide (p = q ∨ q ∈ crossOf ks ps p))) (by decide) (Nat.lt_of_le_of_lt (Nat.mul_le_mul l1 l2) (by decide)) (fun c _ Ha sa R r => ?_) (fun c d _ _ Ha sa R r => ?_) (fun c d hc hd _ Ha sa R r => ?_) (fun D H2 hD s2 e2 => ?_)
  · walk_at "go"
    exact r
  · walk_at "go"
    exact r Ha (Same.refl _)
  · walk_at "go"
    refine if_dec (fun e => ?_) (fun e => ?_)
    · have e' : c = d := by
        have z : tx [c] = tx [d] := by injection e
        simpa using tx_inj.mp z
      have r' := r Ha (Same.refl _)
      rw [decide_eq_true (Or.inl e')] at r'
      exact r'
    · have e' : ¬ c = d := fun z => e (by rw [z])
      walk_at "go"
      refine v_fld (sa _ _ a1) T.Plan.cl T.nO planF_o ?_
      walk_at "go"
      refine v_dget (dget_let (g := fun k => V.str (tx (crossOf ks ps k))) (sa _ _ a3) (hk c hc)) ?_
      walk_at "go"
      have e2 : decide (d ∈ crossOf ks ps c) = decide (c = d ∨ d ∈ crossOf ks ps c) := decide_eq_decide.mpr (by simp [e'])
      rw [e2]
      exact r Ha (Same.refl _)
  have e2 : H2 D = some (.lst ((a.flatMap fun p => b.map fun q => decide (p = q ∨ q ∈ crossOf ks ps p)).map V.bl)) := by
    rw [e2, List.map_flatMap]
    congr 2
    refine flatMap_congr16 fun c _ => ?_
    rw [filter_yes, List.map_map]
    rfl
  have all0 : (a.flatMap fun p => b.map fun q => decide (p = q ∨ q ∈ crossOf ks ps p)).all id = allCross ks ps a b := by
    rw [Bool.eq_iff_iff, List.all_eq_true]
    unfold allCross
    rw [List.all_eq_true]
    constructor
    · intro z p hp
      rw [List.all_eq_true]
      exact fun q hq => z _ (List.mem_flatMap.mpr ⟨p, hp, List.mem_map.mpr ⟨q, hq, rfl⟩⟩)
    · intro z y hy
      obtain ⟨p, hp, hy⟩ := List.mem_flatMap.mp hy
      obtain ⟨q, hq, rfl⟩ := List.mem_map.mp hy
      exact List.all_eq_true.mp (z p hp) q hq
  walk_at "go"
  refine v_all e2 ?_
  rw [all0]
  exact q H2 s2
end
end
section
open PySem PySem.Spec L2
/-! ### blocks -/
def blockF (x : Addr) (kinds : List Nat) (r : Addr) (v : V) : List (Str × V) := putF "many" v (putF "room" (.ref r) (putF "kinds" (.str (tx kinds)) (putF "plan" (.ref x) [])))
theorem nbpk : ¬ (("plan" : Str) = "kinds") := by decide +kernel
theorem nbpr : ¬ (("plan" : Str) = "room") := by decide +kernel
theorem nbpm : ¬ (("plan" : Str) = "many") := by decide +kernel
theorem nbkr : ¬ (("kinds" : Str) = "room") := by decide +kernel
theorem nbkm : ¬ (("kinds" : Str) = "many") := by decide +kernel
theorem nbrm : ¬ (("room" : Str) = "many") := by decide +kernel
theorem blockF_p {x r : Addr} {kinds : List Nat} {v : V} : (blockF x kinds r v).lookup ("plan" : Str) = some (.ref x) := by
  unfold blockF
  rw [lookup_putF, if_neg nbpm, lookup_putF, if_neg nbpr, lookup_putF, if_neg nbpk, lookup_putF, if_pos rfl]
theorem blockF_k {x r : Addr} {kinds : List Nat} {v : V} : (blockF x kinds r v).lookup ("kinds" : Str) = some (.str (tx kinds)) := by
  unfold blockF
  rw [lookup_putF, if_neg nbkm, lookup_putF, if_neg nbkr, lookup_putF, if_pos rfl]
theorem blockF_r {x r : Addr} {kinds : List Nat} {v : V} : (blockF x kinds r v).lookup ("room" : Str) = some (.ref r) := by
  unfold blockF
  rw [lookup_putF, if_neg nbrm, lookup_putF, if_pos rfl]
theorem blockF_m {x r : Addr} {kinds : List Nat} {v : V} : (blockF x kinds r v).lookup ("many" : Str) = some v := by
  unfold blockF
  rw [lookup_putF, if_pos rfl]
/-- how many rooms a block has -/
def manyOf (ks : List Nat) (ps : List (List Nat)) (kinds : List Nat) : V := if allCross ks ps kinds kinds = true then .int (2 ^ kinds.length) else .non
/-- a block stands at a; its first room, which has the name m, at r -/
structure BlockAt (B R : Addr) (H : Hp) (a r x : Addr) (kinds m : List Nat) (v : V) : Prop where
  ex : ∃ dx, H a = some (.ins B dx (blockF x kinds r v))
  ro : RoomAt R H r x m
theorem BlockAt.same {B R : Addr} {H H' : Hp} {a r x : Addr} {kinds m : List Nat} {v : V} (h : BlockAt B R H a r x kinds m v) (s : Same H H') : BlockAt B R H' a r x kinds m v := by
  obtain ⟨⟨dx, e⟩, ro⟩ := h
  exact ⟨⟨dx, s _ _ e⟩, ro.same s⟩
structure TxtB (K : PySem.W.Frag) (mg : Str → Option Value) (C R O B : Addr) : Prop extends TxtR K mg C R O where
  Block : ClsF K mg "Block" B
  nBp : NoAttr K B "plan"
  nBk : NoAttr K B "kinds"
  nBr : NoAttr K B "room"
  nBm : NoAttr K B "many"
/-- the first room of the block at name along kinds -/
def baseOf (ks : List Nat) (ps : List (List Nat)) (name kinds : List Nat) : List Nat := (splitA (crossOf ks ps) kinds name.reverse).2.reverse
def spBlock0 (C R B : Addr) : Sp := fun vs H Q _ => ∃ (a dx r x : Addr) (ks : List Nat) (ps : List (List Nat)) (name kinds : List Nat), vs = [.ref a, .ref r, .str (tx kinds)] ∧ H a = some (.ins B dx []) ∧ RoomAt R H r x name ∧ PlanAt C H x ks ps ∧ (∀ c ∈ name, c ∈ ks) ∧ (∀ c ∈ kinds, c ∈ ks) ∧ kinds.Nodup ∧ kinds.length ≤ 900 ∧ ks.length ≤ 900 ∧ name.length ≤ 2000 ∧
  ∀ r' H', Keep a H H' → BlockAt B R H' a r' x (kindsIn ks kinds) (joinOf ks ps [] (baseOf ks ps name (kindsIn ks kinds))) (manyOf ks ps (kindsIn ks kinds)) → Q .non H'
def spBlock (C R B : Addr) : Sp := fun vs H Q _ => ∃ (r x : Addr) (ks : List Nat) (ps : List (List Nat)) (name kinds : List Nat), vs = [.ref r, .str (tx kinds)] ∧ RoomAt R H r x name ∧ PlanAt C H x ks ps ∧ (∀ c ∈ name, c ∈ ks) ∧ (∀ c ∈ kinds, c ∈ ks) ∧ kinds.Nodup ∧ kinds.length ≤ 900 ∧ ks.length ≤ 900 ∧ name.length ≤ 2000 ∧
  ∀ a r' H', H a = none → Same H H' → BlockAt B R H' a r' x (kindsIn ks kinds) (joinOf ks ps [] (baseOf ks ps name (kindsIn ks kinds))) (manyOf ks ps (kindsIn ks kinds)) → Q (.ref a) H'
theorem conv_block (C R B : Addr) : Conv B (spBlock0 C R B) (spBlock C R B) := by
  rintro vs H Q E ⟨r, x, ks, ps, name, kinds, rfl, hr, hp, h1, h2, h3, h4, h5, h6, q⟩ a dx hx hdx hne
  have s0 : Same H (upd (upd H dx (.own a)) a (.ins B dx [])) := fun b o hb => by
    rw [upd_ne (ne_of_none hb hx), upd_ne (ne_of_none hb hdx)]
    exact hb
  refine ⟨a, dx, r, x, ks, ps, name, kinds, rfl, upd_same, hr.same s0, hp.same s0, h1, h2, h3, h4, h5, h6, fun r' H' s' z => ⟨rfl, q a r' H' hx (fun b o hb => ?_) z⟩⟩
  exact s' b o (s0 _ _ hb) (ne_of_none hb hx)
def spBlockEq (C R B : Addr) : Sp := fun vs H Q _ => ∃ (a r x : Addr) (kinds m : List Nat) (v : V) (b r' y : Addr) (kinds' n : List Nat) (v' : V) (e : Bool), vs = [.ref a, .ref b] ∧ BlockAt B R H a r x kinds m v ∧ BlockAt B R H b r' y kinds' n v' ∧ Rooms2 C R H r x m r' y n e ∧ Q (.bl ((e && decide (m = n)) && decide (kinds = kinds'))) H
section
variable {P : Program} {w : World} {K : PySem.W.Frag} {mg : Str → Option Value} {base : Heap} {C R O B : Addr}
abbrev stBlock_init : Stmt := (inClass (top 35) 0)
abbrev NBlock_init : List Str := ["self", "room", "kinds"]
theorem scBlock_init : FnScope NBlock_init ["self", "room", "kinds"] (defScope stBlock_init) := ⟨rfl, rfl, rfl, by decide +kernel, rfl, by decide +kernel, by decide +kernel⟩

theorem ok_Block (F : MAt K B "__init__" "Block.__init__" stBlock_init) (T : TxtB K mg C R O B) (D_need_kinds : Def P w K mg base CX0 2 "need_kinds" ["plan", "kinds"] (spNeedKinds C)) (D_all_cross : Def P w K mg base CX0 1 "all_cross" ["plan", "kinds", "others"] (spAllCross C)) (D_without_end : Def P w K mg base CX0 3 "without_end" ["plan", "way", "kinds"] (spNoEnd C)) (C_Room : CDef P w K mg base CX0 3 "Room" R (spRoom C R)) :
    CMk0 P w K mg base CX0 5 "Block" B (spBlock C R B) ["self", "room", "kinds"] "Block.__init__" stBlock_init := by
  refine F.make0 (sp0 := spBlock0 C R B) T.Block scBlock_init (fun _ _ _ _ _ _ us hl => match us, hl with | [_, _, _], _ => rfl) (fun vs H Q E h => ?_) (conv_block C R B) (fun f cdv A outer s H vs Q E hr h => ?_)
  · obtain ⟨a, dx, r, x, ks, ps, name, kinds, rfl, _⟩ := h
    rfl
  obtain ⟨a, dx, r, x, ks, ps, name, kinds, rfl, hx, hr', hp, h1, h2, h3, h4, h5, h6, q⟩ := h
  have hu := hu_of hr
  have nd := scBlock_init.nd
  replace D_need_kinds := D_need_kinds.mono (show 2 ≤ 4 by decide)
  replace D_all_cross := D_all_cross.mono (show 1 ≤ 4 by decide)
  replace D_without_end := D_without_end.mono (show 3 ≤ 4 by decide)
  refine ⟨_, (pss_cons (ps_flK (K := K) rfl (pv 0) (pe_flK (K := K) rfl (pv 1) rfl) rfl)
      (pss_cons (ps_flK (K := K) rfl (pv 0) (pe_cd D_need_kinds hr pass0 (pa_cons (pe_flK (K := K) rfl (pv 1) rfl) (pa_cons (pv 2) pa_nil))) rfl)
      (pss_cons (ps_flK (K := K) rfl (pv 0) (pe_mk C_Room hr pass0 (pa_cons (pe_flK (K := K) rfl (pv 1) rfl) (pa_cons (pe_cd D_without_end hr pass0 (pa_cons (pe_flK (K := K) rfl (pv 1) rfl) (pa_cons (pe_flK (K := K) rfl (pv 1) rfl) (pa_cons (pe_flK (K := K) rfl (pv 0) rfl) pa_nil)))) pa_nil))) rfl)
      (pss_one (ps_flK (K := K) rfl (pv 0) (pe_ifExp (pt_val (pe_cd D_all_cross hr pass0 (pa_cons (pe_flK (K := K) rfl (pv 1) rfl) (pa_cons (pe_flK (K := K) rfl (pv 0) rfl) (pa_cons (pe_flK (K := K) rfl (pv 0) rfl) pa_nil))))) (pe_op op_shl pe_int (pe_callB c_lenS (by rfl) T.len PySem.boot_len (pa_cons (pe_flK (K := K) rfl (pv 0) rfl) pa_nil))) pe_non) rfl))))), ?_⟩
  refine s_start [some _, some _, some _] rfl ?_
  obtain ⟨dr, er⟩ := hr'.ex
  have nra : r ≠ a := ne_of er hx (by intro z; injection z with _ _ z; cases z)
  walk_at "go"
  refine v_fld er T.Room.cl T.nPl roomF_p ?_
  walk_at "go"
  refine v_sfld hx T.Block.cl T.nBp (by decide) fun H1 s1 e1 => ?_
  walk_at "go"
  have er1 := s1 _ _ er nra
  have pk : ∀ {H H' : Hp} {fs : List (Str × V)}, Keep a H H' → PlanAt C H x ks ps → H a = some (.ins B dx fs) → x ≠ a → PlanAt C H' x ks ps := by
    intro H H' fs s1 hp hx nx
    obtain ⟨dx', t', d, a1, a2, a3⟩ := hp.ex
    exact ⟨dx', t', d, s1 _ _ a1 nx, s1 _ _ a2 (ne_of a2 hx (by intro z; cases z)), s1 _ _ a3 (ne_of a3 hx (by intro z; cases z))⟩
  have nxa : x ≠ a := by
    obtain ⟨dx', t', d, a1, a2, a3⟩ := hp.ex
    exact ne_of a1 hx (by intro z; injection z with _ _ z; cases z)
  have hp1 := pk s1 hp hx nxa
  refine v_fld er1 T.Room.cl T.nPl roomF_p ?_
  walk_at "go"
  have kl : (kindsIn ks kinds).length ≤ 900 := Nat.le_trans (List.length_filter_le _ _) h5
  refine ⟨x, ks, ps, kinds, rfl, hp1, h2, h3, by omega, by omega, fun H2 s2 => ?_⟩
  have e2 := s2 _ _ e1
  have er2 := s2 _ _ er1
  have hp2 := hp1.same s2
  walk_at "go"
  refine v_sfld e2 T.Block.cl T.nBk (by show 1 < 1000; decide) fun H3 s3 e3 => ?_
  walk_at "go"
  have er3 := s3 _ _ er2 nra
  have hp3 := pk s3 hp2 e2 nxa
  refine v_fld er3 T.Room.cl T.nPl roomF_p ?_
  walk_at "go"
  refine v_fld er3 T.Room.cl T.nPl roomF_p ?_
  walk_at "go"
  refine v_fld er3 T.Room.cl T.nNm roomF_n ?_
  walk_at "go"
  have lk3 : (putF "kinds" (V.str (tx (kindsIn ks kinds))) (putF "plan" (V.ref x) [])).lookup ("kinds" : Str) = some (V.str (tx (kindsIn ks kinds))) := by
    rw [lookup_putF, if_pos rfl]
  refine v_fld e3 T.Block.cl T.nBk lk3 ?_
  walk_at "go"
  refine ⟨x, ks, ps, name, kindsIn ks kinds, rfl, hp3, h1, by omega, by omega, fun H4 s4 => ?_⟩
  walk_at "go"
  have sm : ∀ c ∈ baseOf ks ps name (kindsIn ks kinds), c ∈ ks := fun c hc => h1 c (List.mem_reverse.mp (splitA_mem2 _ _ _ c (List.mem_reverse.mp hc)))
  have sl : (baseOf ks ps name (kindsIn ks kinds)).length ≤ name.length := by
    unfold baseOf
    have z := splitA_len (crossOf ks ps) name.reverse (kindsIn ks kinds)
    rw [List.length_reverse] at *
    omega
  refine ⟨x, ks, ps, _, rfl, hp3.same s4, sm, by show (baseOf _ _ _ _).length ≤ _; omega, fun r' H5 hr5 s5 ro5 => ?_⟩
  have e5 := s5 _ _ (s4 _ _ e3)
  walk_at "go"
  refine v_sfld e5 T.Block.cl T.nBr (by show 2 < 1000; decide) fun H6 s6 e6 => ?_
  obtain ⟨dr5, er5⟩ := ro5.ex
  have nr5 : r' ≠ a := (ne_of_none (s4 _ _ e3) hr5).symm
  have er6 := s6 _ _ (s5 _ _ (s4 _ _ er3)) nra
  have hp6 := pk s6 ((hp3.same s4).same s5) e5 nxa
  have lk6 : (putF "room" (V.ref r') (putF "kinds" (V.str (tx (kindsIn ks kinds))) (putF "plan" (V.ref x) []))).lookup ("kinds" : Str) = some (V.str (tx (kindsIn ks kinds))) := by
    rw [lookup_putF, if_neg nbkr, lookup_putF, if_pos rfl]
  walk_at "go"
  refine v_fld er6 T.Room.cl T.nPl roomF_p ?_
  walk_at "go"
  refine v_fld e6 T.Block.cl T.nBk lk6 ?_
  walk_at "go"
  refine v_fld e6 T.Block.cl T.nBk lk6 ?_
  walk_at "go"
  have km : ∀ c ∈ kindsIn ks kinds, c ∈ ks := fun c hc => (List.mem_filter.mp hc).1
  refine ⟨x, ks, ps, _, _, rfl, hp6, km, kl, kl, fun H7 s7 => ?_⟩
  have e7 := s7 _ _ e6
  have fin : ∀ {v : V} {H8 : Hp}, Keep a H7 H8 → H8 a = some (.ins B dx (blockF x (kindsIn ks kinds) r' v)) → manyOf ks ps (kindsIn ks kinds) = v → Q .non H8 := fun {v H8} s8 e8 em => by
    refine q r' H8 (fun b o hb nb => s8 _ _ (s7 _ _ (s6 _ _ (s5 _ _ (s4 _ _ (s3 _ _ (s2 _ _ (s1 _ _ hb nb)) nb))) nb)) nb) ⟨⟨dx, by rw [em]; exact e8⟩, ⟨dr5, s8 _ _ (s7 _ _ (s6 _ _ er5 nr5)) nr5⟩⟩
  walk_at "go"
  refine if_bool (fun c => ?_) (fun c => ?_)
  · walk_at "go"
    refine v_fld e7 T.Block.cl T.nBk lk6 ?_
    walk_at "go"
    · exact ⟨by omega, by omega, by decide⟩
    walk_at "go"
    refine v_sfld e7 T.Block.cl T.nBm (by show 3 < 1000; decide) fun H8 s8 e8 => ?_
    refine fin s8 e8 ?_
    unfold manyOf
    rw [if_pos c, Int.one_mul, Int.toNat_natCast]
  · walk_at "go"
    refine v_sfld e7 T.Block.cl T.nBm (by show 3 < 1000; decide) fun H8 s8 e8 => ?_
    refine fin s8 e8 ?_
    unfold manyOf
    exact if_neg (by rw [c]; decide)
abbrev stBlock_eq : Stmt := (inClass (top 35) 2)
abbrev NBlock_eq : List Str := ["self", "other"]
theorem scBlock_eq : FnScope NBlock_eq ["self", "other"] (defScope stBlock_eq) := ⟨rfl, rfl, rfl, by decide +kernel, rfl, by decide +kernel, by decide +kernel⟩

theorem ok_Block_eq (F : MAt K B "__eq__" "Block.__eq__" stBlock_eq) (T : TxtB K mg C R O B) (M_Room_eq : MDef P w K mg base CX0 2 R "__eq__" ["self", "other"] (spRoomEq C R)) : MDef P w K mg base CX0 3 B "__eq__" ["self", "other"] (spBlockEq C R B) := by
  refine F.ok scBlock_eq (fun _ _ _ _ _ _ us hl => match us, hl with | [_, _], _ => rfl) (fun vs H Q E h => ?_) (fun f cdv A outer s H vs Q E hr h => ?_)
  · obtain ⟨a, r, x, k, m, v, b, r', y, j, n, v', e, rfl, _⟩ := h
    rfl
  obtain ⟨a, r, x, k, m, v, b, r', y, j, n, v', e, rfl, ⟨⟨dx, e1⟩, ro1⟩, ⟨⟨dy, e2⟩, ro2⟩, rr, q⟩ := h
  have hu := hu_of hr
  have nd := scBlock_eq.nd
  refine ⟨_, (pss_one (ps_ret (pe_and (pe_callB (c_isiK (K := K) rfl) (by rfl) T.isinstance (by decide +kernel) (pa_cons (pv 1) (pa_cons (pe_globC T.Block.at) pa_nil))) (pe_and (pe_cmpR (op_cmpM (op := .Eq) (fun _ _ => rfl) M_Room_eq hr pass0) (pe_flK (K := K) rfl (pv 0) rfl) (pe_flK (K := K) rfl (pv 1) rfl) (nomark _)) (pe_one (pe_cmpR op_eq (pe_flK (K := K) rfl (pv 0) rfl) (pe_flK (K := K) rfl (pv 1) rfl) (nomark _))))))), ?_⟩
  refine s_start [some _, some _] rfl ?_
  obtain ⟨d1, f1⟩ := ro1.ex
  obtain ⟨d2, f2⟩ := ro2.ex
  walk_at "go"
  refine v_isiC T.Block e2 ?_
  walk_at "go"
  refine v_fld e1 T.Block.cl T.nBr blockF_r ?_
  walk_at "go"
  refine v_fld e2 T.Block.cl T.nBr blockF_r ?_
  walk_at "go"
  refine v_M2 f1 f2 ⟨r, x, m, r', y, n, e, rfl, rr, ?_⟩
  walk_at "go"
  refine if_bool (fun c1 => ?_) (fun c1 => ?_)
  · rw [c1, Bool.true_and] at q
    walk_at "go"
    refine v_fld e1 T.Block.cl T.nBk blockF_k ?_
    walk_at "go"
    refine v_fld e2 T.Block.cl T.nBk blockF_k ?_
    walk_at "go"
    rw [dec_tx]
    exact q
  · rw [c1, Bool.false_and] at q
    exact q
end
end
section
open PySem PySem.Spec L2
section
variable {ls : List Nat} {fn : Nat → List Nat} {m n : List Nat} {k j : Nat}
end
end
section
open PySem PySem.Spec L2
/-- a def that cuts the first such letter out of a text -/
structure CutDef (P : Program) (w : World) (K : PySem.W.Frag) (mg : Str → Option Value) (base : Heap) (k : Nat) : Prop where
  ex : ∃ f, mg "without_first" = some (.ref f) ∧ PySem.W.keepIn K (.ref f) = true ∧ CutRun P w K mg base CX0 k f
theorem CutRun.mono {P : Program} {w : World} {K : PySem.W.Frag} {mg : Str → Option Value} {base : Heap} {CX : CXT} {j k : Nat} {f : Addr} (R : CutRun P w K mg base CX j f) (h : j ≤ k) : CutRun P w K mg base CX k f := fun A outer s H p q c t u Q E hr => R A outer s H p q c t u Q E (hr.mono h)
theorem CutDef.mono {P : Program} {w : World} {K : PySem.W.Frag} {mg : Str → Option Value} {base : Heap} {j k : Nat} (R : CutDef P w K mg base j) (h : j ≤ k) : CutDef P w K mg base k := by
  obtain ⟨f, a, b, c⟩ := R.ex
  exact ⟨f, a, b, c.mono h⟩
section
variable {P : Program} {w : World} {K : PySem.W.Frag} {mg : Str → Option Value} {base : Heap} {C R O : Addr}
end
end
section
open PySem PySem.Spec L2
/-- three rooms, each with whether its plan is the first one's -/
structure Rooms3 (C R : Addr) (H : Hp) (ra xa : Addr) (a : List Nat) (rb xb : Addr) (b : List Nat) (rc xc : Addr) (c : List Nat) (e2 e3 : Bool) : Prop where
  r1 : RoomAt R H ra xa a
  r2 : RoomAt R H rb xb b
  r3 : RoomAt R H rc xc c
  p2 : Plans2 C H xa xb e2
  p3 : Plans2 C H xa xc e3
section
variable {P : Program} {w : World} {K : PySem.W.Frag} {mg : Str → Option Value} {base : Heap} {C R O : Addr} {ls : List Nat} {fn : Nat → List Nat}
theorem way_le (f : Nat → List Nat) (m n : List Nat) : (wayC f m n).length ≤ m.length + n.length := by
  have h : (wayC f m n).length ≤ (m.reverse ++ n).length := name_len f _
  rw [List.length_append, List.length_reverse] at h
  exact h
end
end
section
open PySem PySem.Spec L2
def spMade (C : Addr) : Sp := fun vs H Q _ => ∃ (g : Pen) (n : Nat) (d : Addr) (ls : List Nat) (f : Nat → List Nat), vs = [.ref g.p, .ref d] ∧ PenAt g H n ∧ n < 900000 ∧ d ≠ g.p ∧ H d = some (.dK (tabKV ls f)) ∧ Tab ls f ∧
  ∀ x H', H x = none → Keep g.p H H' → PenAt g H' (n + 100) → PlanAt C H' x (ascOf ls) (tabPairs ls f) → PlanOff C H' x d → Q (.ref x) H'
theorem Keep.free {p x : Addr} {H H' : Hp} (k : Keep p H H') (h : H' x = none) (n : x ≠ p) : H x = none := by
  cases z : H x with
  | none => rfl
  | some o =>
    have := k _ _ z n
    rw [h] at this
    cases this
section
variable {P : Program} {w : World} {K : PySem.W.Frag} {mg : Str → Option Value} {base : Heap} {C R O : Addr}
abbrev stmade : Stmt := (top 52)
abbrev Nmade : List Str := ["_law_pen_here", "_law_table", "_law_pairs", "_law_item", "_law_peer"]
theorem scmade : FnScope Nmade ["_law_pen_here", "_law_table"] (defScope stmade) := ⟨rfl, rfl, rfl, by decide +kernel, rfl, by decide +kernel, by decide +kernel⟩

theorem ok_made (F : FnAt K mg "_law_made" stmade) (T : TxtR K mg C R O) (D_draw : Def P w K mg base CX0 1 "_law_draw" ["_law_pen_here", "_law_number"] spDraw) (D_shuffled : Def P w K mg base CX0 2 "_law_shuffled" ["_law_pen_here", "_law_items"] spShuffled) (C_Plan : CDef P w K mg base CX0 3 "Plan" C (spPlan K C)) : Def P w K mg base CX0 5 "_law_made" ["_law_pen_here", "_law_table"] (spMade C) := by
  refine F.ok scmade (fun _ _ _ _ _ _ us hl => match us, hl with | [_, _], _ => rfl) (fun vs H Q E h => ?_) (fun f cdv A outer s H vs Q E hr h => ?_)
  · obtain ⟨g, n, d, ls, f, rfl, _⟩ := h
    rfl
  obtain ⟨g, n, d, ls, fn, rfl, hp, hn, hdp, hd, tab, k⟩ := h
  have hu := hu_of hr
  have nd := scmade.nd
  replace D_draw := D_draw.mono (show 1 ≤ 4 by decide)
  replace D_shuffled := D_shuffled.mono (show 2 ≤ 4 by decide)
  have tl := tab.len
  refine ⟨_, (pss_cons (ps_set (i := 2) nd rfl (Or.inl rfl) (pe_lst pa_nil))
      (pss_cons (ps_lock (ps_for PassesOwn.never rfl (pi_keys (pv 1)) (pg_name (i := 3) nd rfl (Or.inl rfl))
      (pss_one (ps_for PassesOwn.never rfl (pi_str (pe_dget hu (pv 1) (pv 3) (fun _ _ => rfl))) (pg_name (i := 4) nd rfl (Or.inl rfl))
        (pss_one (ps_if (PW.pt (pw_or (pt_cmpR op_ltS (pv 3) (pv 4) (nomark _)) (pw_or1 (pt_cmpR op_gt (pe_cd D_draw hr pass0 (pa_cons (pv 0) (pa_cons pe_int pa_nil))) pe_int (nomark _)))))
          (pss_one (ps_expr (pe_appK (K := K) rfl (pv 2) (pe_op op_addS (pv 3) (pv 4)))))
          pss_nil))))))
      (pss_one (ps_ret (pe_mk C_Plan hr pass0 (pa_cons (pe_joinK (K := K) rfl (pe_tx [] (by decide +kernel)) (pe_cd D_shuffled hr pass0 (pa_cons (pv 0) (pa_cons (pe_callTy (call_list_dK rfl) (by rfl) T.list (by decide +kernel) (pa_cons (pv 1) pa_nil)) pa_nil)))) (pa_cons (pv 2) pa_nil))))))), ?_⟩
  refine s_start [some _, some _, none, none, none] rfl ?_
  walk_at "go"
  intro q H1 hq s1 e1
  walk_at "go"
  have hd1 := s1 _ _ hd
  have ndc : g.cl ≠ d := by
    obtain ⟨a, r, h1, h2, _⟩ := hp.ex
    exact ne_of h2 hd (by intro z; cases z)
  have nqd : q ≠ d := (ne_of_none hd hq).symm
  have nqp := hp.p_ne hq
  have nqc := hp.cl_ne hq
  refine e_lock hd1 trivial fun od => ?_
  have fz : ∀ b o, b ≠ d → H1 b = some o → upd H1 d (.frz od (.dK (tabKV ls fn))) b = some o := fun b o nb hb => by
    rw [upd_ne nb]
    exact hb
  walk_at "go"
  refine ⟨d, od, rfl, .inl ⟨_, upd_same, ?_⟩⟩
  have p1 : PenAt g (upd H1 d (.frz od (.dK (tabKV ls fn)))) n := by
    obtain ⟨a, r, h1, h2, h3⟩ := (hp.same s1).ex
    exact ⟨a, r, fz _ _ hdp.symm h1, fz _ _ ndc h2, h3⟩
  refine for_it walk_keys (fun i σ H' => ∃ x1 x2 ps, σ = [some (.ref g.p), some (.ref d), some (.ref q), x1, x2] ∧ PenAt g H' (n + 8 * i) ∧ (∀ b o, H b = some o → b ≠ g.p → b ≠ d → H' b = some o) ∧ H' d = some (.frz od (.dK (tabKV ls fn))) ∧ H' q = some (.lst (strsV ps)) ∧ ps.length ≤ 8 * i ∧
    (∀ p ∈ ps, ∃ a b, p = [a, b] ∧ a ∈ ls ∧ b ∈ fn a) ∧ ∀ a ∈ ls.take i, ∀ b ∈ fn a, a < b → [a, b] ∈ ps) ⟨_, _, [], rfl, p1, fun b o hb n1 n2 => fz _ _ n2 (s1 _ _ hb), upd_same, fz _ _ nqd e1, by simp, by simp, by simp⟩ (fun i σ H' _ z => ?_) ?_ ?_
  · obtain ⟨x1, x2, ps, _, _, _, h, _⟩ := z
    exact h
  · rintro i v σ H2 H3 hi ⟨x1, x2, ps, rfl, p2, k2, d2, q2, l2, h2, g2⟩ ⟨rfl, kk, vv, hkv, rfl⟩
    have hi' : i < ls.length := by
      unfold tabKV at hi
      rw [List.length_map] at hi
      exact hi
    obtain ⟨rfl, rfl⟩ : kk = Sum.inr (tx [ls.getD i 0]) ∧ vv = V.str (tx (fn (ls.getD i 0))) := by
      unfold tabKV at hkv
      rw [List.getElem?_map, List.getElem?_eq_getElem hi'] at hkv
      have e : ls.getD i 0 = ls[i] := by rw [List.getD_eq_getElem?_getD, List.getElem?_eq_getElem hi']; rfl
      rw [e]
      injection hkv with hkv
      injection hkv with a b
      exact ⟨a.symm, b.symm⟩
    have hx : ls.getD i 0 ∈ ls := getD_mem hi'
    have hgl := tab.gl _ hx
    show tFor _ _ _ _ _ _
    walk_at "go"
    refine v_dget (tab_getF d2 hx) ?_
    walk_at "go"
    refine for_it (walk_tx (fn (ls.getD i 0))) (fun j σ H' => ∃ x2 ps, σ = [some (.ref g.p), some (.ref d), some (.ref q), some (.str (tx [ls.getD i 0])), x2] ∧ PenAt g H' (n + 8 * i + j) ∧ (∀ b o, H b = some o → b ≠ g.p → b ≠ d → H' b = some o) ∧ H' d = some (.frz od (.dK (tabKV ls fn))) ∧ H' q = some (.lst (strsV ps)) ∧ ps.length ≤ 8 * i + j ∧
      (∀ p ∈ ps, ∃ a b, p = [a, b] ∧ a ∈ ls ∧ b ∈ fn a) ∧ (∀ a ∈ ls.take i, ∀ b ∈ fn a, a < b → [a, b] ∈ ps) ∧ ∀ b ∈ (fn (ls.getD i 0)).take j, ls.getD i 0 < b → [ls.getD i 0, b] ∈ ps) ⟨_, ps, rfl, p2, k2, d2, q2, l2, h2, g2, by simp⟩ (fun _ _ _ _ _ => trivial) ?_ ?_
    · rintro j v σ H4 H5 hj ⟨x2, ps, rfl, p4, k4, d4, q4, l4, h4, g4, t4⟩ ⟨rfl, rfl⟩
      have hy : (fn (ls.getD i 0)).getD j 0 ∈ fn (ls.getD i 0) := getD_mem hj
      generalize hyy : (fn (ls.getD i 0)).getD j 0 = y at hy ⊢
      generalize hxx : ls.getD i 0 = x at *
      have l3 : [x].length + [y].length ≤ 1000000 := by simp
      have app : ∀ (H6 H7 : Hp), PenAt g H6 (n + 8 * i + j + 1) → Keep g.p H5 H6 → Keep q H6 H7 → H7 q = some (.lst (strsV ps ++ [V.str (tx ([x] ++ [y]))])) → ∃ x2 ps, [some (V.ref g.p), some (V.ref d), some (V.ref q), some (V.str (tx [x])), some (V.str (tx [y]))] = [some (.ref g.p), some (.ref d), some (.ref q), some (.str (tx [x])), x2] ∧ PenAt g H7 (n + 8 * i + (j + 1)) ∧ (∀ b o, H b = some o → b ≠ g.p → b ≠ d → H7 b = some o) ∧ H7 d = some (.frz od (.dK (tabKV ls fn))) ∧ H7 q = some (.lst (strsV ps)) ∧ ps.length ≤ 8 * i + (j + 1) ∧
          (∀ p ∈ ps, ∃ a b, p = [a, b] ∧ a ∈ ls ∧ b ∈ fn a) ∧ (∀ a ∈ ls.take i, ∀ b ∈ fn a, a < b → [a, b] ∈ ps) ∧ ∀ b ∈ (fn x).take (j + 1), x < b → [x, b] ∈ ps := by
        intro H6 H7 p6 k6 k7 e7
        refine ⟨_, ps ++ [[x, y]], rfl, p6.keep k7 nqp nqc, fun b o hb n1 n2 => k7 _ _ (k6 _ _ (k4 _ _ hb n1 n2) n1) (ne_of_none hb hq), k7 _ _ (k6 _ _ d4 hdp) nqd.symm, ?_, ?_, ?_, ?_, ?_⟩
        · rw [e7]
          unfold strsV
          rw [List.map_append]
          rfl
        · rw [List.length_append, List.length_singleton]
          omega
        · intro p hp
          rcases List.mem_append.mp hp with z | z
          · exact h4 p z
          · exact ⟨x, y, List.mem_singleton.mp z, hx, hy⟩
        · intro a ha b hb hab
          exact List.mem_append_left _ (g4 a ha b hb hab)
        · intro b hb hab
          rw [take_getD hj, List.mem_append, List.mem_singleton] at hb
          rcases hb with z | z
          · exact List.mem_append_left _ (t4 b z hab)
          · rw [z, hyy]
            exact List.mem_append_right _ (List.mem_singleton.mpr rfl)
      walk_at "go"
      rw [lt_one]
      refine if_dec (fun c => ?_) (fun c => ?_)
      · walk_at "go"
        refine v_app q4 (by rw [List.length_map]; omega) fun H6 k6 e6 => ?_
        exact app H5 H6 (p4.mono (by omega)) (Keep.refl _ _) k6 e6
      · walk_at "go"
        refine ⟨g, 3, _, rfl, by omega, by omega, p4, by omega, fun z H6 _ _ p6 k6 => ?_⟩
        walk_at "go"
        refine if_dec (fun c2 => ?_) (fun c2 => ?_)
        · have q6 := k6 _ _ q4 nqp.symm
          walk_at "go"
          refine v_app q6 (by rw [List.length_map]; omega) fun H7 k7 e7 => ?_
          exact app H6 H7 p6 k6 k7 e7
        · walk_at "go"
          refine ⟨_, ps, rfl, p6, fun b o hb n1 n2 => k6 _ _ (k4 _ _ hb n1 n2) n1, k6 _ _ d4 hdp, k6 _ _ q4 nqp.symm, by omega, h4, g4, ?_⟩
          intro b hb hab
          rw [take_getD hj, List.mem_append, List.mem_singleton] at hb
          rcases hb with z | z
          · exact t4 b z hab
          · rw [z, hyy] at hab
            exact absurd hab c
    · rintro σ H4 ⟨x2, ps, rfl, p4, k4, d4, q4, l4, h4, g4, t4⟩
      rw [List.take_of_length_le (Nat.le_refl _)] at t4
      refine ⟨_, _, ps, rfl, p4.mono (by omega), k4, d4, q4, by omega, h4, ?_⟩
      intro a ha b hb hab
      rw [take_getD hi', List.mem_append, List.mem_singleton] at ha
      rcases ha with z | z
      · exact g4 a z b hb hab
      · subst z
        exact t4 b hb hab
  rintro σ H2 ⟨x1, x2, ps, rfl, p2, k2, d2, q2, l2, h2, g2⟩
  have tk : (tabKV ls fn).length = ls.length := by unfold tabKV; rw [List.length_map]
  rw [tk] at p2 l2 g2
  rw [List.take_of_length_le (Nat.le_refl _)] at g2
  refine ⟨d2, ?_⟩
  have p3 : PenAt g (upd H2 d (.dK (tabKV ls fn))) (n + 64) := by
    obtain ⟨a, r, h1, h3, h4, h5, h6, h7⟩ := p2.ex
    exact ⟨a, r, by rw [upd_ne hdp.symm]; exact h1, by rw [upd_ne ndc]; exact h3, h4, h5, by omega, h7⟩
  have k3 : Keep g.p H (upd H2 d (.dK (tabKV ls fn))) := fun b o hb nb => by
    by_cases e : b = d
    · subst e
      rw [upd_same, ← hb, hd]
    · rw [upd_ne e]
      exact k2 _ _ hb nb e
  have d3 : upd H2 d (.dK (tabKV ls fn)) d = some (.dK (tabKV ls fn)) := upd_same
  have q3 : upd H2 d (.dK (tabKV ls fn)) q = some (.lst (strsV ps)) := by rw [upd_ne nqd]; exact q2
  generalize upd H2 d (.dK (tabKV ls fn)) = H3 at p3 k3 d3 q3 ⊢
  walk_at "go"
  refine v_listD d3 fun l H4 hl s4 e4 => ?_
  rw [tab_keys] at e4
  walk_at "go"
  refine ⟨g, n + 64, l, ls, rfl, e4, by omega, fun c hc => by have := LET_lt (tab.lt c hc); omega, p3.same s4, by omega, fun y ys H5 hy pm e5 p5 k5 => ?_⟩
  walk_at "go"
  rw [strs_ones] at e5
  have ylen := pm.length_eq
  refine v_join e5 (by rw [flat_ones]; omega) ?_
  rw [flat_ones]
  walk_at "go"
  have nqp' := nqp.symm
  refine ⟨ys, q, ps, rfl, ⟨.inl (k5 _ _ (s4 _ _ q3) nqp'), by omega, ?_, fun c hc => tab.lt c (pm.subset hc), pm.nodup_iff.mpr tab.nd, by omega⟩, fun x H6 hx s6 pl off => ?_⟩
  · intro p hp
    obtain ⟨a, b, rfl, ha, hb⟩ := h2 p hp
    obtain ⟨b1, b2, b3⟩ := tab.sub a ha b hb
    exact ⟨a, b, rfl, b2.symm, pm.mem_iff.mpr ha, pm.mem_iff.mpr b1⟩
  have kA : Keep g.p H H6 := fun b o hb nb => s6 _ _ (k5 _ _ (s4 _ _ (k3 _ _ hb nb)) nb)
  rw [show kindsOf ys = ascOf ls from ascOf_congr fun c => pm.mem_iff, show prsOf ps = tabPairs ls fn from tabPairs_eq tab h2 g2] at pl
  have kB : Keep g.p H H5 := fun b o hb nb => k5 _ _ (s4 _ _ (k3 _ _ hb nb)) nb
  refine k x H6 (kB.free hx (p5.p_ne hx).symm) kA ((p5.same s6).mono (by omega)) pl (off d _ (k5 _ _ (s4 _ _ d3) hdp))
end
end
section
open PySem PySem.Spec L2
def spWalk : Sp := fun vs H Q _ => ∃ (g : Pen) (n : Nat) (d : Addr) (ls : List Nat) (f : Nat → List Nat) (num : Nat), vs = [.ref g.p, .ref d, .int num] ∧ PenAt g H n ∧ n < 900000 ∧ d ≠ g.p ∧ H d = some (.dK (tabKV ls f)) ∧ Tab ls f ∧ 0 < ls.length ∧ num ≤ 100000 ∧
  ∀ (l : List Nat) H', (∀ c ∈ l, c ∈ ls) → l.length ≤ num → PenAt g H' (n + 100) → Keep g.p H H' → Q (.str (tx l)) H'
theorem mem_rep {a : List Nat} {n : Nat} {c : Nat} (h : c ∈ (List.replicate n a).flatten) : c ∈ a := by
  rw [List.mem_flatten] at h
  obtain ⟨l, hl, hc⟩ := h
  rw [List.mem_replicate] at hl
  exact hl.2 ▸ hc
theorem len_rep (a : List Nat) (n : Nat) : (List.replicate n a).flatten.length = n * a.length := by
  rw [List.length_flatten, List.map_replicate, List.sum_replicate_nat]
section
variable {P : Program} {w : World} {K : PySem.W.Frag} {mg : Str → Option Value} {base : Heap}
abbrev stwalk : Stmt := (top 53)
abbrev Nwalk : List Str := ["_law_pen_here", "_law_table", "_law_number", "_law_letters", "_law_found", "_law_turn", "_law_item", "_law_peer", "_law_sort", "_law_k"]
theorem scwalk : FnScope Nwalk ["_law_pen_here", "_law_table", "_law_number"] (defScope stwalk) := ⟨rfl, rfl, rfl, by decide +kernel, rfl, by decide +kernel, by decide +kernel⟩

theorem ok_walk (F : FnAt K mg "_law_walk" stwalk) (T : TxtH K mg) (D_draw : Def P w K mg base CX0 1 "_law_draw" ["_law_pen_here", "_law_number"] spDraw) (D_pick : Def P w K mg base CX0 2 "_law_pick" ["_law_pen_here", "_law_items"] spPick) : Def P w K mg base CX0 3 "_law_walk" ["_law_pen_here", "_law_table", "_law_number"] spWalk := by
  refine F.ok scwalk (fun _ _ _ _ _ _ us hl => match us, hl with | [_, _, _], _ => rfl) (fun vs H Q E h => ?_) (fun f cdv A outer s H vs Q E hr h => ?_)
  · obtain ⟨g, n, d, ls, f, num, rfl, _⟩ := h
    rfl
  obtain ⟨g, n, d, ls, fn, num, rfl, hp, hn, hdp, hd, tab, l0, hnum, k⟩ := h
  have hu := hu_of hr
  have nd := scwalk.nd
  replace D_draw := D_draw.mono (show 1 ≤ 2 by decide)
  have tl := tab.len
  refine ⟨_, (pss_cons (ps_par (i := 3) (j := 4) (by rfl) nd rfl rfl (by decide) rfl rfl (pa_cons (pe_callTy (call_list_dK rfl) (by rfl) T.list (by decide +kernel) (pa_cons (pv 1) pa_nil)) (pa_cons (pe_tx [] (by decide +kernel)) pa_nil)) (by rfl))
      (pss_cons (ps_for PassesOwn.never rfl (pi_range1 (by rfl) T.range (pa_cons (pe_cd D_draw hr pass0 (pa_cons (pv 0) (pa_cons pe_int pa_nil))) pa_nil)) (pg_name (i := 5) nd rfl (Or.inl rfl))
      (pss_cons (ps_par3 (i := 6) (j := 7) (l := 8) (by rfl) nd rfl rfl rfl (by decide) (by decide) (by decide) rfl rfl rfl (pa_cons (pe_cd D_pick hr pass0 (pa_cons (pv 0) (pa_cons (pv 3) pa_nil))) (pa_cons (pe_cd D_pick hr pass0 (pa_cons (pv 0) (pa_cons (pv 3) pa_nil))) (pa_cons (pe_cd D_draw hr pass0 (pa_cons (pv 0) (pa_cons pe_int pa_nil))) pa_nil))) (by rfl))
        (pss_one (ps_if (pt_cmpR op_eq (pv 8) pe_int (nomark _))
        (pss_one (ps_set (i := 4) nd rfl (Or.inl rfl) (pe_op op_addS (pv 4) (pe_op op_mulS (pe_op op_addS (pv 6) (pv 7)) (pe_op op_add pe_int (pe_cd D_draw hr pass0 (pa_cons (pv 0) (pa_cons pe_int pa_nil))))))))
        (pss_one (ps_if (pt_cmpR op_eq (pv 8) pe_int (nomark _))
          (pss_one (ps_set (i := 4) nd rfl (Or.inl rfl) (pe_op op_addS (pv 4) (pe_slice sl_S (pe_revS (pv 4)) po_none (po_some (pe_cd D_draw hr pass0 (pa_cons (pv 0) (pa_cons pe_int pa_nil))))))))
          (pss_one (ps_if (pt_cmpR op_eq (pv 8) pe_int (nomark _))
            (pss_one (ps_set (i := 4) nd rfl (Or.inl rfl) (pe_op op_addS (pe_op op_addS (pv 4) (pe_dget hu (pv 1) (pv 6) (fun _ _ => rfl))) (pv 6))))
            (pss_one (ps_for PassesOwn.never rfl (pi_range1 (by rfl) T.range (pa_cons (pe_op op_add pe_int (pe_cd D_draw hr pass0 (pa_cons (pv 0) (pa_cons pe_int pa_nil)))) pa_nil)) (pg_name (i := 9) nd rfl (Or.inl rfl))
              (pss_one (ps_set (i := 4) nd rfl (Or.inl rfl) (pe_op op_addS (pv 4) (pe_cd D_pick hr pass0 (pa_cons (pv 0) (pa_cons (pv 3) pa_nil))))))))))))))))
      (pss_one (ps_ret (pe_slice sl_S (pv 4) po_none (po_some (pv 2))))))), ?_⟩
  refine s_start [some _, some _, some _, none, none, none, none, none, none, none] rfl ?_
  walk_at "go"
  refine v_listD hd fun q H1 hq s1 e1 => ?_
  rw [tab_keys] at e1
  have nqp := hp.p_ne hq
  walk_at "go"
  refine ⟨g, 7, n, rfl, by omega, by omega, hp.same s1, by omega, fun zt H2 zt0 zt1 p2 k2 => ?_⟩
  have e2 := k2 _ _ e1 nqp.symm
  have kA : Keep g.p H H2 := fun b o hb nb => k2 _ _ (s1 _ _ hb) nb
  have ll : (ls.map fun c => V.str (tx [c])).length = ls.length := List.length_map _
  walk_at "go"
  have pk : ∀ v ∈ (ls.map fun c => V.str (tx [c])), ∃ c ∈ ls, v = V.str (tx [c]) := fun v hv => by
    obtain ⟨c, hc, e⟩ := List.mem_map.mp hv
    exact ⟨c, hc, e.symm⟩
  refine for_it (walk_rI (fun i => ((i : Nat) : Int)) (fun k => Int.zero_add _)) (fun i σ H' => ∃ x1 x2 x3 x4 x5, ∃ fd : List Nat, σ = [some (.ref g.p), some (.ref d), some (.int num), some (.ref q), some (.str (tx fd)), x1, x2, x3, x4, x5] ∧ PenAt g H' (n + 1 + 12 * i) ∧ Keep g.p H H' ∧ H' q = some (.lst (ls.map fun c => V.str (tx [c]))) ∧ fd.length ≤ 12 * i ∧ ∀ c ∈ fd, c ∈ ls) ⟨_, _, _, _, _, [], rfl, p2, kA, e2, by simp, by simp⟩ (fun _ _ _ _ _ => trivial) ?_ ?_
  · rintro i v σ H3 H4 hi ⟨x1, x2, x3, x4, x5, fd, rfl, p3, k3, e3, l3, m3⟩ ⟨rfl, rfl⟩
    have hi6 : i < 6 := by omega
    walk_at "go"
    refine ⟨g, _, q, _, rfl, e3, by omega, by omega, p3, by omega, nqp.symm, fun v1 H5 hv1 p5 k5 => ?_⟩
    obtain ⟨c1, hc1, rfl⟩ := pk v1 hv1
    have e5 := k5 _ _ e3 nqp.symm
    walk_at "go"
    refine ⟨g, _, q, _, rfl, e5, by omega, by omega, p5, by omega, nqp.symm, fun v2 H6 hv2 p6 k6 => ?_⟩
    obtain ⟨c2, hc2, rfl⟩ := pk v2 hv2
    have e6 := k6 _ _ e5 nqp.symm
    walk_at "go"
    refine ⟨g, 5, _, rfl, by omega, by omega, p6, by omega, fun so H7 so0 so1 p7 k7 => ?_⟩
    have e7 := k7 _ _ e6 nqp.symm
    have kB : Keep g.p H H7 := fun b o hb nb => k7 _ _ (k6 _ _ (k5 _ _ (k3 _ _ hb nb) nb) nb) nb
    have dB := kB _ _ hd hdp
    walk_at "go"
    refine if_dec (fun s0 => ?_) (fun s0 => ?_)
    · have l4 : [c1].length + [c2].length ≤ 1000000 := by simp
      walk_at "go"
      refine ⟨g, 5, _, rfl, by omega, by omega, p7, by omega, fun z H8 z0 z1 p8 k8 => ?_⟩
      walk_at "go"
      have zt : (1 + z).toNat ≤ 5 := by omega
      have z5 : [c1, c2].length * (1 + z).toNat ≤ 10 := by
        show 2 * _ ≤ _
        omega
      refine v_mulS (by omega) (by omega) (Nat.le_trans z5 (by decide)) ?_
      have rl := len_rep [c1, c2] (1 + z).toNat
      have rl2 : (List.replicate (1 + z).toNat [c1, c2]).flatten.length ≤ 10 := by
        rw [rl, Nat.mul_comm]
        exact z5
      refine v_addS (by show fd.length + (List.replicate (1 + z).toNat [c1, c2]).flatten.length ≤ _; omega) ?_
      walk_at "go"
      refine ⟨_, _, _, _, _, _, rfl, p8.mono (by omega), fun b o hb nb => k8 _ _ (kB _ _ hb nb) nb, k8 _ _ e7 nqp.symm, ?_, ?_⟩
      · rw [List.length_append]
        show fd.length + (List.replicate (1 + z).toNat [c1, c2]).flatten.length ≤ _
        omega
      · intro c hc
        rcases List.mem_append.mp hc with z | z
        · exact m3 c z
        · have := mem_rep z
          simp only [List.singleton_append, List.mem_cons, List.not_mem_nil, or_false] at this
          rcases this with rfl | rfl <;> assumption
    walk_at "go"
    refine if_dec (fun s1 => ?_) (fun s1 => ?_)
    · walk_at "go"
      refine ⟨g, 6, _, rfl, by omega, by omega, p7, by omega, fun z H8 z0 z1 p8 k8 => ?_⟩
      walk_at "go"
      refine v_slTo (by rw [List.length_reverse]; omega) z0 ?_
      have rl : (fd.reverse.take z.toNat).length ≤ 5 := by rw [List.length_take]; omega
      refine v_addS (by omega) ?_
      walk_at "go"
      refine ⟨_, _, _, _, _, _, rfl, p8.mono (by omega), fun b o hb nb => k8 _ _ (kB _ _ hb nb) nb, k8 _ _ e7 nqp.symm, ?_, ?_⟩
      · rw [List.length_append]
        omega
      · intro c hc
        rcases List.mem_append.mp hc with z | z
        · exact m3 c z
        · exact m3 c (List.mem_reverse.mp (List.mem_of_mem_take z))
    walk_at "go"
    refine if_dec (fun s2 => ?_) (fun s2 => ?_)
    · walk_at "go"
      refine v_dget (tab_get dB hc1) ?_
      have gl := tab.gl _ hc1
      have l5 : (fd ++ fn c1).length + [c1].length ≤ 1000000 := by
        rw [List.length_append, List.length_singleton]
        omega
      walk_at "go"
      refine ⟨_, _, _, _, _, _, rfl, p7.mono (by omega), kB, e7, ?_, ?_⟩
      · rw [List.length_append, List.length_append, List.length_singleton]
        omega
      · intro c hc
        rcases List.mem_append.mp hc with z | z
        · rcases List.mem_append.mp z with z | z
          · exact m3 c z
          · exact (tab.sub c1 hc1 c z).1
        · rw [List.mem_singleton.mp z]
          exact hc1
    walk_at "go"
    refine ⟨g, 6, _, rfl, by omega, by omega, p7, by omega, fun z H8 z0 z1 p8 k8 => ?_⟩
    walk_at "go"
    refine for_it (walk_rI (fun i => ((i : Nat) : Int)) (fun k => Int.zero_add _)) (fun j σ H' => ∃ x5, ∃ fd' : List Nat, σ = [some (.ref g.p), some (.ref d), some (.int num), some (.ref q), some (.str (tx fd')), some (.int (i : Nat)), some (.str (tx [c1])), some (.str (tx [c2])), some (.int so), x5] ∧ PenAt g H' (n + 1 + 12 * i + 4 + j) ∧ Keep g.p H H' ∧ H' q = some (.lst (ls.map fun c => V.str (tx [c]))) ∧ fd'.length ≤ 12 * i + j ∧ ∀ c ∈ fd', c ∈ ls) ⟨_, fd, rfl, p8, fun b o hb nb => k8 _ _ (kB _ _ hb nb) nb, k8 _ _ e7 nqp.symm, l3, m3⟩ (fun _ _ _ _ _ => trivial) ?_ ?_
    · rintro j v σ H9 H10 hj ⟨x5, fd', rfl, p9, k9, e9, l9, m9⟩ ⟨rfl, rfl⟩
      have hj6 : j < 6 := by omega
      walk_at "go"
      refine ⟨g, _, q, _, rfl, e9, by omega, by omega, p9, by omega, nqp.symm, fun v3 H11 hv3 p11 k11 => ?_⟩
      obtain ⟨c3, hc3, rfl⟩ := pk v3 hv3
      have l6 : fd'.length + [c3].length ≤ 1000000 := by
        rw [List.length_singleton]
        omega
      walk_at "go"
      refine ⟨_, _, rfl, p11, fun b o hb nb => k11 _ _ (k9 _ _ hb nb) nb, k11 _ _ e9 nqp.symm, ?_, ?_⟩
      · rw [List.length_append, List.length_singleton]
        omega
      · intro c hc
        rcases List.mem_append.mp hc with z | z
        · exact m9 c z
        · rw [List.mem_singleton.mp z]
          exact hc3
    · rintro σ H9 ⟨x5, fd', rfl, p9, k9, e9, l9, m9⟩
      exact ⟨_, _, _, _, _, fd', rfl, p9.mono (by omega), k9, e9, by omega, m9⟩
  rintro σ H3 ⟨x1, x2, x3, x4, x5, fd, rfl, p3, k3, e3, l3, m3⟩
  walk_at "go"
  refine v_slTo (by omega) (by omega) ?_
  refine k _ H3 (fun c hc => m3 c (List.mem_of_mem_take hc)) ?_ (p3.mono (by omega)) k3
  rw [List.length_take]
  omega
end
end
section
open PySem PySem.Spec L2
def spBegun : Sp := fun vs H Q _ => ∃ (g : Pen) (n : Nat) (d : Addr) (ls : List Nat) (f : Nat → List Nat) (num size : Nat), vs = [.ref g.p, .ref d, .int num, .int size] ∧ PenAt g H n ∧ n < 800000 ∧ d ≠ g.p ∧ H d = some (.dK (tabKV ls f)) ∧ Tab ls f ∧ 0 < ls.length ∧ num ≤ 900 ∧ size ≤ 900 ∧
  ∀ (l : List Nat) H', (∀ c ∈ l, c ∈ ls) → l.length ≤ max num size → PenAt g H' (n + 101) → Keep g.p H H' → Q (.str (tx l)) H'
section
variable {P : Program} {w : World} {K : PySem.W.Frag} {mg : Str → Option Value} {base : Heap} {C R O W : Addr}
abbrev stbegun : Stmt := (top 54)
abbrev Nbegun : List Str := ["_law_pen_here", "_law_table", "_law_number", "_law_size", "_law_found"]
theorem scbegun : FnScope Nbegun ["_law_pen_here", "_law_table", "_law_number", "_law_size"] (defScope stbegun) := ⟨rfl, rfl, rfl, by decide +kernel, rfl, by decide +kernel, by decide +kernel⟩

theorem ok_begun (F : FnAt K mg "_law_begun" stbegun) (D_draw : Def P w K mg base CX0 1 "_law_draw" ["_law_pen_here", "_law_number"] spDraw) (D_walk : Def P w K mg base CX0 3 "_law_walk" ["_law_pen_here", "_law_table", "_law_number"] spWalk) : Def P w K mg base CX0 4 "_law_begun" ["_law_pen_here", "_law_table", "_law_number", "_law_size"] spBegun := by
  refine F.ok scbegun (fun _ _ _ _ _ _ us hl => match us, hl with | [_, _, _, _], _ => rfl) (fun vs H Q E h => ?_) (fun f cdv A outer s H vs Q E hr h => ?_)
  · obtain ⟨g, n, d, ls, f, num, size, rfl, _⟩ := h
    rfl
  obtain ⟨g, n, d, ls, fn, num, size, rfl, hp, hn, hdp, hd, tab, l0, hnum, hsize, k⟩ := h
  have hu := hu_of hr
  have nd := scbegun.nd
  replace D_draw := D_draw.mono (show 1 ≤ 3 by decide)
  refine ⟨_, (pss_cons (ps_set (i := 4) nd rfl (Or.inl rfl) (pe_cd D_walk hr pass0 (pa_cons (pv 0) (pa_cons (pv 1) (pa_cons (pv 2) pa_nil)))))
      (pss_one (ps_ret (pe_ifExp (pt_cmpR op_eq (pe_cd D_draw hr pass0 (pa_cons (pv 0) (pa_cons pe_int pa_nil))) pe_int (nomark _)) (pe_slice sl_S (pe_op op_mulS (pv 4) (pv 3)) po_none (po_some (pv 3))) (pv 4))))), ?_⟩
  refine s_start [some _, some _, some _, some _, none] rfl ?_
  walk_at "go"
  refine ⟨g, n, d, ls, fn, num, rfl, hp, by omega, hdp, hd, tab, l0, by omega, fun l H1 m1 l1 p1 k1 => ?_⟩
  walk_at "go"
  refine ⟨g, 4, _, rfl, by omega, by omega, p1, by omega, fun z H2 z0 z1 p2 k2 => ?_⟩
  walk_at "go"
  refine if_dec (fun c => ?_) (fun c => ?_)
  · walk_at "go"
    have z5 : l.length * ((size : Nat) : Int).toNat ≤ 1000000 := by
      have : ((size : Nat) : Int).toNat = size := rfl
      rw [this]
      exact Nat.le_trans (Nat.mul_le_mul (show l.length ≤ 1000 by omega) (show size ≤ 1000 by omega)) (by decide)
    refine v_mulS (by omega) (by omega) z5 ?_
    have z6 : (List.replicate ((size : Nat) : Int).toNat l).flatten.length ≤ 1000000 := by
      rw [len_rep, Nat.mul_comm]
      exact z5
    walk_at "go"
    refine v_slTo z6 (by omega) ?_
    refine k _ H2 (fun c hc => m1 c (mem_rep (List.mem_of_mem_take hc))) ?_ (p2.mono (by omega)) (k1.trans k2)
    rw [List.length_take]
    omega
  · walk_at "go"
    exact k _ H2 m1 (by omega) (p2.mono (by omega)) (k1.trans k2)
end
/-! ### vectors -/
section
variable {H : Hp} {Q : VK} {K : PySem.W.Frag} {p q : Addr} {ls : List Nat} {u v : Nat → Int}
end
end
section
open PySem PySem.Spec L2
structure VecsAt (H : Hp) (D : Addr) (ls : List Nat) (us : List (Nat → Int)) : Prop where
  ex : ∃ As : List Addr, H D = some (.lst (As.map V.ref)) ∧ Paired (fun a u => H a = some (.tup (vecV ls u))) As us
theorem paired_imp {α β : Type} {r r' : α → β → Prop} (h : ∀ a b, r a b → r' a b) : ∀ {as : List α} {bs : List β}, Paired r as bs → Paired r' as bs
  | _, _, .nil => .nil
  | _, _, .cons a t => .cons (h _ _ a) (paired_imp h t)
theorem paired_len {α β : Type} {r : α → β → Prop} : ∀ {as : List α} {bs : List β}, Paired r as bs → as.length = bs.length
  | _, _, .nil => rfl
  | _, _, .cons _ t => by rw [List.length_cons, List.length_cons, paired_len t]
theorem VecsAt.same {H H' : Hp} {D : Addr} {ls : List Nat} {us : List (Nat → Int)} (h : VecsAt H D ls us) (s : Same H H') : VecsAt H' D ls us := by
  obtain ⟨As, e, p⟩ := h.ex
  exact ⟨As, s _ _ e, paired_imp (fun _ _ z => s _ _ z) p⟩
theorem MarksAt.lst {H H' : Hp} {m q : Addr} {ls : List Nat} {M : Nat → Nat → Int} {l : List V} (h : MarksAt H m ls M) (e0 : H q = some (.lst l)) (k : Keep q H H') : MarksAt H' m ls M := by
  obtain ⟨A, a, b⟩ := h.ex
  exact ⟨A, k _ _ a (ne_of a e0 (by intro z; cases z)), fun c hc => k _ _ (b c hc) (ne_of (b c hc) e0 (by intro z; cases z))⟩
/-! ### a vector among vectors -/
section
variable {H : Hp} {Q : VK} {K : PySem.W.Frag} {p D : Addr} {ls : List Nat} {v : Nat → Int} {us : List (Nat → Int)}
end
/-! ### beyond, touches -/
section
variable {P : Program} {w : World} {K : PySem.W.Frag} {mg : Str → Option Value} {base : Heap} {C R O W : Addr}
end
/-! ### of a drawn floor -/
section
variable {K : PySem.W.Frag} {H : Hp} {Q : VK} {C R O W r x y : Addr} {a' b' : Addr} {ls : List Nat} {fn : Nat → List Nat} {a b : List Nat} {k : Nat} {E : XK} {m : List Nat}
end
end
section
open PySem PySem.Spec L2
def alongOf (ks : List Nat) (ps : List (List Nat)) (m : List Nat) (k : Nat) (n : List Nat) : List Nat := (splitA (crossOf ks ps) (crossOf ks ps k) (wayOf ks ps m n)).1
def crossQ (ks : List Nat) (ps : List (List Nat)) (m : List Nat) (k : Nat) (n : List Nat) (j : Nat) : Prop := j ∈ crossOf ks ps k ∧ startOf ks ps (joinOf ks ps m (alongOf ks ps m k n)) j = n
instance (ks : List Nat) (ps : List (List Nat)) (m : List Nat) (k : Nat) (n : List Nat) (j : Nat) : Decidable (crossQ ks ps m k n j) := inferInstanceAs (Decidable (_ ∧ _))
structure Walls2 (C R W : Addr) (H : Hp) (a r x : Addr) (k : Nat) (m : List Nat) (b r' y : Addr) (j : Nat) (n : List Nat) (ks : List Nat) (ps : List (List Nat)) : Prop where
  w1 : WallAt W R H a r x k m
  w2 : WallAt W R H b r' y j n
  p1 : PlanAt C H x ks ps
  p2 : PlanAt C H y ks ps
  ok : PsOk ps
  m1 : ∀ c ∈ m, c ∈ ks
  m2 : ∀ c ∈ n, c ∈ ks
  k1 : k ∈ ks
  k2 : j ∈ ks
  lk : ks.length ≤ 1000
  l1 : m.length ≤ 2000
  l2 : n.length ≤ 2000
theorem Walls2.same {C R W : Addr} {H H' : Hp} {a r x : Addr} {k : Nat} {m : List Nat} {b r' y : Addr} {j : Nat} {n : List Nat} {ks : List Nat} {ps : List (List Nat)} (h : Walls2 C R W H a r x k m b r' y j n ks ps) (s : Same H H') : Walls2 C R W H' a r x k m b r' y j n ks ps :=
  ⟨h.w1.same s, h.w2.same s, h.p1.same s, h.p2.same s, h.ok, h.m1, h.m2, h.k1, h.k2, h.lk, h.l1, h.l2⟩
section
variable {P : Program} {w : World} {K : PySem.W.Frag} {mg : Str → Option Value} {base : Heap} {C R O W : Addr}
end
end
section
open PySem PySem.Spec L2
section
variable {P : Program} {w : World} {K : PySem.W.Frag} {mg : Str → Option Value} {base : Heap} {C R O W : Addr}
end
end
section
open PySem PySem.Spec L2
section
variable {P : Program} {w : World} {K : PySem.W.Frag} {mg : Str → Option Value} {base : Heap} {C R O W : Addr}
end
/-! ### of a drawn floor -/
section
variable {K : PySem.W.Frag} {H : Hp} {Q : VK} {C R O W r x r' y : Addr} {a' b' : Addr} {ls : List Nat} {fn : Nat → List Nat} {m n : List Nat} {k j : Nat} {E : XK}
end
end
section
open PySem PySem.Spec L2
structure TxtO (K : PySem.W.Frag) (mg : Str → Option Value) : Prop where
  sorted : mg "sorted" = none
  len : mg "len" = none
  str : mg "str" = none
def spInOrder : Sp := fun vs H Q _ => ∃ (a : Addr) (ls : List (List Nat)), vs = [.ref a] ∧ H a = some (.lst (ls.map fun l => V.str (tx l))) ∧ (∀ l ∈ ls, l.length ≤ 1000000) ∧ ls.length ≤ 1000000 ∧
  ∀ (ls' : List (List Nat)) p H', H p = none → Same H H' → H' p = some (.lst (ls'.map fun l => V.str (tx l))) → ls'.Perm ls → ls'.Pairwise shortLe → Q (.ref p) H'
theorem walk_txs {K : PySem.W.Frag} {a : Addr} {ws : List (List Nat)} : Walk (Itl K a) ws.length (fun H => SqL K H a (ws.map fun l => V.str (tx l))) (fun k H x H' => H' = H ∧ x = V.str (tx (ws.getD k []))) := by
  have w := walk_list (K := K) (a := a) (xs := ws.map fun l => V.str (tx l))
  rw [List.length_map] at w
  refine w.mono (fun _ z => z) fun i H x H' hi _ y => ?_
  obtain ⟨rfl, e⟩ := y
  refine ⟨rfl, ?_⟩
  rw [List.getElem?_map, List.getElem?_eq_getElem hi] at e
  injection e with e
  rw [List.getD_eq_getElem?_getD, List.getElem?_eq_getElem hi]
  exact e.symm
theorem range_txs (ls : List (List Nat)) : ((List.range ls.length).filter fun _ => true).map (fun k => V.str (tx (ls.getD k []))) = ls.map fun l => V.str (tx l) := by
  rw [List.filter_eq_self.mpr fun _ _ => rfl]
  apply List.ext_getElem
  · simp
  · intro i h1 h2
    simp only [List.getElem_map, List.getElem_range]
    have h3 : i < ls.length := by simpa using h2
    rw [List.getD_eq_getElem?_getD, List.getElem?_eq_getElem h3]
    rfl
section
variable {P : Program} {w : World} {K : PySem.W.Frag} {mg : Str → Option Value} {base : Heap} {C R O W : Addr}
abbrev stin_order : Stmt := (top 19)
abbrev Nin_order : List Str := ["names", "name"]
theorem scin_order : FnScope Nin_order ["names"] (defScope stin_order) := ⟨rfl, rfl, rfl, by decide +kernel, rfl, by decide +kernel, by decide +kernel⟩

theorem ok_in_order (F : FnAt K mg "in_order" stin_order) (T : TxtO K mg) : Def P w K mg base CX0 1 "in_order" ["names"] spInOrder := by
  refine F.ok scin_order (fun _ _ _ _ _ _ us hl => match us, hl with | [_], _ => rfl) (fun vs H Q E h => ?_) (fun f cdv A outer s H vs Q E hr h => ?_)
  · obtain ⟨a, ls, rfl, _⟩ := h
    rfl
  obtain ⟨a, ls, rfl, ha, hz, hl, q⟩ := h
  have hu := hu_of hr
  have nd := scin_order.nd
  refine ⟨_, (pss_one (ps_ret (pe_sortL (K := K) rfl (by rfl) T.sorted (by rfl) T.len (pa_cons (pe_callB (cr_sortedTK (K := K) rfl) (by rfl) T.sorted (by decide +kernel) (pa_cons (pe_lc (own := [("name", 1)]) (g := gName 1) (by rfl) nd (pi_listK (K := K) rfl (pv 0)) (blkOk_by (own := [("name", 1)]) (N := Nin_order) (sc := defScope stin_order) (by decide +kernel)) (fun _ _ _ _ _ => (pg_name (i := 1) nd rfl (Or.inl rfl))) (fun _ _ _ _ _ => pts_nil) (fun _ _ _ _ _ => (pe_callTy c_strS (by rfl) T.str (by decide +kernel) (pa_cons (pv 1) pa_nil)))) pa_nil)) pa_nil)))), ?_⟩
  refine s_start [some _, none] rfl ?_
  walk_at "go"
  refine e_sortL ?_
  walk_at "go"
  refine lc_gen (n := ls.length) (it := fun k => V.str (tx (ls.getD k []))) (b := fun _ => true) (f := fun k => V.str (tx (ls.getD k []))) walk_txs (fun H' s' => SqL.of (s' _ _ ha)) hl (fun k hk H1 s1 R r => ?_) (fun k hk _ H1 s1 R r => ?_) (fun D H1 hD s1 e1 => ?_)
  · exact r H1 (Same.refl _)
  · walk_at "go"
    refine v_strS ?_
    exact r H1 (Same.refl _)
  rw [range_txs] at e1
  walk_at "go"
  refine ⟨D, ls, rfl, SqL.of e1, fun m p hm1 hm2 hp => ?_⟩
  walk_at "go"
  have s2 : Same H1 (upd H1 p (.lst (m.map fun l => V.str (tx l)))) := Same.new hp
  refine ⟨p, m, rfl, SqL.of upd_same, fun l hl => hz l (hm1.mem_iff.mp hl), fun n p2 hn1 hn2 hn3 hp2 => ?_⟩
  obtain ⟨r1, r2⟩ := sorted_twice hm1 hm2 hn1 hn2 hn3
  exact q n p2 _ (L2.Same.free (s1.trans s2) hp2) ((s1.trans s2).trans (Same.new hp2)) upd_same r1 r2
end
/-! ### the walls between two rooms -/
structure WallsAt (W R : Addr) (H : Hp) (p x : Addr) (keys : List (List Nat)) : Prop where
  ex : ∃ As : List Addr, H p = some (.lst (As.map V.ref)) ∧ Paired (fun a key => ∃ r m k, key = m ++ [k] ∧ WallAt W R H a r x k m) As keys
theorem WallsAt.same {W R : Addr} {H H' : Hp} {p x : Addr} {keys : List (List Nat)} (h : WallsAt W R H p x keys) (s : Same H H') : WallsAt W R H' p x keys := by
  obtain ⟨As, e, pr⟩ := h.ex
  exact ⟨As, s _ _ e, paired_imp (fun a key ⟨r, m, k, e, w⟩ => ⟨r, m, k, e, w.same s⟩) pr⟩
section
variable {P : Program} {w : World} {K : PySem.W.Frag} {mg : Str → Option Value} {base : Heap} {C R O W : Addr}
end
end
local macro_rules | `(tactic| walk_at "ro") => `(tactic| first | assumption | ((apply RoomAt.go (by assumption)); walk_at "ro"))
local macro_rules | `(tactic| walk_at "pl") => `(tactic| first | assumption | ((apply PlanAt.go (by assumption)); walk_at "pl"))
local macro_rules | `(tactic| walk_at "st2") => `(tactic| first
  | (walk_at "st")
  | ((with_reducible refine v_rnameG ?_); refine ⟨_, _, _, (by walk_at "ro"), (by assumption), (by assumption), ?_⟩)
  | ((with_reducible refine v_rplanG ?_); refine ⟨_, _, _, (by walk_at "ro"), (by assumption), (by assumption), ?_⟩)
  | ((with_reducible refine v_rlenG ?_); refine ⟨_, _, (by walk_at "ro"), (by omega), ?_⟩)
  | ((with_reducible refine v_reqG ?_); refine ⟨_, _, _, _, _, (by walk_at "ro"), (by walk_at "ro"), (by walk_at "pl"), (by assumption), (by omega), (by omega), ?_⟩)
  | ((with_reducible refine v_rneG ?_); refine ⟨_, _, _, _, _, (by walk_at "ro"), (by walk_at "ro"), (by walk_at "pl"), (by assumption), (by omega), (by omega), ?_⟩)
  | ((with_reducible refine v_reqTG ?_); refine ⟨_, _, (by walk_at "ro"), ?_⟩)
  | ((with_reducible refine v_peqG ?_); refine ⟨_, _, (by walk_at "pl"), (by assumption), ?_⟩)
  | (with_reducible refine if_nI rfl ?_)
  | (with_reducible refine if_I rfl ?_)
  | ((with_reducible refine v_mdRG ?_); refine ⟨_, _, (by walk_at "ro"), (by decide +kernel), ?_⟩)
  | (with_reducible refine s_asgL ?_) | (with_reducible refine e_MN ?_)
  | (with_reducible refine e_CN ?_) | (refine ⟨rfl, rfl, ?_⟩))
local macro_rules | `(tactic| walk_at "go2") => `(tactic| repeat walk_at "st2")
section
open PySem PySem.Spec L2
/-- two rooms of one floor, their plans perhaps made apart -/
structure Two (C R : Addr) (H : Hp) (ra x : Addr) (a : List Nat) (rb y : Addr) (b : List Nat) (ls : List Nat) (fn : Nat → List Nat) : Prop where
  r1 : RoomAt R H ra x a
  r2 : RoomAt R H rb y b
  p1 : PlanAt C H x (ascOf ls) (tabPairs ls fn)
  p2 : PlanAt C H y (ascOf ls) (tabPairs ls fn)
  fl : Fl ls fn
  na : NF fn a
  nb : NF fn b
  ma : ∀ c ∈ a, c ∈ ls
  mb : ∀ c ∈ b, c ∈ ls
  la : a.length ≤ 200
  lb : b.length ≤ 200
theorem Two.same {C R : Addr} {H H' : Hp} {ra x : Addr} {a : List Nat} {rb y : Addr} {b : List Nat} {ls : List Nat} {fn : Nat → List Nat} (h : Two C R H ra x a rb y b ls fn) (s : Same H H') : Two C R H' ra x a rb y b ls fn :=
  ⟨h.r1.same s, h.r2.same s, h.p1.same s, h.p2.same s, h.fl, h.na, h.nb, h.ma, h.mb, h.la, h.lb⟩
theorem Two.swap {C R : Addr} {H : Hp} {ra x : Addr} {a : List Nat} {rb y : Addr} {b : List Nat} {ls : List Nat} {fn : Nat → List Nat} (h : Two C R H ra x a rb y b ls fn) : Two C R H rb y b ra x a ls fn :=
  ⟨h.r2, h.r1, h.p2, h.p1, h.fl, h.nb, h.na, h.mb, h.ma, h.lb, h.la⟩
theorem Two.ps {C R : Addr} {H : Hp} {ra x : Addr} {a : List Nat} {rb y : Addr} {b : List Nat} {ls : List Nat} {fn : Nat → List Nat} (h : Two C R H ra x a rb y b ls fn) : PsOk (tabPairs ls fn) := pairsOf_small _
section
variable {P : Program} {w : World} {K : PySem.W.Frag} {mg : Str → Option Value} {base : Heap} {C R O W NB : Addr}
end
end
section
open PySem PySem.Spec L2
/-! ### lists of vectors -/
theorem paired_get {α β : Type} {r : α → β → Prop} : ∀ {as : List α} {bs : List β} {k : Nat} (da : α) (db : β), Paired r as bs → k < bs.length → r (as.getD k da) (bs.getD k db)
  | _, _, 0, _, _, .cons h _, _ => h
  | _, _, k + 1, da, db, .cons _ t, hk => paired_get (k := k) da db t (by simpa using hk)
section
variable {K : PySem.W.Frag} {H : Hp} {ls : List Nat} {us : List (Nat → Int)} {As : List Addr} {D0 : Addr} {σ : St} {i : Nat} {tt : TT} {te : TE} {P : Addr → Hp → Prop}
theorem walk_refs (hl : As.length = us.length) : Walk (Itl K D0) us.length (fun H => SqL K H D0 (As.map V.ref)) (YFn fun k => V.ref (As.getD k 0)) := by
  have w := walk_list (K := K) (a := D0) (xs := As.map V.ref)
  rw [List.length_map, hl] at w
  refine w.mono (fun _ z => z) fun k H x H' hk _ y => ?_
  obtain ⟨rfl, e⟩ := y
  refine ⟨rfl, ?_⟩
  rw [List.getElem?_map, List.getElem?_eq_getElem (by omega)] at e
  injection e with e
  show x = V.ref (As.getD k 0)
  rw [← e, List.getD_eq_getElem?_getD, List.getElem?_eq_getElem (by omega)]
  rfl
theorem VecsAt.pen {D : Addr} {g : Pen} {n : Nat} {H' : Hp} (h : VecsAt H D ls us) (p : PenAt g H n) (kp : Keep g.p H H') : VecsAt H' D ls us := by
  obtain ⟨As, e, pr⟩ := h.ex
  obtain ⟨_, _, h1, _⟩ := p.ex
  exact ⟨As, kp _ _ e (ne_of e h1 (by intro z; cases z)), paired_imp (fun a u z => kp _ _ z (ne_of z h1 (by intro z; cases z))) pr⟩
theorem VecsAt.keep {D p : Addr} {l : List V} {H' : Hp} (h : VecsAt H p ls us) (n : p ≠ D) (e0 : H D = some (.lst l)) (k : Keep D H H') : VecsAt H' p ls us := by
  obtain ⟨As, e, pr⟩ := h.ex
  exact ⟨As, k _ _ e n, paired_imp (fun a u z => k _ _ z (ne_of z e0 (by intro z; cases z))) pr⟩
end
end
section
open PySem PySem.Spec L2
theorem Gate.len {f : Nat → List Nat} {ls r N x : List Nat} {S : List (List Nat)} (ok : CrOk f) (h : Gate f ls r S N) (hx : x ∈ S) : N.length ≤ 2 * r.length + x.length := by
  have b := h.bt x hx
  unfold Btw at b
  have w := way_le f r x
  have e := way_goes ok r N
  have e2 : nameOf f N = N := (is_NF ok).mpr h.nf
  have l : (nameOf f (r ++ wayC f r N)).length ≤ (r ++ wayC f r N).length := name_len f _
  rw [e, e2, List.length_append] at l
  omega
/-- rooms of one floor in a list or a tuple -/
structure RoomsQ (K : PySem.W.Frag) (C R : Addr) (H : Hp) (p : Addr) (ls : List Nat) (fn : Nat → List Nat) (S : List (List Nat)) : Prop where
  ex : ∃ rs : List (Addr × Addr), SeqO K H p (rs.map fun a => V.ref a.1) ∧ Paired (fun a s => RoomAt R H a.1 a.2 s ∧ PlanAt C H a.2 (ascOf ls) (tabPairs ls fn)) rs S
theorem RoomsQ.same {K : PySem.W.Frag} {C R : Addr} {H H' : Hp} {p : Addr} {ls : List Nat} {fn : Nat → List Nat} {S : List (List Nat)} (h : RoomsQ K C R H p ls fn S) (s : Same H H') : RoomsQ K C R H' p ls fn S := by
  obtain ⟨rs, e, pr⟩ := h.ex
  exact ⟨rs, e.same s, paired_imp (fun a b z => ⟨z.1.same s, z.2.same s⟩) pr⟩
section
variable {K : PySem.W.Frag} {H : Hp} {Q : VK} {p : Addr} {xs : List V} {v : V}
end
section
variable {P : Program} {w : World} {K : PySem.W.Frag} {mg : Str → Option Value} {base : Heap} {C R O : Addr}
end
end
section
open PySem PySem.Spec L2
/-- a wall of the floor stands at a -/
def WallQ (C R W : Addr) (H : Hp) (ls : List Nat) (fn : Nat → List Nat) (a : Addr) (key : List Nat × Nat) : Prop := ∃ r x, WallAt W R H a r x key.2 key.1 ∧ PlanAt C H x (ascOf ls) (tabPairs ls fn)
theorem WallQ.same {C R W : Addr} {H H' : Hp} {ls : List Nat} {fn : Nat → List Nat} {a : Addr} {key : List Nat × Nat} (h : WallQ C R W H ls fn a key) (s : Same H H') : WallQ C R W H' ls fn a key := by
  obtain ⟨r, x, w, p⟩ := h
  exact ⟨r, x, w.same s, p.same s⟩
/-- walls of one floor in a list or a tuple; behind them perhaps one of another plan -/
structure WallsQ (K : PySem.W.Frag) (C R W : Addr) (H : Hp) (p : Addr) (ls : List Nat) (fn : Nat → List Nat) (keys : List (List Nat × Nat)) (as : List Addr) (al : Bool) : Prop where
  sq : ∃ bs : List Addr, SeqO K H p ((as ++ bs).map V.ref) ∧ (al = false → bs = []) ∧ (al = true → ∃ b r x k m ks ps, bs = [b] ∧ WallAt W R H b r x k m ∧ PlanAt C H x ks ps ∧ PsOk ps ∧ ¬ (ascOf ls = ks ∧ tabPairs ls fn = ps))
  pr : Paired (WallQ C R W H ls fn) as keys
theorem WallsQ.same {K : PySem.W.Frag} {C R W : Addr} {H H' : Hp} {p : Addr} {ls : List Nat} {fn : Nat → List Nat} {keys : List (List Nat × Nat)} {as : List Addr} {al : Bool} (h : WallsQ K C R W H p ls fn keys as al) (s : Same H H') : WallsQ K C R W H' p ls fn keys as al := by
  obtain ⟨⟨bs, e, z1, z2⟩, pr⟩ := h
  refine ⟨⟨bs, e.same s, z1, fun q => ?_⟩, paired_imp (fun a b z => z.same s) pr⟩
  obtain ⟨b, r, x, k, m, ks, ps, e1, w, pl, ok, ne⟩ := z2 q
  exact ⟨b, r, x, k, m, ks, ps, e1, w.same s, pl.same s, ok, ne⟩
structure TxtCo (P : Program) (K : PySem.W.Frag) (mg : Str → Option Value) (C R O W B NC NW : Addr) (st1 : Stmt) : Prop extends TxtW K mg C R O W where
  bk : TxtB K mg C R O B
  NoWalls : ExcF K mg "NoWalls" NW
theorem way_any16 {ls : List Nat} {fn : Nat → List Nat} {a b : List Nat} (fl : Fl ls fn) (ha : ∀ c ∈ a, c ∈ ls) (hb : ∀ c ∈ b, c ∈ ls) : wayOf (ascOf ls) (tabPairs ls fn) a b = wayC fn a b := by
  have m1 : ∀ c ∈ a.reverse, c ∈ ls := fun c hc => ha c (List.mem_reverse.mp hc)
  unfold wayOf backOf
  rw [joinOf_tab fl.tab (name := []) (by simp) m1, joinOf_tab fl.tab (memN m1) hb, ← joinC_app]
  rfl
section
variable {P : Program} {w : World} {K : PySem.W.Frag} {mg : Str → Option Value} {base : Heap} {C R O W B NC NW : Addr} {st1 : Stmt}
end
end
section
open PySem PySem.Spec L2
def allX (fn : Nat → List Nat) (u v : List Nat) : Prop := ∀ p ∈ u, ∀ q ∈ v, p ∈ fn q
instance (fn : Nat → List Nat) (u v : List Nat) : Decidable (allX fn u v) := inferInstanceAs (Decidable (∀ p ∈ u, ∀ q ∈ v, p ∈ fn q))
structure TxtQ (K : PySem.W.Frag) (mg : Str → Option Value) (C R O W : Addr) : Prop extends TxtW K mg C R O W where
  Room_sf : PySem.W.selfFirst K R = true
section
variable {P : Program} {w : World} {K : PySem.W.Frag} {mg : Str → Option Value} {base : Heap} {C R O W NB : Addr}
end
end
section
open PySem PySem.Spec L2
structure TxtN (K : PySem.W.Frag) (mg : Str → Option Value) (C R O B : Addr) : Prop extends TxtB K mg C R O B where
  Room_sf : PySem.W.selfFirst K R = true
theorem paired_at25 {α β : Type} {r : α → β → Prop} : ∀ {as : List α} {bs : List β}, as.length = bs.length → (∀ (u : Nat) (a : α) (b : β), as[u]? = some a → bs[u]? = some b → r a b) → Paired r as bs
  | [], [], _, _ => .nil
  | [], _ :: _, h, _ => by cases h
  | _ :: _, [], h, _ => by cases h
  | a :: as, b :: bs, h, k => .cons (k 0 a b rfl rfl) (paired_at25 (by simpa using h) fun u x y h1 h2 => k (u + 1) x y h1 h2)
theorem refs25 : ∀ {vs : List V} {S : Nat → Addr → Prop}, (∀ j v, vs[j]? = some v → ∃ p, v = .ref p ∧ S j p) → ∃ ps : List Addr, vs = ps.map V.ref ∧ ∀ j p, ps[j]? = some p → S j p
  | [], _, _ => ⟨[], rfl, fun j p z => by simp at z⟩
  | v :: vs, S, h => by
    obtain ⟨p, rfl, s0⟩ := h 0 v rfl
    obtain ⟨ps, rfl, s1⟩ := refs25 (vs := vs) (S := fun j => S (j + 1)) fun j v z => h (j + 1) v z
    refine ⟨p :: ps, rfl, fun j q z => ?_⟩
    cases j with
    | zero =>
      cases z
      exact s0
    | succ j => exact s1 j q z
theorem all_cross25 {ls : List Nat} {fn : Nat → List Nat} (fl : Fl ls fn) {K : List Nat} (mK : ∀ k ∈ K, k ∈ ls) : allCross (ascOf ls) (tabPairs ls fn) K K = true ↔ Cliq fn K := by
  unfold allCross
  rw [List.all_eq_true]
  constructor
  · intro h a ha b hb ne
    have z := h b hb
    rw [List.all_eq_true] at z
    have y := of_decide_eq_true (z a ha)
    exact (cross_tab fl.tab (mK b hb) (mK a ha)).mp (y.resolve_left fun e => ne e.symm)
  · intro h a ha
    rw [List.all_eq_true]
    intro b hb
    refine decide_eq_true ?_
    by_cases e : a = b
    · exact .inl e
    · exact .inr ((cross_tab fl.tab (mK a ha) (mK b hb)).mpr (h b hb a ha fun z => e z.symm))
theorem many25 {ls : List Nat} {fn : Nat → List Nat} (fl : Fl ls fn) {K : List Nat} (mK : ∀ k ∈ K, k ∈ ls) (cl : Cliq fn K) : manyOf (ascOf ls) (tabPairs ls fn) K = .int (2 ^ K.length) := if_pos ((all_cross25 fl mK).mpr cl)
theorem many_not25 {ls : List Nat} {fn : Nat → List Nat} (fl : Fl ls fn) {K : List Nat} (mK : ∀ k ∈ K, k ∈ ls) (cl : ¬ Cliq fn K) : manyOf (ascOf ls) (tabPairs ls fn) K = .non := if_neg fun z => cl ((all_cross25 fl mK).mp z)
theorem paired_id25 {R : Addr → List Nat → Prop} {g : List Nat → List Nat} : ∀ {ps : List Addr} {ns : List (List Nat)}, Paired (fun p n => R p (g n)) ps ns → (∀ m ∈ ns, g m = m) → Paired R ps ns
  | _, _, .nil, _ => .nil
  | _, _, .cons h t, hm => .cons (by have := hm _ (.head _); rwa [this] at h) (paired_id25 t fun m hm' => hm m (.tail _ hm'))
theorem range_map25 (g : List Nat → List Nat) (ls : List (List Nat)) : ((List.range ls.length).filter fun _ => true).map (fun k => V.str (tx (g (ls.getD k [])))) = (ls.map g).map fun l => V.str (tx l) := by
  rw [List.filter_eq_self.mpr fun _ _ => rfl]
  apply List.ext_getElem
  · simp
  · intro i h1 h2
    simp only [List.getElem_map, List.getElem_range]
    have h3 : i < ls.length := by simpa using h2
    rw [List.getD_eq_getElem?_getD, List.getElem?_eq_getElem h3]
    rfl
def names25 (fn : Nat → List Nat) (n K : List Nat) : List (List Nat) := (subsL K).map fun S => nameOf fn (n ++ S)
theorem names_snoc25 {fn : Nat → List Nat} (ok : CrOk fn) (n K : List Nat) (k : Nat) : names25 fn n (K ++ [k]) = names25 fn n K ++ (names25 fn n K).map fun m => stepOf (fn k) m k := by
  unfold names25
  rw [subs_snoc, List.map_append, List.map_map, List.map_map]
  congr 1
  refine List.map_congr_left fun S _ => ?_
  show nameOf fn (n ++ (S ++ [k])) = stepOf (fn k) (nameOf fn (n ++ S)) k
  rw [← List.append_assoc]
  unfold nameOf joinC
  rw [List.foldl_append]
  rfl
theorem names_len25 (fn : Nat → List Nat) (n K : List Nat) : (names25 fn n K).length = 2 ^ K.length := by
  unfold names25
  rw [List.length_map, subs_len]
theorem subs_short : ∀ (K S : List Nat), S ∈ subsL K → S.length ≤ K.length := by
  refine snocRec (fun S hS => ?_) fun K k ih S hS => ?_
  · have : S = [] := by simpa [subsL] using hS
    subst this
    exact Nat.le_refl _
  · rw [subs_snoc] at hS
    rw [List.length_append, List.length_singleton]
    rcases List.mem_append.mp hS with z | z
    · have := ih S z
      omega
    · obtain ⟨S0, z0, rfl⟩ := List.mem_map.mp z
      have := ih S0 z0
      rw [List.length_append, List.length_singleton]
      omega
theorem names_mem25 {ls : List Nat} {fn : Nat → List Nat} {n K : List Nat} (mn : ∀ y ∈ n, y ∈ ls) (mK : ∀ y ∈ K, y ∈ ls) : ∀ m ∈ names25 fn n K, (∀ y ∈ m, y ∈ ls) ∧ m.length ≤ n.length + K.length := by
  intro m hm
  obtain ⟨S, hS, rfl⟩ := List.mem_map.mp hm
  have l := name_len fn (n ++ S)
  have := subs_short K S hS
  rw [List.length_append] at l
  exact ⟨fun y hy => (List.mem_append.mp (name_mem hy)).elim (mn y) fun z => mK y (subs_mem K S hS y z), by omega⟩
theorem getD_memL25 {l : List (List Nat)} {j : Nat} (h : j < l.length) : l.getD j [] ∈ l := by
  rw [List.getD_eq_getElem?_getD, List.getElem?_eq_getElem h]
  exact List.getElem_mem h
/-- a block on a drawn floor -/
structure BlkF (C R B : Addr) (H : Hp) (a r x : Addr) (ls : List Nat) (fn : Nat → List Nat) (n K : List Nat) : Prop where
  blk : BlockAt B R H a r x K n (manyOf (ascOf ls) (tabPairs ls fn) K)
  pl : PlanAt C H x (ascOf ls) (tabPairs ls fn)
  nf : NF fn n
  mn : ∀ y ∈ n, y ∈ ls
  mK : ∀ k ∈ K, k ∈ ls
  as : K = ls.filter fun k => decide (k ∈ K)
  ln : n.length ≤ 900
theorem BlkF.same {C R B : Addr} {H H' : Hp} {a r x : Addr} {ls : List Nat} {fn : Nat → List Nat} {n K : List Nat} (h : BlkF C R B H a r x ls fn n K) (s : Same H H') : BlkF C R B H' a r x ls fn n K := ⟨h.blk.same s, h.pl.same s, h.nf, h.mn, h.mK, h.as, h.ln⟩
theorem BlkF.nd {C R B : Addr} {H : Hp} {a r x : Addr} {ls : List Nat} {fn : Nat → List Nat} {n K : List Nat} (h : BlkF C R B H a r x ls fn n K) (fl : Fl ls fn) : K.Nodup := by
  rw [h.as]
  exact fl.tab.nd.sublist List.filter_sublist
theorem BlkF.lk {C R B : Addr} {H : Hp} {a r x : Addr} {ls : List Nat} {fn : Nat → List Nat} {n K : List Nat} (h : BlkF C R B H a r x ls fn n K) (fl : Fl ls fn) : K.length ≤ 8 := by
  rw [h.as]
  exact Nat.le_trans (List.length_filter_le _ _) fl.tab.len
theorem BlkF.kin {C R B : Addr} {H : Hp} {a r x : Addr} {ls : List Nat} {fn : Nat → List Nat} {n K : List Nat} (h : BlkF C R B H a r x ls fn n K) (fl : Fl ls fn) : kindsIn (ascOf ls) K = K := by
  unfold kindsIn
  rw [asc_self fl]
  exact h.as.symm
theorem asc_len25 {ls : List Nat} {fn : Nat → List Nat} (fl : Fl ls fn) : (ascOf ls).length ≤ 8 := by
  rw [asc_self fl]
  exact fl.tab.len
theorem base_tab25 {ls : List Nat} {fn : Nat → List Nat} (fl : Fl ls fn) {K n : List Nat} (mn : ∀ y ∈ n, y ∈ ls) (nf : NF fn n) : joinOf (ascOf ls) (tabPairs ls fn) [] (baseOf (ascOf ls) (tabPairs ls fn) n K) = baseC fn K n := by
  have e : baseOf (ascOf ls) (tabPairs ls fn) n K = baseC fn K n := by
    unfold baseOf baseC
    rw [splitA_congr (g := fn) (free' := K) (fun c hc => Iff.rfl) fun k hk c hc => ?_]
    exact cross_tab fl.tab (mn k (List.mem_reverse.mp hk)) (mn c (List.mem_reverse.mp hc))
  rw [e, joinOf_tab fl.tab (name := []) (by simp) fun y hy => mn y (base_mem y hy)]
  exact base_name fl.ok nf
theorem split_tab25 {ls : List Nat} {fn : Nat → List Nat} (fl : Fl ls fn) {K w : List Nat} (mw : ∀ y ∈ w, y ∈ ls) : splitA (crossOf (ascOf ls) (tabPairs ls fn)) K w = splitA fn K w :=
  splitA_congr (g := fn) (free' := K) (fun c hc => Iff.rfl) fun k hk c hc => cross_tab fl.tab (mw k hk) (mw c hc)
/-- Block(room, kinds) on a drawn floor -/
theorem sp_block {C R B : Addr} {H : Hp} {Q : VK} {E : XK} {r x : Addr} {ls : List Nat} {fn : Nat → List Nat} {n K : List Nat} (fl : Fl ls fn) (ro : RoomAt R H r x n) (pl : PlanAt C H x (ascOf ls) (tabPairs ls fn)) (nf : NF fn n) (mn : ∀ y ∈ n, y ∈ ls) (ln : n.length ≤ 900) (mK : ∀ k ∈ K, k ∈ ls) (nK : K.Nodup)
    (q : ∀ a r' H', H a = none → Same H H' → BlkF C R B H' a r' x ls fn (baseC fn (ls.filter fun k => decide (k ∈ K)) n) (ls.filter fun k => decide (k ∈ K)) → Q (.ref a) H') : spBlock C R B [.ref r, .str (tx K)] H Q E := by
  have al := asc_len25 fl
  have lk : K.length ≤ 8 := Nat.le_trans (List.Nodup.length_le_of_subset nK fun k hk => mK k hk) fl.tab.len
  refine ⟨r, x, _, _, n, K, rfl, ro, pl, inAsc fl.tab mn, inAsc fl.tab mK, nK, by omega, by omega, by omega, fun a r' H' ha s b => q a r' H' ha s ?_⟩
  have ek : kindsIn (ascOf ls) K = ls.filter fun k => decide (k ∈ K) := by unfold kindsIn; rw [asc_self fl]
  rw [ek, base_tab25 fl mn nf] at b
  obtain ⟨_, _, _, _, el⟩ := base_spec fl.ok (ls.filter fun k => decide (k ∈ K)) n
  refine ⟨b, pl.same s, base_NF nf, fun y hy => mn y (base_mem y hy), fun k hk => (List.mem_filter.mp hk).1, List.filter_congr fun k hk => ?_, by omega⟩
  rw [decide_eq_decide, List.mem_filter, decide_eq_true_iff]
  exact ⟨fun z => ⟨hk, z⟩, fun z => z.2⟩
theorem filt_self25 {C R B : Addr} {H : Hp} {a r x : Addr} {ls : List Nat} {fn : Nat → List Nat} {n K : List Nat} (h : BlkF C R B H a r x ls fn n K) : (ls.filter fun k => decide (k ∈ K)) = K := h.as.symm
def spNearestB (C R B O : Addr) : Sp := fun vs H Q E => ∃ (a r x s y : Addr) (ls : List Nat) (fn : Nat → List Nat) (n K m : List Nat) (e : Bool), vs = [.ref a, .ref s] ∧ BlkF C R B H a r x ls fn n K ∧ Fl ls fn ∧ RoomAt R H s y m ∧ Plans2 C H x y e ∧
  (e = true → (∀ c ∈ m, c ∈ ls) ∧ m.length ≤ 900 ∧ (wayC fn n m).length ≤ 900 ∧ ∀ r' H', H r' = none → Same H H' → RoomAt R H' r' x (nameOf fn (n ++ (splitA fn K (wayC fn n m)).1)) → Q (.ref r') H') ∧ (e = false → E (.ref O) none H)
def spInBlock (C R B : Addr) : Sp := fun vs H Q _ => ∃ (a r x s y : Addr) (ls : List Nat) (fn : Nat → List Nat) (n K m : List Nat) (e : Bool), vs = [.ref a, .ref s] ∧ BlkF C R B H a r x ls fn n K ∧ Fl ls fn ∧ RoomAt R H s y m ∧ Plans2 C H y x e ∧
  (e = true → PlanAt C H y (ascOf ls) (tabPairs ls fn) ∧ NF fn m ∧ (∀ c ∈ m, c ∈ ls) ∧ m.length ≤ 900) ∧ ∀ H', Same H H' → Q (.bl (e && decide (baseC fn K m = n))) H'
def spRoomsOf (C R : Addr) : Sp := fun vs H Q _ => ∃ (x q : Addr) (ls : List Nat) (fn : Nat → List Nat) (ns : List (List Nat)), vs = [.ref x, .ref q] ∧ PlanAt C H x (ascOf ls) (tabPairs ls fn) ∧ Fl ls fn ∧ H q = some (.lst (ns.map fun l => V.str (tx l))) ∧ (∀ l ∈ ns, (∀ y ∈ l, y ∈ ls) ∧ l.length ≤ 1000) ∧ ns.length ≤ 1000 ∧
  ∀ (l : Addr) (ns' : List (List Nat)) (ps : List Addr) H', H l = none → Same H H' → ns'.Perm ns → ns'.Pairwise shortLe → H' l = some (.lst (ps.map V.ref)) → Paired (fun p n => RoomAt R H' p x (nameOf fn n)) ps ns' → Q (.ref l) H'
def spListed (C R B : Addr) : Sp := fun vs H Q _ => ∃ (a r x : Addr) (ls : List Nat) (fn : Nat → List Nat) (n K : List Nat), vs = [.ref a] ∧ BlkF C R B H a r x ls fn n K ∧ Fl ls fn ∧ Cliq fn K ∧
  ∀ (l : Addr) (ns : List (List Nat)) (ps : List Addr) H', H l = none → Same H H' → ns.Perm ((subsL K).map fun S => nameOf fn (n ++ S)) → ns.Pairwise shortLe → H' l = some (.lst (ps.map V.ref)) → Paired (fun p n => RoomAt R H' p x n) ps ns → Q (.ref l) H'
section
variable {P : Program} {w : World} {K : PySem.W.Frag} {mg : Str → Option Value} {base : Heap} {C R O B : Addr}
abbrev stBlock_nearest : Stmt := (inClass (top 35) 5)
abbrev NBlock_nearest : List Str := ["self", "room", "begun", "rest"]
theorem scBlock_nearest : FnScope NBlock_nearest ["self", "room"] (defScope stBlock_nearest) := ⟨rfl, rfl, rfl, by decide +kernel, rfl, by decide +kernel, by decide +kernel⟩

theorem ok_Block_nearest (F : MAt K B "nearest" "Block.nearest" stBlock_nearest) (T : TxtN K mg C R O B) (D_need_same : Def P w K mg base (L2.CX P w) 3 "need_same" ["plan", "other"] (spNeedSame C O)) (D_way_from : Def P w K mg base CX0 4 "way_from" ["plan", "name", "goal"] (spWayFrom C)) (D_split_ahead : Def P w K mg base CX0 2 "split_ahead" ["plan", "way", "kinds"] (spSplit C)) (M_Room_add : MDef P w K mg base CX0 5 R "__add__" ["self", "way"] (spRoomAdd C R)) :
    MDef P w K mg base (L2.CX P w) 6 B "nearest" ["self", "room"] (spNearestB C R B O) := by
  refine F.okX scBlock_nearest (fun _ _ _ _ _ _ us hl => match us, hl with | [_, _], _ => rfl) (fun vs H Q E h => ?_) (fun f cdv A outer s H vs Q E hr h => ?_)
  · obtain ⟨a, r, x, s, y, ls, fn, n, K, m, e, rfl, _⟩ := h
    rfl
  obtain ⟨a, r, x, s', y, ls, fn, n, Kk, m, e, rfl, hb, fl, ro2, pp, q1, q2⟩ := h
  have hu := hu_of hr
  have nd := scBlock_nearest.nd
  replace D_need_same := D_need_same.mono (show 3 ≤ 5 by decide)
  replace D_way_from := D_way_from.mono (show 4 ≤ 5 by decide)
  replace D_split_ahead := D_split_ahead.mono (show 2 ≤ 5 by decide)
  refine ⟨_, (pss_cons (ps_expr (pe_cd D_need_same hr (passes_call (takes_of rfl rfl rfl rfl) (fun _ _ _ _ h => h)) (pa_cons (pe_flK (K := K) rfl (pv 0) rfl) (pa_cons (pe_flK (K := K) rfl (pv 1) rfl) pa_nil))))
      (pss_cons (ps_asg (pe_cd D_split_ahead hr pass0 (pa_cons (pe_flK (K := K) rfl (pv 0) rfl) (pa_cons (pe_cd D_way_from hr pass0 (pa_cons (pe_flK (K := K) rfl (pv 0) rfl) (pa_cons (pe_flK (K := K) rfl (pe_flK (K := K) rfl (pv 0) rfl) rfl) (pa_cons (pe_flK (K := K) rfl (pv 1) rfl) pa_nil)))) (pa_cons (pe_flK (K := K) rfl (pv 0) rfl) pa_nil)))) (pg_tup rfl (pgs_cons (pg_name (i := 2) nd rfl (Or.inl rfl)) (pgs_cons (pg_name (i := 3) nd rfl (Or.inl rfl)) pgs_nil))))
      (pss_one (ps_ret (pe_op (op_addM M_Room_add T.Room_sf hr pass0) (pe_flK (K := K) rfl (pv 0) rfl) (pv 2)))))), ?_⟩
  refine s_start [some _, some _, none, none] rfl ?_
  obtain ⟨⟨dx, e1⟩, ro1⟩ := hb.blk
  obtain ⟨dr, f1⟩ := ro1.ex
  obtain ⟨ds, f2⟩ := ro2.ex
  walk_at "go"
  refine v_fld e1 T.Block.cl T.nBp blockF_p ?_
  walk_at "go"
  refine v_fld f2 T.Room.cl T.nPl roomF_p ?_
  walk_at "go"
  refine ⟨x, y, e, rfl, pp, fun he => ?_, fun he => q2 he⟩
  obtain ⟨mm, lm, lw, q⟩ := q1 he
  have ln := hb.ln
  have lk := hb.lk fl
  walk_at "go"
  refine v_fld e1 T.Block.cl T.nBp blockF_p ?_
  walk_at "go"
  refine v_fld e1 T.Block.cl T.nBp blockF_p ?_
  walk_at "go"
  refine v_fld e1 T.Block.cl T.nBr blockF_r ?_
  walk_at "go"
  refine v_fld f1 T.Room.cl T.nNm roomF_n ?_
  walk_at "go"
  refine v_fld f2 T.Room.cl T.nNm roomF_n ?_
  walk_at "go"
  refine ⟨x, _, _, n, m, rfl, hb.pl, inAsc fl.tab hb.mn, inAsc fl.tab mm, by omega, by omega, ?_⟩
  rw [way_any16 fl hb.mn mm]
  have mw := way_in25 (f := fn) hb.mn mm
  walk_at "go"
  refine v_fld e1 T.Block.cl T.nBk blockF_k ?_
  walk_at "go"
  refine ⟨x, _, _, _, Kk, rfl, hb.pl, inAsc fl.tab mw, by omega, by omega, fun p H1 hp s1 e2 => ?_⟩
  rw [split_tab25 fl mw] at e2
  refine v_gTup2 rfl e2 ?_
  walk_at "go"
  refine v_fld (s1 _ _ e1) T.Block.cl T.nBr blockF_r ?_
  walk_at "go"
  have rn : RoomAt R H1 r x (nameOf fn n) := by
    rw [show nameOf fn n = n from (is_NF fl.ok).mpr hb.nf]
    exact ro1.same s1
  have sl := splitA_len fn (wayC fn n m) Kk
  refine v_add fl rn (hb.pl.same s1) hb.mn (fun c hc => hb.mK c (splitA_in _ _ _ c hc)) (by omega) (by omega) fun r' H2 hr2 s2 ro => ?_
  exact q r' H2 (L2.Same.free s1 hr2) (s1.trans s2) ro
abbrev stBlock_contains : Stmt := (inClass (top 35) 1)
abbrev NBlock_contains : List Str := ["self", "value"]
theorem scBlock_contains : FnScope NBlock_contains ["self", "value"] (defScope stBlock_contains) := ⟨rfl, rfl, rfl, by decide +kernel, rfl, by decide +kernel, by decide +kernel⟩

theorem ok_Block_contains (F : MAt K B "__contains__" "Block.__contains__" stBlock_contains) (T : TxtN K mg C R O B) (M_Plan_eq : MDef P w K mg base CX0 1 C "__eq__" ["self", "other"] (spPlanEq C)) (C_Block : CDef P w K mg base CX0 5 "Block" B (spBlock C R B)) (M_Room_eq : MDef P w K mg base CX0 2 R "__eq__" ["self", "other"] (spRoomEq C R)) :
    MDef P w K mg base CX0 7 B "__contains__" ["self", "value"] (spInBlock C R B) := by
  refine F.ok scBlock_contains (fun _ _ _ _ _ _ us hl => match us, hl with | [_, _], _ => rfl) (fun vs H Q E h => ?_) (fun f cdv A outer s H vs Q E hr h => ?_)
  · obtain ⟨a, r, x, s, y, ls, fn, n, K, m, e, rfl, _⟩ := h
    rfl
  obtain ⟨a, r, x, s', y, ls, fn, n, Kk, m, e, rfl, hb, fl, ro2, pp, q1, q2⟩ := h
  have hu := hu_of hr
  have nd := scBlock_contains.nd
  replace M_Plan_eq := M_Plan_eq.mono (show 1 ≤ 6 by decide)
  replace M_Room_eq := M_Room_eq.mono (show 2 ≤ 6 by decide)
  refine ⟨_, (pss_one (ps_ret (pe_and (pe_callB (c_isiK (K := K) rfl) (by rfl) T.isinstance (by decide +kernel) (pa_cons (pv 1) (pa_cons (pe_globC T.Room.at) pa_nil))) (pe_and (pe_cmpR (op_cmpM (op := .Eq) (fun _ _ => rfl) M_Plan_eq hr pass0) (pe_flK (K := K) rfl (pv 1) rfl) (pe_flK (K := K) rfl (pv 0) rfl) (nomark _)) (pe_one (pe_cmpR (op_cmpM (op := .Eq) (fun _ _ => rfl) M_Room_eq hr pass0) (pe_flK (K := K) rfl (pe_mk C_Block hr pass0 (pa_cons (pv 1) (pa_cons (pe_flK (K := K) rfl (pv 0) rfl) pa_nil))) rfl) (pe_flK (K := K) rfl (pv 0) rfl) (nomark _))))))), ?_⟩
  refine s_start [some _, some _] rfl ?_
  obtain ⟨⟨dx, e1⟩, ro1⟩ := hb.blk
  obtain ⟨dr, f1⟩ := ro1.ex
  obtain ⟨ds, f2⟩ := ro2.ex
  obtain ⟨ks, ks', ps, ps', pa, pb, oa, ob, he⟩ := pp
  obtain ⟨dpa, ta, da, ga, _⟩ := pa.ex
  obtain ⟨dpb, tb, db, gb, _⟩ := pb.ex
  have ln := hb.ln
  walk_at "go"
  refine v_isiC T.Room f2 ?_
  walk_at "go"
  refine v_fld f2 T.Room.cl T.nPl roomF_p ?_
  walk_at "go"
  refine v_fld e1 T.Block.cl T.nBp blockF_p ?_
  walk_at "go"
  refine v_M2 ga gb ⟨y, x, ks, ks', ps, ps', rfl, pa, pb, oa, ob, ?_⟩
  rw [← he]
  walk_at "go"
  refine if_bool (fun c1 => ?_) (fun c1 => ?_)
  · rw [c1, Bool.true_and] at q2
    obtain ⟨py, nm, mm, lm⟩ := q1 c1
    walk_at "go"
    refine v_fld e1 T.Block.cl T.nBk blockF_k ?_
    walk_at "go"
    refine sp_block fl ro2 py nm mm lm hb.mK (hb.nd fl) fun b r' H1 hb1 s1 hb' => ?_
    rw [filt_self25 hb] at hb'
    obtain ⟨⟨dx', e2⟩, ro3⟩ := hb'.blk
    obtain ⟨dr3, f3⟩ := ro3.ex
    walk_at "go"
    refine v_fld e2 T.Block.cl T.nBr blockF_r ?_
    walk_at "go"
    refine v_fld (s1 _ _ e1) T.Block.cl T.nBr blockF_r ?_
    walk_at "go"
    refine v_M2 f3 (s1 _ _ f1) ⟨r', y, _, r, x, n, true, rfl, ⟨ro3, ro1.same s1, ⟨ks, ks', ps, ps', pa.same s1, pb.same s1, oa, ob, by rw [← he, c1]⟩, by have := hb'.ln; omega, by omega⟩, ?_⟩
    rw [Bool.true_and]
    exact q2 H1 s1
  · rw [c1, Bool.false_and] at q2
    exact q2 H (Same.refl _)
abbrev strooms_of : Stmt := (top 30)
abbrev Nrooms_of : List Str := ["plan", "names", "name"]
theorem scrooms_of : FnScope Nrooms_of ["plan", "names"] (defScope strooms_of) := ⟨rfl, rfl, rfl, by decide +kernel, rfl, by decide +kernel, by decide +kernel⟩

theorem ok_rooms_of (F : FnAt K mg "rooms_of" strooms_of) (D_in_order : Def P w K mg base CX0 1 "in_order" ["names"] spInOrder) (C_Room : CDef P w K mg base CX0 3 "Room" R (spRoom C R)) : Def P w K mg base CX0 5 "rooms_of" ["plan", "names"] (spRoomsOf C R) := by
  refine F.ok scrooms_of (fun _ _ _ _ _ _ us hl => match us, hl with | [_, _], _ => rfl) (fun vs H Q E h => ?_) (fun f cdv A outer s H vs Q E hr h => ?_)
  · obtain ⟨x, q, ls, fn, ns, rfl, _⟩ := h
    rfl
  obtain ⟨x, q, ls, fn, ns, rfl, pl, fl, eq, hm, ln, k⟩ := h
  have hu := hu_of hr
  have nd := scrooms_of.nd
  replace D_in_order := D_in_order.mono (show 1 ≤ 4 by decide)
  refine ⟨_, (pss_one (ps_ret (pe_lc (own := [("name", 2)]) (g := gName 2) (by rfl) nd (pi_listK (K := K) rfl (pe_cd D_in_order hr pass0 (pa_cons (pv 1) pa_nil))) (blkOk_by (own := [("name", 2)]) (N := Nrooms_of) (sc := defScope strooms_of) (by decide +kernel)) (fun _ _ _ _ _ => (pg_name (i := 2) nd rfl (Or.inl rfl))) (fun _ _ _ _ _ => pts_nil) (fun _ _ _ _ _ => (pe_mk C_Room hr pass0 (pa_cons (pv 0) (pa_cons (pv 2) pa_nil))))))), ?_⟩
  refine s_start [some _, some _, none] rfl ?_
  walk_at "go"
  refine ⟨q, ns, rfl, eq, fun l hl => by have := (hm l hl).2; omega, by omega, fun ns' p H1 hp s1 e1 pm pw => ?_⟩
  walk_at "go"
  refine lc_mapA (fun k v H' => ∃ p', v = .ref p' ∧ RoomAt R H' p' x (nameOf fn (ns'.getD k []))) walk_txs (fun H' s' => SqL.of (s' _ _ e1)) (by rw [pm.length_eq]; omega) ?_ ?_ ?_ ?_ ?_
  · rintro j v H2 H3 ⟨p', rfl, e⟩ s
    exact ⟨p', rfl, e.same s⟩
  · rintro j v H2 H3 D' l' ⟨p', rfl, e⟩ e0 kp
    exact ⟨p', rfl, e.lst e0 kp⟩
  · intro j hj H2 s2 R' r
    walk_at "go"
    exact r H2 (Same.refl _)
  · intro j hj H2 s2 R' r
    walk_at "go"
    obtain ⟨h1, h2⟩ := hm _ (pm.mem_iff.mp (getD_memL25 hj))
    refine sp_room fl (pl.same (s1.trans s2)) h1 (by omega) fun p' H3 hp' s3 ro => ?_
    exact r _ H3 s3 ⟨p', rfl, ro⟩
  intro l H2 vs hl s2 e2 l2 rel2
  obtain ⟨ps, rfl, relp⟩ := refs25 rel2
  walk_at "go"
  refine k l ns' ps H2 (L2.Same.free s1 hl) (s1.trans s2) pm pw e2 (paired_at25 (by simpa using l2) fun u a b h1 h2 => ?_)
  have z := relp u a h1
  rwa [show ns'.getD u [] = b by rw [List.getD_eq_getElem?_getD, h2]; rfl] at z
abbrev stBlock_listed : Stmt := (inClass (top 35) 6)
abbrev NBlock_listed : List Str := ["self", "names", "kind", "name"]
theorem scBlock_listed : FnScope NBlock_listed ["self"] (defScope stBlock_listed) := ⟨rfl, rfl, rfl, by decide +kernel, rfl, by decide +kernel, by decide +kernel⟩

theorem ok_Block_listed (F : MAt K B "listed" "Block.listed" stBlock_listed) (T : TxtN K mg C R O B) (D_rooms_of : Def P w K mg base CX0 5 "rooms_of" ["plan", "names"] (spRoomsOf C R)) (D_stepped : Def P w K mg base CX0 1 "stepped" ["plan", "name", "kind"] (spStepped C)) :
    MDef P w K mg base CX0 6 B "listed" ["self"] (spListed C R B) := by
  refine F.ok scBlock_listed (fun _ _ _ _ _ _ us hl => match us, hl with | [_], _ => rfl) (fun vs H Q E h => ?_) (fun f cdv A outer s H vs Q E hr h => ?_)
  · obtain ⟨a, r, x, ls, fn, n, K, rfl, _⟩ := h
    rfl
  obtain ⟨a, r, x, ls, fn, n, Kk, rfl, hb, fl, cl, q⟩ := h
  have hu := hu_of hr
  have nd := scBlock_listed.nd
  replace D_stepped := D_stepped.mono (show 1 ≤ 5 by decide)
  refine ⟨_, (pss_cons (ps_if (pt_cmpR op_isN1 (pe_flK (K := K) rfl (pv 0) rfl) pe_non (nomark _))
      (pss_one ps_never)
      pss_nil)
      (pss_cons (ps_set (i := 1) nd rfl (Or.inl rfl) (pe_lst (pa_cons (pe_flK (K := K) rfl (pe_flK (K := K) rfl (pv 0) rfl) rfl) pa_nil)))
      (pss_cons (ps_for PassesOwn.never rfl (pi_str (pe_flK (K := K) rfl (pv 0) rfl)) (pg_name (i := 2) nd rfl (Or.inr rfl))
      (pss_one (ps_set (i := 1) nd rfl (Or.inl rfl) (pe_op op_cat1 (pv 1) (pe_lc (own := [("name", 3)]) (g := gName 3) (by rfl) nd (pi_listK (K := K) rfl (pv 1)) (blkOk_by (own := [("name", 3)]) (N := NBlock_listed) (sc := defScope stBlock_listed) (by decide +kernel)) (fun _ _ _ _ _ => (pg_name (i := 3) nd rfl (Or.inl rfl))) (fun _ _ _ _ _ => pts_nil) (fun _ _ _ _ _ => (pe_cd D_stepped hr pass0 (pa_cons (pe_flK (K := K) rfl (pv 0) rfl) (pa_cons (pv 3) (pa_cons (pv 2) pa_nil))))))))))
      (pss_one (ps_ret (pe_cd D_rooms_of hr pass0 (pa_cons (pe_flK (K := K) rfl (pv 0) rfl) (pa_cons (pv 1) pa_nil)))))))), ?_⟩
  refine s_start [some _, none, none, none] rfl ?_
  obtain ⟨⟨dx, e1⟩, ro1⟩ := hb.blk
  obtain ⟨dr, f1⟩ := ro1.ex
  have ln := hb.ln
  have lk := hb.lk fl
  walk_at "go"
  rw [many25 fl hb.mK cl] at e1
  refine v_fld e1 T.Block.cl T.nBm blockF_m ?_
  walk_at "go"
  refine ⟨rfl, false, congrArg V.bl (decide_eq_false fun z => nomatch z), ?_⟩
  walk_at "go"
  refine v_fld e1 T.Block.cl T.nBr blockF_r ?_
  walk_at "go"
  refine v_fld f1 T.Room.cl T.nNm roomF_n ?_
  walk_at "go"
  intro l0 H1 hl0 s1 g1
  have n0 : nameOf fn n = n := (is_NF fl.ok).mpr hb.nf
  walk_at "go"
  refine v_fld (s1 _ _ e1) T.Block.cl T.nBk blockF_k ?_
  refine ⟨tx Kk, rfl, ?_⟩
  refine for_it (walk_tx Kk) (fun i σ H' => ∃ l z1 z2, σ = [some (.ref a), some (.ref l), z1, z2] ∧ Same H H' ∧ H' l = some (.lst ((names25 fn n (Kk.take i)).map fun m => V.str (tx m)))) ⟨l0, none, none, rfl, s1, by
    rw [g1, List.take_zero]
    show _ = some (HO.lst [V.str (tx (nameOf fn (n ++ [])))])
    rw [List.append_nil, n0]⟩ (fun _ _ _ _ _ => trivial) ?_ ?_
  · rintro i v σ H2 H3 hi ⟨l, z1, z2, rfl, s2, g2⟩ ⟨rfl, rfl⟩
    have hk : Kk.getD i 0 ∈ Kk := getD_in hi
    have len : (names25 fn n (Kk.take i)).length ≤ 256 := by
      rw [names_len25, List.length_take]
      exact Nat.pow_le_pow_right (by decide : 2 > 0) (show min i Kk.length ≤ 8 by omega)
    have et : Kk.take (i + 1) = Kk.take i ++ [Kk.getD i 0] := by
      rw [List.take_succ, List.getD_eq_getElem?_getD, List.getElem?_eq_getElem hi]
      rfl
    have mm := names_mem25 (fn := fn) hb.mn (K := Kk.take i) fun y hy => hb.mK y (List.mem_of_mem_take hy)
    rw [List.length_take] at mm
    walk_at "go"
    refine lc_gen (n := (names25 fn n (Kk.take i)).length) (it := fun k => V.str (tx ((names25 fn n (Kk.take i)).getD k []))) (b := fun _ => true) (f := fun k => V.str (tx (stepOf (fn (Kk.getD i 0)) ((names25 fn n (Kk.take i)).getD k []) (Kk.getD i 0)))) walk_txs (fun H' s' => SqL.of (s' _ _ g2)) (by omega) (fun k hk H1 s1 R r => ?_) (fun k hk2 _ H1 s4 R r => ?_) (fun D H1 hD s4 g4 => ?_)
    · exact r H1 (Same.refl _)
    · walk_at "go"
      refine v_fld (s4 _ _ (s2 _ _ e1)) T.Block.cl T.nBp blockF_p ?_
      walk_at "go"
      obtain ⟨m1, m2⟩ := mm _ (getD_memL25 hk2)
      refine ⟨x, _, _, _, _, rfl, (hb.pl.same s2).same s4, inAsc (a := [Kk.getD i 0]) fl.tab (by simpa using hb.mK _ hk) _ (by simp), by omega, ?_⟩
      rw [stepOf_tab fl.tab (hb.mK _ hk) m1]
      exact r H1 (Same.refl _)
    rw [range_map25 (fun m => stepOf (fn (Kk.getD i 0)) m (Kk.getD i 0))] at g4
    refine v_cat (s4 _ _ g2) g4 (by simp only [List.length_map]; omega) fun l2 H4 hl2 s5 g5 => ?_
    refine ⟨l2, _, _, rfl, (s2.trans s4).trans s5, ?_⟩
    rw [g5, et, names_snoc25 fl.ok, List.map_append]
  · rintro σ H2 ⟨l, z1, z2, rfl, s2, g2⟩
    rw [List.take_length] at g2
    have mm := names_mem25 (fn := fn) hb.mn hb.mK
    have len : (names25 fn n Kk).length ≤ 256 := by
      rw [names_len25]
      exact Nat.pow_le_pow_right (by decide : 2 > 0) lk
    walk_at "go"
    refine v_fld (s2 _ _ e1) T.Block.cl T.nBp blockF_p ?_
    walk_at "go"
    refine ⟨x, l, ls, fn, names25 fn n Kk, rfl, hb.pl.same s2, fl, g2, fun m hm => ⟨(mm m hm).1, by have := (mm m hm).2; omega⟩, by omega, fun l2 ns' ps H3 hl2 s3 pm pw g3 pr => ?_⟩
    refine q l2 ns' ps H3 (L2.Same.free s2 hl2) (s2.trans s3) pm pw g3 ?_
    have nm : ∀ m ∈ ns', nameOf fn m = m := fun m hm => by
      obtain ⟨S, hS, rfl⟩ := List.mem_map.mp (pm.mem_iff.mp hm)
      exact name_name fl.ok _
    exact paired_id25 pr nm
end
end
section
open PySem PySem.Spec L2
theorem strsV_inj {a b : List (List Nat)} (h : strsV a = strsV b) : a = b := by
  induction a generalizing b with
  | nil =>
    cases b with
    | nil => rfl
    | cons y b => cases h
  | cons x a ih =>
    cases b with
    | nil => cases h
    | cons y b =>
      have h1 := List.cons.inj (show V.str (tx x) :: strsV a = V.str (tx y) :: strsV b from h)
      have e : tx x = tx y := by injection h1.1
      rw [tx_inj.mp e, ih h1.2]
theorem PlanAt.uniq {C : Addr} {H : Hp} {x : Addr} {ks ks' : List Nat} {ps ps' : List (List Nat)} (h : PlanAt C H x ks ps) (h' : PlanAt C H x ks' ps') : ks = ks' ∧ ps = ps' := by
  obtain ⟨dx, t, d, a1, a2, _⟩ := h.ex
  obtain ⟨dx', t', d', b1, b2, _⟩ := h'.ex
  rw [a1] at b1
  injection b1 with b1
  injection b1 with _ _ b1
  have e1 : some (V.str (tx ks)) = some (V.str (tx ks')) := by rw [← planF_k (ks := ks) (t := t) (d := d), b1, planF_k]
  have e2 : some (V.ref t) = some (V.ref t') := by rw [← planF_p (ks := ks) (t := t) (d := d), b1, planF_p]
  injection e1 with e1
  injection e1 with e1
  injection e2 with e2
  injection e2 with e2
  subst e2
  rw [a2] at b2
  injection b2 with b2
  injection b2 with b2
  exact ⟨tx_inj.mp e1, strsV_inj b2⟩
theorem Plans2.self {C : Addr} {H : Hp} {x : Addr} {e : Bool} (h : Plans2 C H x x e) : e = true := by
  obtain ⟨ks, ks', ps, ps', pa, pb, _, _, he⟩ := h
  rw [he]
  exact decide_eq_true (pa.uniq pb)
theorem RoomAt.uniq {R : Addr} {H : Hp} {r x y : Addr} {m n : List Nat} (h : RoomAt R H r x m) (h' : RoomAt R H r y n) : x = y ∧ m = n := by
  obtain ⟨dx, a1⟩ := h.ex
  obtain ⟨dy, b1⟩ := h'.ex
  rw [a1] at b1
  injection b1 with b1
  injection b1 with _ _ b1
  have e1 : some (V.ref x) = some (V.ref y) := by rw [← roomF_p (x := x) (name := m), b1, roomF_p]
  have e2 : some (V.str (tx m)) = some (V.str (tx n)) := by rw [← roomF_n (x := x) (name := m), b1, roomF_n]
  injection e1 with e1
  injection e1 with e1
  injection e2 with e2
  injection e2 with e2
  exact ⟨e1, tx_inj.mp e2⟩
theorem BlockAt.uniq {B R : Addr} {H : Hp} {a r x r' x' : Addr} {k k' m m' : List Nat} {v v' : V} (h : BlockAt B R H a r x k m v) (h' : BlockAt B R H a r' x' k' m' v') : r = r' ∧ k = k' ∧ m = m' := by
  obtain ⟨⟨dx, a1⟩, ro⟩ := h
  obtain ⟨⟨dy, b1⟩, ro'⟩ := h'
  rw [a1] at b1
  injection b1 with b1
  injection b1 with _ _ b1
  have e1 : some (V.ref r) = some (V.ref r') := by rw [← blockF_r (x := x) (r := r) (kinds := k) (v := v), b1, blockF_r]
  have e2 : some (V.str (tx k)) = some (V.str (tx k')) := by rw [← blockF_k (x := x) (r := r) (kinds := k) (v := v), b1, blockF_k]
  injection e1 with e1
  injection e1 with e1
  injection e2 with e2
  injection e2 with e2
  subst e1
  exact ⟨rfl, tx_inj.mp e2, (ro.uniq ro').2⟩
/-- two blocks compared -/
def BEq (C R B : Addr) (a b : Addr) (H : Hp) (e : Bool) : Prop := ∃ (r x : Addr) (k m : List Nat) (v : V) (r' y : Addr) (k' n : List Nat) (v' : V) (e0 : Bool), BlockAt B R H a r x k m v ∧ BlockAt B R H b r' y k' n v' ∧ Rooms2 C R H r x m r' y n e0 ∧ e = ((e0 && decide (m = n)) && decide (k = k'))
theorem BEq.same {C R B : Addr} {a b : Addr} {H H' : Hp} {e : Bool} (h : BEq C R B a b H e) (s : Same H H') : BEq C R B a b H' e := by
  obtain ⟨r, x, k, m, v, r', y, k', n, v', e0, h1, h2, h3, h4⟩ := h
  exact ⟨r, x, k, m, v, r', y, k', n, v', e0, h1.same s, h2.same s, h3.same s, h4⟩
theorem BEq.self {C R B : Addr} {a : Addr} {H : Hp} {e : Bool} (h : BEq C R B a a H e) : e = true := by
  obtain ⟨r, x, k, m, v, r', y, k', n, v', e0, h1, h2, h3, h4⟩ := h
  obtain ⟨rfl, rfl, rfl⟩ := h1.uniq h2
  obtain ⟨rfl, _⟩ := h3.one.uniq h3.two
  rw [h4, h3.pl.self]
  simp
def DBrq (C R B : Addr) : EqvB := fun x y H b => DTx x y H b ∨ DObj B (BEq C R B) x y H b
theorem mon_brq {C R B : Addr} : MonB (DBrq C R B) := MonB.or mon_tx (mon_obj fun a b H H' r e q => q.same e)
theorem eq_brq {X : Cx} {CX : CXT} {C R B : Addr} {ps : List Str} {E : XK} {n : Nat} (D : MDef X.prog X.w X.K X.mg X.base CX n B "__eq__" ps (spBlockEq C R B)) (hx : Passes CX X E) : EqB X n (DBrq C R B) :=
  (eqB_tx.mono (Nat.zero_le n)).or (eqB_obj D hx fun a b H r h => by
    obtain ⟨r1, x, k, m, v, r', y, k', n, v', e0, h1, h2, h3, h4⟩ := h
    exact ⟨a, r1, x, k, m, v, b, r', y, k', n, v', e0, rfl, h1, h2, h3, by rw [h4], Ext.rfl'⟩)
def briF (way kinds : List Nat) (o p : Addr) : List (Str × V) := putF "other" (.ref p) (putF "one" (.ref o) (putF "kinds" (.str (tx kinds)) (putF "way" (.str (tx way)) [])))
theorem ngwk : ¬ (("way" : Str) = "kinds") := by decide +kernel
theorem ngw1 : ¬ (("way" : Str) = "one") := by decide +kernel
theorem ngw2 : ¬ (("way" : Str) = "other") := by decide +kernel
theorem ngk1 : ¬ (("kinds" : Str) = "one") := by decide +kernel
theorem ngk2 : ¬ (("kinds" : Str) = "other") := by decide +kernel
theorem ng12 : ¬ (("one" : Str) = "other") := by decide +kernel
theorem briF_w {way kinds : List Nat} {o p : Addr} : (briF way kinds o p).lookup ("way" : Str) = some (.str (tx way)) := by
  unfold briF
  rw [lookup_putF, if_neg ngw2, lookup_putF, if_neg ngw1, lookup_putF, if_neg ngwk, lookup_putF, if_pos rfl]
theorem briF_k {way kinds : List Nat} {o p : Addr} : (briF way kinds o p).lookup ("kinds" : Str) = some (.str (tx kinds)) := by
  unfold briF
  rw [lookup_putF, if_neg ngk2, lookup_putF, if_neg ngk1, lookup_putF, if_pos rfl]
theorem briF_1 {way kinds : List Nat} {o p : Addr} : (briF way kinds o p).lookup ("one" : Str) = some (.ref o) := by
  unfold briF
  rw [lookup_putF, if_neg ng12, lookup_putF, if_pos rfl]
theorem briF_2 {way kinds : List Nat} {o p : Addr} : (briF way kinds o p).lookup ("other" : Str) = some (.ref p) := by
  unfold briF
  rw [lookup_putF, if_pos rfl]
structure BriAt (G : Addr) (H : Hp) (g : Addr) (way kinds : List Nat) (o p : Addr) : Prop where
  ex : ∃ dx, H g = some (.ins G dx (briF way kinds o p))
theorem BriAt.same {G : Addr} {H H' : Hp} {g : Addr} {way kinds : List Nat} {o p : Addr} (h : BriAt G H g way kinds o p) (s : Same H H') : BriAt G H' g way kinds o p := by
  obtain ⟨dx, e⟩ := h.ex
  exact ⟨dx, s _ _ e⟩
structure TxtBr (K : PySem.W.Frag) (mg : Str → Option Value) (C R O B G : Addr) : Prop extends TxtN K mg C R O B where
  Bridge : ClsF K mg "Bridge" G
  nGw : NoAttr K G "way"
  nGk : NoAttr K G "kinds"
  nG1 : NoAttr K G "one"
  nG2 : NoAttr K G "other"
def spBridge0 (G : Addr) : Sp := fun vs H Q _ => ∃ (a dx : Addr) (way kinds : List Nat) (o p : Addr), vs = [.ref a, .str (tx way), .str (tx kinds), .ref o, .ref p] ∧ H a = some (.ins G dx []) ∧ ∀ H', Keep a H H' → BriAt G H' a way kinds o p → Q .non H'
def spBridge (G : Addr) : Sp := fun vs H Q _ => ∃ (way kinds : List Nat) (o p : Addr), vs = [.str (tx way), .str (tx kinds), .ref o, .ref p] ∧ ∀ a H', H a = none → Same H H' → BriAt G H' a way kinds o p → Q (.ref a) H'
theorem conv_bridge (G : Addr) : Conv G (spBridge0 G) (spBridge G) := by
  rintro vs H Q E ⟨way, kinds, o, p, rfl, q⟩ a dx hx hdx hne
  have s0 : Same H (upd (upd H dx (.own a)) a (.ins G dx [])) := fun b o hb => by
    rw [upd_ne (ne_of_none hb hx), upd_ne (ne_of_none hb hdx)]
    exact hb
  refine ⟨a, dx, way, kinds, o, p, rfl, upd_same, fun H' s' z => ⟨rfl, q a H' hx (fun b o hb => ?_) z⟩⟩
  exact s' b o (s0 _ _ hb) (ne_of_none hb hx)
def spBridgeEq (C R B G : Addr) : Sp := fun vs H Q _ => ∃ (a b : Addr) (w k : List Nat) (o p : Addr) (w' k' : List Nat) (o' p' : Addr) (e1 e2 : Bool), vs = [.ref a, .ref b] ∧ BriAt G H a w k o p ∧ BriAt G H b w' k' o' p' ∧ BEq C R B o o' H e1 ∧ BEq C R B p p' H e2 ∧ ∀ H', Same H H' → Q (.bl (decide (w = w') && (e1 && e2))) H'
def spBridgeNo (B G : Addr) : Sp := fun vs H Q _ => ∃ (a b dx dy : Addr) (fs gs : List (Str × V)), vs = [.ref a, .ref b] ∧ H a = some (.ins G dx fs) ∧ H b = some (.ins B dy gs) ∧ Q (.bl false) H
theorem blockF_no {x r : Addr} {kinds : List Nat} {v : V} {m : Str} (h1 : ¬ m = "plan") (h2 : ¬ m = "kinds") (h3 : ¬ m = "room") (h4 : ¬ m = "many") : (blockF x kinds r v).lookup m = none := by
  unfold blockF
  rw [lookup_putF, if_neg h4, lookup_putF, if_neg h3, lookup_putF, if_neg h2, lookup_putF, if_neg h1]
  rfl
/-- kinds of both that cross all letters of the way -/
def dueL (fn : Nat → List Nat) (A B w : List Nat) : List Nat := (A.filter fun k => decide (k ∈ B)).filter fun k => w.all fun y => decide (y ∈ fn k)
theorem due_mem {fn : Nat → List Nat} {A B w : List Nat} {t : Nat} : t ∈ dueL fn A B w ↔ t ∈ A ∧ t ∈ B ∧ ∀ y ∈ w, y ∈ fn t := by
  unfold dueL
  rw [List.mem_filter, List.mem_filter, decide_eq_true_iff, List.all_eq_true, and_assoc]
  simp only [decide_eq_true_iff]
section
variable {P : Program} {w : World} {K : PySem.W.Frag} {mg : Str → Option Value} {base : Heap} {C R O B G : Addr}
abbrev stBridge_init : Stmt := (inClass (top 36) 0)
abbrev NBridge_init : List Str := ["self", "way", "kinds", "one", "other"]
theorem scBridge_init : FnScope NBridge_init ["self", "way", "kinds", "one", "other"] (defScope stBridge_init) := ⟨rfl, rfl, rfl, by decide +kernel, rfl, by decide +kernel, by decide +kernel⟩

theorem ok_Bridge (F : MAt K G "__init__" "Bridge.__init__" stBridge_init) (T : TxtBr K mg C R O B G) : CMk0 P w K mg base CX0 1 "Bridge" G (spBridge G) ["self", "way", "kinds", "one", "other"] "Bridge.__init__" stBridge_init := by
  refine F.make0 (sp0 := spBridge0 G) T.Bridge scBridge_init (fun _ _ _ _ _ _ us hl => match us, hl with | [_, _, _, _, _], _ => rfl) (fun vs H Q E h => ?_) (conv_bridge G) (fun f cdv A outer s H vs Q E hr h => ?_)
  · obtain ⟨a, dx, way, kinds, o, p, rfl, _⟩ := h
    rfl
  obtain ⟨a, dx, way, kinds, o, p, rfl, hx, q⟩ := h
  have hu := hu_of hr
  have nd := scBridge_init.nd
  refine ⟨_, (pss_cons (ps_flK (K := K) rfl (pv 0) (pv 1) rfl)
      (pss_cons (ps_flK (K := K) rfl (pv 0) (pv 2) rfl)
      (pss_cons (ps_flK (K := K) rfl (pv 0) (pv 3) rfl)
      (pss_one (ps_flK (K := K) rfl (pv 0) (pv 4) rfl))))), ?_⟩
  refine s_start [some _, some _, some _, some _, some _] rfl ?_
  walk_at "go"
  refine v_sfld hx T.Bridge.cl T.nGw (by decide) fun H1 s1 e1 => ?_
  walk_at "go"
  refine v_sfld e1 T.Bridge.cl T.nGk (by show 1 < 1000; decide) fun H2 s2 e2 => ?_
  walk_at "go"
  refine v_sfld e2 T.Bridge.cl T.nG1 (by show 2 < 1000; decide) fun H3 s3 e3 => ?_
  walk_at "go"
  refine v_sfld e3 T.Bridge.cl T.nG2 (by show 3 < 1000; decide) fun H4 s4 e4 => ?_
  exact q H4 (fun b o hb nb => s4 _ _ (s3 _ _ (s2 _ _ (s1 _ _ hb nb) nb) nb) nb) ⟨dx, e4⟩
abbrev stBridge_eq : Stmt := (inClass (top 36) 1)
abbrev NBridge_eq : List Str := ["self", "other"]
theorem scBridge_eq : FnScope NBridge_eq ["self", "other"] (defScope stBridge_eq) := ⟨rfl, rfl, rfl, by decide +kernel, rfl, by decide +kernel, by decide +kernel⟩

theorem ok_Bridge_eq (F : MAt K G "__eq__" "Bridge.__eq__" stBridge_eq) (T : TxtBr K mg C R O B G) (M_Block_eq : MDef P w K mg base CX0 3 B "__eq__" ["self", "other"] (spBlockEq C R B)) : MDef P w K mg base CX0 5 G "__eq__" ["self", "other"] (spBridgeEq C R B G) := by
  refine F.ok scBridge_eq (fun _ _ _ _ _ _ us hl => match us, hl with | [_, _], _ => rfl) (fun vs H Q E h => ?_) (fun f cdv A outer s H vs Q E hr h => ?_)
  · obtain ⟨a, b, w1, k, o, p, w', k', o', p', e1, e2, rfl, _⟩ := h
    rfl
  obtain ⟨a, b, w1, k, o, p, w', k', o', p', e1, e2, rfl, ⟨dx, g1⟩, ⟨dy, g2⟩, q1, q2, q⟩ := h
  have hu := hu_of hr
  have nd := scBridge_eq.nd
  refine ⟨_, (pss_one (ps_ret (pe_and (pe_callB (c_isiK (K := K) rfl) (by rfl) T.isinstance (by decide +kernel) (pa_cons (pv 1) (pa_cons (pe_globC T.Bridge.at) pa_nil))) (pe_one (pe_cmpR (op_eqLB mon_brq (eq_brq M_Block_eq pass0) hr) (pe_lst (pa_cons (pe_flK (K := K) rfl (pv 0) rfl) (pa_cons (pe_flK (K := K) rfl (pv 0) rfl) (pa_cons (pe_flK (K := K) rfl (pv 0) rfl) pa_nil)))) (pe_lst (pa_cons (pe_flK (K := K) rfl (pv 1) rfl) (pa_cons (pe_flK (K := K) rfl (pv 1) rfl) (pa_cons (pe_flK (K := K) rfl (pv 1) rfl) pa_nil)))) (nomark _)))))), ?_⟩
  refine s_start [some _, some _] rfl ?_
  walk_at "go"
  refine v_isiC T.Bridge g2 ?_
  walk_at "go"
  refine v_fld g1 T.Bridge.cl T.nGw briF_w ?_
  walk_at "go"
  refine v_fld g1 T.Bridge.cl T.nG1 briF_1 ?_
  walk_at "go"
  refine v_fld g1 T.Bridge.cl T.nG2 briF_2 ?_
  walk_at "go"
  intro p1 H1 hp1 s1 f1
  walk_at "go"
  refine v_fld (s1 _ _ g2) T.Bridge.cl T.nGw briF_w ?_
  walk_at "go"
  refine v_fld (s1 _ _ g2) T.Bridge.cl T.nG1 briF_1 ?_
  walk_at "go"
  refine v_fld (s1 _ _ g2) T.Bridge.cl T.nG2 briF_2 ?_
  walk_at "go"
  intro p2 H2 hp2 s2 f2
  have s12 := s1.trans s2
  have ob : ∀ {o o' : Addr} {e : Bool}, BEq C R B o o' H e → DObj B (BEq C R B) (.ref o) (.ref o') H2 e := by
    rintro o o' e h
    have h2 := h.same s12
    obtain ⟨r1, x, kk, m, v, r', y, kk', n, v', e0, h1, h3, h4, h5⟩ := id h2
    obtain ⟨dq, eq⟩ := h1.ex
    obtain ⟨dr, er⟩ := h3.ex
    exact ⟨o, o', dq, dr, _, _, rfl, rfl, eq, er, h2, fun z => by subst z; exact h2.self⟩
  refine ⟨p1, p2, _, _, fun i => if i = 0 then decide (w1 = w') else if i = 1 then e1 else e2, rfl, rfl, s2 _ _ f1, f2, ⟨rfl, fun i u v hu' hv => ?_⟩, fun H' ex => ?_⟩
  · match i, hu', hv with
    | 0, hu', hv =>
      cases hu'
      cases hv
      exact .inl ⟨w1, w', rfl, rfl, rfl⟩
    | 1, hu', hv =>
      cases hu'
      cases hv
      exact .inr (ob q1)
    | 2, hu', hv =>
      cases hu'
      cases hv
      exact .inr (ob q2)
    | i + 3, hu', hv => simp at hu'
  · have z := q H' (s12.trans ex)
    have e3 : (List.range [V.str (tx w1), .ref o, .ref p].length).all (fun i => if i = 0 then decide (w1 = w') else if i = 1 then e1 else e2) = (decide (w1 = w') && (e1 && e2)) := by
      show ([0, 1, 2] : List Nat).all _ = _
      simp only [List.all_cons, List.all_nil, Bool.and_true]
      rfl
    rw [e3]
    exact z
theorem ok_Bridge_no (F : MAt K G "__eq__" "Bridge.__eq__" stBridge_eq) (T : TxtBr K mg C R O B G) (kf : PySem.W.kitOne K (.ref B) (.ref G) = some false) (M_Block_eq : MDef P w K mg base CX0 3 B "__eq__" ["self", "other"] (spBlockEq C R B)) : MDef P w K mg base CX0 5 G "__eq__" ["self", "other"] (spBridgeNo B G) := by
  refine F.ok scBridge_eq (fun _ _ _ _ _ _ us hl => match us, hl with | [_, _], _ => rfl) (fun vs H Q E h => ?_) (fun f cdv A outer s H vs Q E hr h => ?_)
  · obtain ⟨a, b, dx, dy, fs, gs, rfl, _⟩ := h
    rfl
  obtain ⟨a, b, dx, dy, fs, gs, rfl, g1, g2, q⟩ := h
  have hu := hu_of hr
  have nd := scBridge_eq.nd
  refine ⟨_, (pss_one (ps_ret (pe_and (pe_callB (c_isiK (K := K) rfl) (by rfl) T.isinstance (by decide +kernel) (pa_cons (pv 1) (pa_cons (pe_globC T.Bridge.at) pa_nil))) (pe_one (pe_cmpR (op_eqLB mon_brq (eq_brq M_Block_eq pass0) hr) (pe_lst (pa_cons (pe_flK (K := K) rfl (pv 0) rfl) (pa_cons (pe_flK (K := K) rfl (pv 0) rfl) (pa_cons (pe_flK (K := K) rfl (pv 0) rfl) pa_nil)))) (pe_lst (pa_cons (pe_flK (K := K) rfl (pv 1) rfl) (pa_cons (pe_flK (K := K) rfl (pv 1) rfl) (pa_cons (pe_flK (K := K) rfl (pv 1) rfl) pa_nil)))) (nomark _)))))), ?_⟩
  refine s_start [some _, some _] rfl ?_
  walk_at "go"
  refine ⟨.ref b, .ref G, .ref B, .ref G, false, rfl, .own G, .base (.ins g2 T.Block.cl T.Block.ha T.Block.hn T.Block.ht T.Block.hm), kf, ?_⟩
  walk_at "go"
  exact q
end
/-- two blocks, each on a drawn floor of the same kind, their plans alike or not -/
def spBri (C R B O G : Addr) : Sp := fun vs H Q E => ∃ (a r x b r' y : Addr) (ls : List Nat) (fn : Nat → List Nat) (N A' k' m' : List Nat) (v' : V) (e : Bool) (L : Nat), vs = [.ref a, .ref b] ∧ BlkF C R B H a r x ls fn N A' ∧ Fl ls fn ∧ BlockAt B R H b r' y k' m' v' ∧ Plans2 C H x y e ∧ (e = false → E (.ref O) none H) ∧
  (e = true → BlkF C R B H b r' y ls fn m' k' ∧ (wayC fn N m').length ≤ L ∧ N.length + L ≤ 900 ∧ m'.length + L ≤ 900 ∧ ∀ (g o p r1 r2 : Addr) (h t : List Nat) H', H g = none → Same H H' → Bri fn ls A' k' N m' h t → (wayC fn h t).length ≤ L → h.length ≤ N.length + L → BriAt G H' g (wayC fn h t) (dueL fn A' k' (wayC fn h t)) o p → BlkF C R B H' o r1 x ls fn (baseC fn (dueL fn A' k' (wayC fn h t)) h) (dueL fn A' k' (wayC fn h t)) → BlkF C R B H' p r2 y ls fn (baseC fn (dueL fn A' k' (wayC fn h t)) t) (dueL fn A' k' (wayC fn h t)) → Q (.ref g) H')
theorem plans_of25 {C : Addr} {H : Hp} {x y : Addr} {ls : List Nat} {fn : Nat → List Nat} (h1 : PlanAt C H x (ascOf ls) (tabPairs ls fn)) (h2 : PlanAt C H y (ascOf ls) (tabPairs ls fn)) : Plans2 C H x y true := ⟨_, _, _, _, h1, h2, pairsOf_small _, pairsOf_small _, (decide_eq_true ⟨rfl, rfl⟩).symm⟩
theorem way_rest25 {f : Nat → List Nat} (ok : CrOk f) (A N M : List Nat) : (wayC f M (nameOf f (N ++ (splitA f A (wayC f N M)).1))).length ≤ (wayC f N M).length := by
  have cl := splitA_len f (wayC f N M) A
  have ca := fun g => splitA_act ok g (wayC f N M) A
  generalize (splitA f A (wayC f N M)).1 = c at *
  generalize (splitA f A (wayC f N M)).2 = r at *
  have al1 : Alike f (c ++ r) (wayC f N M) := ca
  have al2 : Alike f (M.reverse ++ nameOf f (N ++ c)) r.reverse := by
    refine fun g => ?_
    have z := (al1.trans (way_alike ok N M)).rev ok
    rw [act_app, name_act ok, act_app]
    have z2 := z (act f c g)
    rw [List.reverse_append, act_app, act_rev ok, List.reverse_append, List.reverse_reverse, act_app] at z2
    exact z2.symm
  show (nameOf f (M.reverse ++ nameOf f (N ++ c))).length ≤ _
  rw [al2.name ok]
  have := name_len f r.reverse
  rw [List.length_reverse] at this
  omega
section
variable {P : Program} {w : World} {K : PySem.W.Frag} {mg : Str → Option Value} {base : Heap} {C R O B G : Addr}
abbrev stbridge : Stmt := (top 37)
abbrev Nbridge : List Str := ["one", "other", "here", "there", "way", "both", "kinds", "kind", "step"]
theorem scbridge : FnScope Nbridge ["one", "other"] (defScope stbridge) := ⟨rfl, rfl, rfl, by decide +kernel, rfl, by decide +kernel, by decide +kernel⟩

theorem ok_bridge (F : FnAt K mg "bridge" stbridge) (T : TxtBr K mg C R O B G) (D_need_same : Def P w K mg base (L2.CX P w) 3 "need_same" ["plan", "other"] (spNeedSame C O)) (M_Block_nearest : MDef P w K mg base CX0 6 B "nearest" ["self", "room"] (calmOf (spNearestB C R B O))) (M_Room_way_to : MDef P w K mg base (L2.CX P w) 5 R "way_to" ["self", "other"] (spWayTo C R O)) (C_Block : CDef P w K mg base CX0 5 "Block" B (spBlock C R B)) (C_Bridge : CDef P w K mg base CX0 1 "Bridge" G (spBridge G)) :
    Def P w K mg base (L2.CX P w) 7 "bridge" ["one", "other"] (spBri C R B O G) := by
  refine F.okX scbridge (fun _ _ _ _ _ _ us hl => match us, hl with | [_, _], _ => rfl) (fun vs H Q E h => ?_) (fun f cdv A outer s H vs Q E hr h => ?_)
  · obtain ⟨a, r, x, b, r', y, ls, fn, N, A', k', m', v', e, L, rfl, _⟩ := h
    rfl
  obtain ⟨a, r, x, b, r', y, ls, fn, N, A', k', m', v', e, L, rfl, hb, fl, hb2, pp, q1, q2⟩ := h
  have hu := hu_of hr
  have nd := scbridge.nd
  replace D_need_same := D_need_same.mono (show 3 ≤ 6 by decide)
  replace M_Room_way_to := M_Room_way_to.mono (show 5 ≤ 6 by decide)
  replace C_Bridge := C_Bridge.mono (show 1 ≤ 5 by decide)
  refine ⟨_, (pss_cons (ps_expr (pe_cd D_need_same hr (passes_call (takes_of rfl rfl rfl rfl) (fun _ _ _ _ h => h)) (pa_cons (pe_flK (K := K) rfl (pv 0) rfl) (pa_cons (pe_flK (K := K) rfl (pv 1) rfl) pa_nil))))
      (pss_cons (ps_set (i := 2) nd rfl (Or.inl rfl) (pe_md M_Block_nearest T.Block.cl hr pass0 (pv 0) (pa_cons (pe_flK (K := K) rfl (pv 1) rfl) pa_nil)))
      (pss_cons (ps_set (i := 3) nd rfl (Or.inl rfl) (pe_md M_Block_nearest T.Block.cl hr pass0 (pv 1) (pa_cons (pv 2) pa_nil)))
      (pss_cons (ps_set (i := 4) nd rfl (Or.inr rfl) (pe_md M_Room_way_to T.Room.cl hr (passes_call (takes_of rfl rfl rfl rfl) (fun _ _ _ _ h => h)) (pv 2) (pa_cons (pv 3) pa_nil)))
      (pss_cons (ps_setLc (i := 5) (own := [("kind", 7)]) (g := gName 7) (by rfl) nd rfl rfl (sw_true rfl rfl rfl (by decide +kernel)) (pi_str (pe_flK (K := K) rfl (pv 0) rfl)) (blkOk_by (own := [("kind", 7)]) (N := Nbridge) (sc := defScope stbridge) (by decide +kernel)) (fun _ _ _ _ _ => (pg_name (i := 7) nd rfl (Or.inl rfl))) (fun _ _ _ _ _ => (pts_one (pt_cmpR op_inS (pv 7) (pe_flK (K := K) rfl (pv 1) rfl) (by rfl)))) (fun _ _ _ _ _ => (pv 7)))
      (pss_cons (ps_set (i := 6) nd rfl (Or.inl rfl) (pe_joinK (K := K) rfl (pe_tx [] (by decide +kernel)) (pe_lc (own := [("kind", 7)]) (g := gName 7) (by rfl) nd (pi_listK (K := K) rfl (pv 5)) (blkOk_by (own := [("kind", 7)]) (N := Nbridge) (sc := defScope stbridge) (by decide +kernel)) (fun _ _ _ _ _ => (pg_name (i := 7) nd rfl (Or.inr rfl))) (fun _ _ _ _ _ => (pts_one (pt_val (pe_callB (c_allK (K := K) rfl rfl) (by rfl) T.all (by decide +kernel) (pa_cons (pe_lc (own := [("step", 8)]) (g := gName 8) (by rfl) nd (pi_str (pv 4)) (blkOk_by (own := [("step", 8)]) (N := Nbridge) (sc := { kind := .function, names := [(".0", .local), ("kind", .cell), ("all", .globalImplicit), ("one", .cell), ("way", .cell)], isGenerator := false, isCoroutine := false }) (by decide +kernel)) (fun _ _ _ _ _ => (pg_name (i := 8) nd rfl (Or.inl rfl))) (fun _ _ _ _ _ => pts_nil) (fun _ _ _ _ _ => (pe_cmpR op_inS (pv 8) (pe_dget hu (pe_flK (K := K) rfl (pe_flK (K := K) rfl (pv 0) rfl) rfl) (pv 7) (fun _ _ => rfl)) (by rfl)))) pa_nil))))) (fun _ _ _ _ _ => (pv 7)))))
      (pss_one (ps_ret (pe_mk C_Bridge hr pass0 (pa_cons (pv 4) (pa_cons (pv 6) (pa_cons (pe_mk C_Block hr pass0 (pa_cons (pv 2) (pa_cons (pv 6) pa_nil))) (pa_cons (pe_mk C_Block hr pass0 (pa_cons (pv 3) (pa_cons (pv 6) pa_nil))) pa_nil))))))))))))), ?_⟩
  refine s_start [some _, some _, none, none, none, none, none, none, none] rfl ?_
  obtain ⟨⟨dx, g1⟩, ro1⟩ := hb.blk
  obtain ⟨⟨dy, g2⟩, ro2⟩ := hb2
  walk_at "go"
  refine v_fld g1 T.Block.cl T.nBp blockF_p ?_
  walk_at "go"
  refine v_fld g2 T.Block.cl T.nBp blockF_p ?_
  walk_at "go"
  refine ⟨x, y, e, rfl, pp, fun he => ?_, fun he => q1 he⟩
  obtain ⟨hb2, wl, ln1, ln2, q⟩ := q2 he
  subst he
  walk_at "go"
  have nbn : ∀ {x r : Addr} {kinds : List Nat} {v : V}, (blockF x kinds r v).lookup ("nearest" : Str) = none := fun {_ _ _ _} => blockF_no (by decide +kernel) (by decide +kernel) (by decide +kernel) (by decide +kernel)
  refine v_md g1 nbn ?_
  walk_at "go"
  refine v_fld g2 T.Block.cl T.nBr blockF_r ?_
  walk_at "go"
  refine ⟨a, r, x, r', y, ls, fn, N, A', m', true, rfl, hb, fl, ro2, pp, fun _ => ⟨hb2.mn, hb2.ln, by omega, fun rh H1 hrh s1 roh => ?_⟩, (fun z => nomatch z)⟩
  walk_at "go"
  refine v_md (s1 _ _ g2) nbn ?_
  walk_at "go"
  have ok := fl.ok
  have lA := hb.lk fl
  have lB := hb2.lk fl
  have wr := way_rest25 ok A' N m'
  have wr2 := way_rest25 ok k' m' (nameOf fn (N ++ (splitA fn A' (wayC fn N m')).1))
  have br : Bri fn ls A' k' N m' (nameOf fn (N ++ (splitA fn A' (wayC fn N m')).1)) (nameOf fn (m' ++ (splitA fn k' (wayC fn m' (nameOf fn (N ++ (splitA fn A' (wayC fn N m')).1)))).1)) := bri_of ok hb.mn hb2.mn hb.mK hb2.mK rfl rfl
  have lh : (nameOf fn (N ++ (splitA fn A' (wayC fn N m')).1)).length ≤ N.length + L := by
    have a1 := name_len fn (N ++ (splitA fn A' (wayC fn N m')).1)
    have a2 := splitA_len fn (wayC fn N m') A'
    rw [List.length_append] at a1
    omega
  generalize nameOf fn (N ++ (splitA fn A' (wayC fn N m')).1) = hh at *
  have b2 : BlkF C R B H1 b r' y ls fn m' k' := hb2.same s1
  refine ⟨b, r', y, rh, x, ls, fn, m', k', hh, true, rfl, b2, fl, roh, plans_of25 b2.pl (hb.pl.same s1), fun _ => ⟨br.mh, by omega, by omega, fun rt H2 hrt s2 rot => ?_⟩, (fun z => nomatch z)⟩
  have lt : (nameOf fn (m' ++ (splitA fn k' (wayC fn m' hh)).1)).length ≤ 900 := by
    have a1 := name_len fn (m' ++ (splitA fn k' (wayC fn m' hh)).1)
    have a2 := splitA_len fn (wayC fn m' hh) k'
    rw [List.length_append] at a1
    omega
  generalize nameOf fn (m' ++ (splitA fn k' (wayC fn m' hh)).1) = tt at *
  have roh2 := roh.same s2
  obtain ⟨dh, fh⟩ := roh2.ex
  obtain ⟨dt, ft⟩ := rot.ex
  have s12 := s1.trans s2
  have px := hb.pl.same s12
  have py := hb2.pl.same s12
  walk_at "go"
  refine v_md fh (roomF_no (by decide +kernel) (by decide +kernel)) ?_
  walk_at "go"
  refine ⟨rh, x, hh, rt, y, tt, true, _, _, rfl, ⟨roh2, rot, plans_of25 px py, by omega, by omega⟩, px, inAsc fl.tab br.mh, fun _ => inAsc fl.tab br.mt, fun _ => ?_, (fun z => nomatch z)⟩
  rw [way_any16 fl br.mh br.mt]
  have lw : (wayC fn hh tt).length ≤ L := by omega
  have mw := way_in25 (f := fn) br.mh br.mt
  walk_at "go"
  refine v_fld (s12 _ _ g1) T.Block.cl T.nBk blockF_k ?_
  walk_at "go"
  refine v_lcS (l := A') (b := fun c => decide (c ∈ k')) (f := fun c => V.str (tx [c])) (by omega) (fun c _ H3 s3 R r => ?_) (fun c _ _ H3 s3 R r => ?_) (fun D H3 hD s3 e3 => ?_)
  · walk_at "go"
    refine v_fld (s3 _ _ (s12 _ _ g2)) T.Block.cl T.nBk blockF_k ?_
    walk_at "go"
    exact r H3 (Same.refl _)
  · walk_at "go"
    exact r H3 (Same.refl _)
  walk_at "go"
  have s13 := s12.trans s3
  obtain ⟨dpx, tp, dd, a1, a2, a3⟩ := (px.same s3).ex
  have lAB : (A'.filter fun c => decide (c ∈ k')).length ≤ 8 := Nat.le_trans (List.length_filter_le _ _) lA
  refine vals_some (ls := A'.filter fun c => decide (c ∈ k')) (it := fun c => V.str (tx [c])) (f := fun c => V.str (tx [c])) (b := fun c => (wayC fn hh tt).all fun y => decide (y ∈ fn c)) (walk_listM (f := fun c => V.str (tx [c]))) (fun H' s' => SqL.of (s' _ _ e3)) (by omega) (fun c hc H4 s4 R r => ?_) (fun c hc _ H4 s4 R r => ?_) (fun D2 H4 hD2 s4 e4 => ?_)
  · have hcl : c ∈ ls := hb.mK c (List.mem_filter.mp hc).1
    walk_at "go"
    refine v_lcS (l := wayC fn hh tt) (b := fun _ => true) (f := fun y => V.bl (decide (y ∈ fn c))) (by omega) (fun y _ H5 s5 R' r' => ?_) (fun y hy _ H5 s5 R' r' => ?_) (fun D5 H5 hD5 s5 e5 => ?_)
    · exact r' H5 (Same.refl _)
    · walk_at "go"
      refine v_fld (s5 _ _ (s4 _ _ (s13 _ _ g1))) T.Block.cl T.nBp blockF_p ?_
      walk_at "go"
      refine v_fld (s5 _ _ (s4 _ _ a1)) T.Plan.cl T.nO planF_o ?_
      walk_at "go"
      have hca : c ∈ ascOf ls := inAsc (a := [c]) fl.tab (by simpa using hcl) c (by simp)
      refine v_dget (dget_let (g := fun k => V.str (tx (crossOf (ascOf ls) (tabPairs ls fn) k))) (s5 _ _ (s4 _ _ a3)) hca) ?_
      walk_at "go"
      rw [show decide (y ∈ crossOf (ascOf ls) (tabPairs ls fn) c) = decide (y ∈ fn c) from decide_eq_decide.mpr (cross_tab fl.tab hcl (mw y hy))]
      exact r' H5 (Same.refl _)
    have e6 : H5 D5 = some (.lst (((wayC fn hh tt).map fun y => decide (y ∈ fn c)).map V.bl)) := by
      rw [e5, filter_yes, List.map_map]
      rfl
    walk_at "go"
    refine v_all e6 ?_
    rw [List.all_map]
    exact ⟨_, rfl, r H5 s5⟩
  · walk_at "go"
    exact r H4 (Same.refl _)
  have e4' : H4 D2 = some (.lst (strsV ((dueL fn A' k' (wayC fn hh tt)).map fun c => [c]))) := by
    rw [e4, ← strs_ones]
    rfl
  have lD : (dueL fn A' k' (wayC fn hh tt)).length ≤ 8 := Nat.le_trans (List.length_filter_le _ _) lAB
  have mD : ∀ k ∈ dueL fn A' k' (wayC fn hh tt), k ∈ ls := fun k hk => hb.mK k (due_mem.mp hk).1
  have nD : (dueL fn A' k' (wayC fn hh tt)).Nodup := ((hb.nd fl).sublist List.filter_sublist).sublist List.filter_sublist
  have fD : (ls.filter fun k => decide (k ∈ dueL fn A' k' (wayC fn hh tt))) = dueL fn A' k' (wayC fn hh tt) := by
    refine Eq.symm ((congrArg (fun l : List Nat => (l.filter fun k => decide (k ∈ k')).filter fun k => (wayC fn hh tt).all fun y => decide (y ∈ fn k)) hb.as).trans ?_)
    show ((ls.filter fun k => decide (k ∈ A')).filter fun k => decide (k ∈ k')).filter (fun k => (wayC fn hh tt).all fun y => decide (y ∈ fn k)) = _
    rw [List.filter_filter, List.filter_filter]
    refine List.filter_congr fun k hk => ?_
    rw [Bool.eq_iff_iff, decide_eq_true_iff, due_mem, Bool.and_eq_true, Bool.and_eq_true, decide_eq_true_iff, decide_eq_true_iff, List.all_eq_true]
    simp only [decide_eq_true_iff]
    exact ⟨fun z => ⟨z.2, z.1.2, z.1.1⟩, fun z => ⟨⟨z.2.2, z.2.1⟩, z.1⟩⟩
  walk_at "go"
  refine v_join e4' (by rw [flat_ones]; omega) ?_
  rw [flat_ones]
  walk_at "go"
  refine sp_block fl (roh2.same (s3.trans s4)) (px.same (s3.trans s4)) br.nh br.mh (by omega) mD nD fun o r1 H5 ho5 s5 bo => ?_
  rw [fD] at bo
  walk_at "go"
  refine sp_block fl ((rot.same (s3.trans s4)).same s5) ((py.same (s3.trans s4)).same s5) br.nt br.mt (by omega) mD nD fun p r2 H6 hp6 s6 bp => ?_
  rw [fD] at bp
  walk_at "go"
  refine ⟨_, _, o, p, rfl, fun g H7 hg7 s7 bg => ?_⟩
  have sf := ((((s12.trans s3).trans s4).trans s5).trans s6)
  exact q g o p r1 r2 hh tt H7 (L2.Same.free sf hg7) (sf.trans s7) br lw lh bg ((bo.same s6).same s7) (bp.same s7)
end
end
section
open PySem PySem.Spec L2
def spFar : Sp := fun vs H Q _ => ∃ (d : Addr) (ls : List Nat) (f : Nat → List Nat) (v w : List Nat), vs = [.ref d, .str (tx v), .str (tx w)] ∧ H d = some (.dK (tabKV ls f)) ∧ Fl ls f ∧ (∀ c ∈ v, c ∈ ls) ∧ (∀ c ∈ w, c ∈ ls) ∧ v.length ≤ 4000 ∧ w.length ≤ 4000 ∧ ∀ H', Same H H' → Q (.int (nameOf f (v.reverse ++ w)).length) H'
section
variable {P : Program} {w : World} {K : PySem.W.Frag} {mg : Str → Option Value} {base : Heap}
abbrev stfar : Stmt := (top 60)
abbrev Nfar : List Str := ["_law_table", "_law_first", "_law_second"]
theorem scfar : FnScope Nfar ["_law_table", "_law_first", "_law_second"] (defScope stfar) := ⟨rfl, rfl, rfl, by decide +kernel, rfl, by decide +kernel, by decide +kernel⟩

theorem ok_far (F : FnAt K mg "_law_far" stfar) (T : Txt K mg) (D_name : Def P w K mg base CX0 3 "_law_name" ["_law_table", "_law_walk_here"] spName) : Def P w K mg base CX0 4 "_law_far" ["_law_table", "_law_first", "_law_second"] spFar := by
  refine F.ok scfar (fun _ _ _ _ _ _ us hl => match us, hl with | [_, _, _], _ => rfl) (fun vs H Q E h => ?_) (fun f cdv A outer s H vs Q E hr h => ?_)
  · obtain ⟨d, ls, f, v, w, rfl, _⟩ := h
    rfl
  obtain ⟨d, ls, fn, u, v, rfl, hd, fl, mu, mv, lu, lv, q⟩ := h
  have hu := hu_of hr
  have nd := scfar.nd
  refine ⟨_, (pss_one (ps_ret (pe_callB c_lenS (by rfl) T.len PySem.boot_len (pa_cons (pe_cd D_name hr pass0 (pa_cons (pv 0) (pa_cons (pe_op op_addS (pe_revS (pv 1)) (pv 2)) pa_nil))) pa_nil)))), ?_⟩
  refine s_start [some _, some _, some _] rfl ?_
  walk_at "go"
  · rw [List.length_reverse]
    omega
  walk_at "go"
  have m : ∀ c ∈ u.reverse ++ v, c ∈ ls := fun c hc => (List.mem_append.mp hc).elim (fun z => mu c (List.mem_reverse.mp z)) (mv c)
  refine sp_name fl hd m (by rw [List.length_append, List.length_reverse]; omega) fun H2 s2 => ?_
  have nl : (nameOf fn (u.reverse ++ v)).length ≤ _ := name_len fn _
  rw [List.length_append, List.length_reverse] at nl
  walk_at "go"
  · show (nameOf fn (u.reverse ++ v)).length ≤ 1000000
    omega
  walk_at "go"
  exact q H2 s2
end
end
section
open PySem PySem.Spec L2
end
section
open PySem PySem.Spec L2
theorem v_eqNil16 {K : PySem.W.Frag} {H : Hp} {Q : VK} {p q : Addr} {xs : List (List Nat)} (h1 : H p = some (.lst (xs.map fun l => V.str (tx l)))) (hx : ∀ l ∈ xs, ∀ c ∈ l, c < 1000) (h2 : H q = some (.lst [])) (k : Q (.bl xs.isEmpty) H) : rEqD K (.ref p) (.ref q) H Q := by
  have h1' : H p = some (.lst ((xs.map tx).map V.str)) := by
    rw [h1, List.map_map]
    rfl
  refine ⟨.list ((xs.map tx).map PyData.str), .list ((([] : List (List Nat)).map tx).map PyData.str), .lst (SqL.of h1') (dp_strs _), .lst (SqL.of h2) (dp_strs []), shaped_strs _ (ok_strs hx), shaped_strs _ (ok_strs fun _ z => nomatch z), ?_⟩
  have e : PyData.eqv (.list ((xs.map tx).map PyData.str)) (.list ((([] : List (List Nat)).map tx).map PyData.str)) = xs.isEmpty := by
    show PyData.eqvAll _ _ = _
    rw [eqvAll_strs]
    cases xs with
    | nil => rfl
    | cons a r => rfl
  rw [e]
  exact k
def spClique : Sp := fun vs H Q _ => ∃ (g : Pen) (n : Nat) (d : Addr) (ls : List Nat) (f : Nat → List Nat) (num : Nat), vs = [.ref g.p, .ref d, .int num] ∧ PenAt g H n ∧ n < 800000 ∧ d ≠ g.p ∧ H d = some (.dK (tabKV ls f)) ∧ Tab ls f ∧ 0 < ls.length ∧ 0 < num ∧ num ≤ 900 ∧
  ∀ (G : List Nat) H', G.Nodup → (∀ a ∈ G, a ∈ ls) → (∀ a ∈ G, ∀ b ∈ G, a ≠ b → a ∈ f b) → G.length ≤ num → G ≠ [] → PenAt g H' (n + ls.length) → Keep g.p H H' → Q (.str (tx G)) H'
section
variable {P : Program} {w : World} {K : PySem.W.Frag} {mg : Str → Option Value} {base : Heap} {C R O W : Addr}
abbrev stclique : Stmt := (top 61)
abbrev Nclique : List Str := ["_law_pen_here", "_law_table", "_law_number", "_law_found", "_law_item", "_law_peer"]
theorem scclique : FnScope Nclique ["_law_pen_here", "_law_table", "_law_number"] (defScope stclique) := ⟨rfl, rfl, rfl, by decide +kernel, rfl, by decide +kernel, by decide +kernel⟩

theorem ok_clique (F : FnAt K mg "_law_clique" stclique) (T : TxtR K mg C R O) (D_shuffled : Def P w K mg base CX0 2 "_law_shuffled" ["_law_pen_here", "_law_items"] spShuffled) : Def P w K mg base CX0 3 "_law_clique" ["_law_pen_here", "_law_table", "_law_number"] spClique := by
  refine F.ok scclique (fun _ _ _ _ _ _ us hl => match us, hl with | [_, _, _], _ => rfl) (fun vs H Q E h => ?_) (fun ff cdv A outer s H vs Q E hr h => ?_)
  · obtain ⟨g, n, d, ls, f, num, rfl, _⟩ := h
    rfl
  obtain ⟨g, n, d, ls, f, num, rfl, hp, hn, hdp, hd, tab, l0, n0, nl, k⟩ := h
  have hu := hu_of hr
  have nd := scclique.nd
  have tl := tab.len
  refine ⟨_, (pss_cons (ps_set (i := 3) nd rfl (Or.inl rfl) (pe_tx [] (by decide +kernel)))
      (pss_cons (ps_for PassesOwn.never rfl (pi_listK (K := K) rfl (pe_cd D_shuffled hr pass0 (pa_cons (pv 0) (pa_cons (pe_callTy (call_list_dK rfl) (by rfl) T.list (by decide +kernel) (pa_cons (pv 1) pa_nil)) pa_nil)))) (pg_name (i := 4) nd rfl (Or.inr rfl))
      (pss_one (ps_if (PW.pt (pw_and (pt_cmpR op_lt (pe_callB c_lenS (by rfl) T.len PySem.boot_len (pa_cons (pv 3) pa_nil)) (pv 2) (nomark _)) (pw_and1 (pt_cmpR (op_eqDK (K := K) rfl hr.units) (pe_lc (own := [("_law_peer", 5)]) (g := gName 5) (by rfl) nd (pi_str (pv 3)) (blkOk_by (own := [("_law_peer", 5)]) (N := Nclique) (sc := defScope stclique) (by decide +kernel)) (fun _ _ _ _ _ => (pg_name (i := 5) nd rfl (Or.inl rfl))) (fun _ _ _ _ _ => (pts_one (pt_cmpR op_notInS (pv 5) (pe_dget hu (pv 1) (pv 4) (fun _ _ => rfl)) (by rfl)))) (fun _ _ _ _ _ => (pv 5))) (pe_lst pa_nil) (nomark _)))))
        (pss_one (ps_set (i := 3) nd rfl (Or.inl rfl) (pe_op op_addS (pv 3) (pv 4))))
        pss_nil)))
      (pss_one (ps_ret (pv 3))))), ?_⟩
  refine s_start [some _, some _, some _, none, none, none] rfl ?_
  walk_at "go"
  refine v_listD hd fun q H1 hq s1 e1 => ?_
  walk_at "go"
  have hd1 := s1 _ _ hd
  have p1 := hp.same s1
  have e1' : H1 q = some (.lst (ls.map fun c => V.str (tx [c]))) := by
    rw [e1]
    unfold tabKV
    rw [List.map_map]
    rfl
  refine ⟨g, n, q, ls, rfl, e1', by omega, fun c hc => ?_, p1, by omega, fun l ys H2 hl pm e2 p2 k2 => ?_⟩
  · have := LET_lt (tab.lt c hc)
    omega
  refine ⟨l, rfl, ⟨_, SqL.of e2⟩, ?_⟩
  refine for_it walk_list (fun i σ H' => ∃ x4 G, σ = [some (.ref g.p), some (.ref d), some (.int num), some (.str (tx G)), x4, none] ∧ Same H2 H' ∧ G.Nodup ∧ (∀ a ∈ G, a ∈ ys.take i) ∧ (∀ a ∈ G, ∀ b ∈ G, a ≠ b → a ∈ f b) ∧ G.length ≤ num ∧ (0 < i → G ≠ [])) ⟨_, [], rfl, Same.refl _, List.nodup_nil, (fun _ z => nomatch z), (fun _ z => nomatch z), Nat.zero_le _, fun z => absurd z (Nat.lt_irrefl 0)⟩ (fun i σ H' _ ⟨_, _, _, s, _⟩ => SqL.of (s _ _ e2)) ?_ ?_
  · rintro i v σ H3 H4 hi ⟨x4, G, rfl, s3, g1, g2, g3, g4, g5⟩ ⟨rfl, ev⟩
    have hi' : i < ys.length := by simpa using hi
    have hc : ys[i] ∈ ls := pm.subset (List.getElem_mem hi')
    have ev' : v = V.str (tx [ys[i]]) := by
      rw [List.getElem?_map, List.getElem?_eq_getElem hi'] at ev
      injection ev with ev
      exact ev.symm
    subst ev'
    have tk : ys.take (i + 1) = ys.take i ++ [ys[i]] := List.take_succ_eq_append_getElem hi'
    have yn : ys.Nodup := pm.nodup_iff.mpr tab.nd
    have nin : ys[i] ∉ G := fun z => by
      have z2 := g2 _ z
      have q : (ys.take (i + 1)).Nodup := List.Nodup.sublist (List.take_sublist _ _) yn
      rw [tk] at q
      exact (List.nodup_append.mp q).2.2 _ z2 _ (List.mem_singleton.mpr rfl) rfl
    have g2' : ∀ a ∈ G, a ∈ ys.take (i + 1) := fun a ha => by
      rw [tk]
      exact List.mem_append_left _ (g2 a ha)
    generalize ys[i] = c at *
    have hd4 : H4 d = some (.dK (tabKV ls f)) := s3 _ _ (k2 _ _ hd1 hdp)
    walk_at "go"
    refine if_dec (fun c1 => ?_) (fun c1 => ?_)
    · have c1' : G.length < num := by omega
      have lG : G.length ≤ 1000000 := by omega
      walk_at "go"
      refine v_lcS (l := G) (b := fun x => !decide (x ∈ f c)) (f := fun x => V.str (tx [x])) (by omega) (fun x hx H6 s6 R2 r2 => ?_) (fun x hx _ H6 s6 R2 r2 => ?_) (fun D2 H6 hD2 s6 e6 => ?_)
      · have dg6 := tab_get (f := f) (s6 _ _ hd4) hc
        walk_at "go"
        exact r2 H6 (Same.refl _)
      · walk_at "go"
        exact r2 H6 (Same.refl _)
      walk_at "go"
      intro D3 H7 hD3 s7 e7
      have e6' : H7 D2 = some (.lst (((G.filter fun x => !decide (x ∈ f c)).map fun x => [x]).map fun l => V.str (tx l))) := by
        rw [s7 _ _ e6, List.map_map]
        rfl
      refine v_eqNil16 e6' (fun l hl x hx => ?_) e7 ?_
      · obtain ⟨y, hy, rfl⟩ := List.mem_map.mp hl
        rw [List.mem_singleton.mp hx]
        have := LET_lt (tab.lt _ (pm.subset (List.take_subset _ _ (g2 y (List.mem_filter.mp hy).1))))
        omega
      rw [show ((G.filter fun x => !decide (x ∈ f c)).map fun x => [x]).isEmpty = (G.filter fun x => !decide (x ∈ f c)).isEmpty by cases G.filter fun x => !decide (x ∈ f c) <;> rfl]
      have s27 := s3.trans (s6.trans s7)
      walk_at "go"
      refine if_bool (fun c2 => ?_) (fun c2 => ?_)
      · have all : ∀ a ∈ G, a ∈ f c := fun a ha => Classical.byContradiction fun z => by
          have q : a ∈ G.filter fun x => !decide (x ∈ f c) := List.mem_filter.mpr ⟨ha, by simp [z]⟩
          rw [List.isEmpty_iff] at c2
          rw [c2] at q
          cases q
        walk_at "go"
        refine ⟨some (.str (tx [c])), G ++ [c], rfl, s27, ?_, ?_, ?_, ?_, ?_⟩
        · refine List.nodup_append.mpr ⟨g1, by simp, fun a ha b hb e => ?_⟩
          rw [List.mem_singleton.mp hb] at e
          exact nin (e ▸ ha)
        · intro a ha
          rcases List.mem_append.mp ha with z | z
          · exact g2' a z
          · rw [List.mem_singleton.mp z, tk]
            exact List.mem_append_right _ (List.mem_singleton.mpr rfl)
        · intro a ha b hb ne
          rcases List.mem_append.mp ha with z | z <;> rcases List.mem_append.mp hb with z2 | z2
          · exact g3 a z b z2 ne
          · rw [List.mem_singleton.mp z2]
            exact all a z
          · rw [List.mem_singleton.mp z]
            exact (tab.sub c hc b (all b z2)).2.2
          · exact absurd ((List.mem_singleton.mp z).trans (List.mem_singleton.mp z2).symm) ne
        · rw [List.length_append, List.length_singleton]
          omega
        · exact fun _ z => by simp at z
      · walk_at "go"
        refine ⟨_, G, rfl, s27, g1, g2', g3, g4, fun _ z => ?_⟩
        rw [z] at c2
        cases c2
    · walk_at "go"
      refine ⟨_, G, rfl, s3, g1, g2', g3, g4, fun _ z => ?_⟩
      rw [z] at c1
      exact c1 (by simpa using n0)
  rintro σ H3 ⟨x4, G, rfl, s3, g1, g2, g3, g4, g5⟩
  walk_at "go"
  have ly : ys.length = ls.length := pm.length_eq
  have l3 : ((ys.map fun c => V.str (tx [c])).length) = ls.length := by rw [List.length_map, ly]
  exact k G H3 g1 (fun a ha => pm.subset (List.take_subset _ _ (g2 a ha))) g3 g4 (g5 (by rw [l3]; exact l0)) (p2.same s3) fun b o hb nb => s3 _ _ (k2 _ _ (s1 _ _ hb) nb)
end
end
section
open PySem PySem.Spec L2
def spOnly : Sp := fun vs H Q _ => ∃ (d : Addr) (ls : List Nat) (fn : Nat → List Nat) (w A : List Nat), vs = [.ref d, .str (tx w), .str (tx A)] ∧ H d = some (.dK (tabKV ls fn)) ∧ Fl ls fn ∧ (∀ c ∈ w, c ∈ ls) ∧ w.length ≤ 9000 ∧ (∀ c ∈ nameOf fn w, c ∈ A) ∧ ∀ H', Same H H' → Q (.bl true) H'
def spSubset : Sp := fun vs H Q _ => ∃ (g : Pen) (n : Nat) (d : Addr) (ls : List Nat) (fn : Nat → List Nat), vs = [.ref g.p, .ref d] ∧ PenAt g H n ∧ n < 800000 ∧ d ≠ g.p ∧ H d = some (.dK (tabKV ls fn)) ∧ Tab ls fn ∧
  ∀ (A : List Nat) H', A.Nodup → (∀ a ∈ A, a ∈ ls) → PenAt g H' (n + 2 * ls.length) → Keep g.p H H' → Q (.str (tx A)) H'
/-- a block of the kinds D whose first room is right -/
def spIsNear (R B : Addr) : Sp := fun vs H Q _ => ∃ (d a r x : Addr) (ls : List Nat) (fn : Nat → List Nat) (D n s : List Nat) (v : V), vs = [.ref d, .ref a, .str (tx s), .str (tx D)] ∧ H d = some (.dK (tabKV ls fn)) ∧ Fl ls fn ∧ BlockAt B R H a r x D n v ∧ (∀ c ∈ n, c ∈ ls) ∧ (∀ c ∈ s, c ∈ ls) ∧ n.length + s.length ≤ 6000 ∧
  (∀ c ∈ nameOf fn (n.reverse ++ s), c ∈ D) ∧ (∀ c ∈ D, ¬ desc fn c (nameOf fn n).reverse) ∧ ∀ H', Same H H' → Q (.bl true) H'
def spIsRefusedB (C R B : Addr) : Sp := fun vs H Q _ => ∃ (a r x b r' y : Addr) (ls : List Nat) (fn : Nat → List Nat) (N A' k' m' : List Nat) (v' : V), vs = [.ref a, .ref b] ∧ BlkF C R B H a r x ls fn N A' ∧ Fl ls fn ∧ BlockAt B R H b r' y k' m' v' ∧ Plans2 C H x y false ∧ Q (.bl true) H
def spAlike (C R B G : Addr) : Sp := fun vs H Q _ => ∃ (a b : Addr) (w k : List Nat) (o p : Addr) (w' k' : List Nat) (o' p' : Addr) (e1 e2 : Bool), vs = [.ref a, .ref b] ∧ BriAt G H a w k o p ∧ BriAt G H b w' k' o' p' ∧ BEq C R B o o' H e1 ∧ BEq C R B p p' H e2 ∧ ∀ H', Same H H' → Q (.bl true) H'
theorem v_eqNN {K : PySem.W.Frag} {H : Hp} {Q : VK} {p q : Addr} (h1 : H p = some (.lst [])) (h2 : H q = some (.lst [])) (k : Q (.bl true) H) : rEqD K (.ref p) (.ref q) H Q := v_eqNil16 (xs := []) h1 (fun _ z => nomatch z) h2 k
theorem v_neNN {K : PySem.W.Frag} {H : Hp} {Q : VK} {p q : Addr} (h1 : H p = some (.lst [])) (h2 : H q = some (.lst [])) (k : Q (.bl false) H) : rNeD K (.ref p) (.ref q) H Q := v_neNilS (ns := []) h1 (fun _ z => nomatch z) h2 k
structure TxtL25 (K : PySem.W.Frag) (mg : Str → Option Value) (C R O B G : Addr) : Prop extends TxtBr K mg C R O B G where
  range : mg "range" = none
  min : mg "min" = none
  oo : PySem.W.subIn K (.ref O) (.ref O) = some true
section
variable {P : Program} {w : World} {K : PySem.W.Frag} {mg : Str → Option Value} {base : Heap} {C R O B G : Addr}
abbrev stonly : Stmt := (top 62)
abbrev Nonly : List Str := ["_law_table", "_law_walk_here", "_law_kinds_here", "_law_item"]
theorem sconly : FnScope Nonly ["_law_table", "_law_walk_here", "_law_kinds_here"] (defScope stonly) := ⟨rfl, rfl, rfl, by decide +kernel, rfl, by decide +kernel, by decide +kernel⟩

theorem ok_only (F : FnAt K mg "_law_only" stonly) (D_name : Def P w K mg base CX0 3 "_law_name" ["_law_table", "_law_walk_here"] spName) : Def P w K mg base CX0 4 "_law_only" ["_law_table", "_law_walk_here", "_law_kinds_here"] spOnly := by
  refine F.ok sconly (fun _ _ _ _ _ _ us hl => match us, hl with | [_, _, _], _ => rfl) (fun vs H Q E h => ?_) (fun f cdv A outer s H vs Q E hr h => ?_)
  · obtain ⟨d, ls, fn, w1, A1, rfl, _⟩ := h
    rfl
  obtain ⟨d, ls, fn, w1, A1, rfl, hd, fl, mw, lw, hk, q⟩ := h
  have hu := hu_of hr
  have nd := sconly.nd
  refine ⟨_, (pss_one (ps_ret (pe_cmpR (op_eqDK (K := K) rfl hr.units) (pe_lc (own := [("_law_item", 3)]) (g := gName 3) (by rfl) nd (pi_str (pe_cd D_name hr pass0 (pa_cons (pv 0) (pa_cons (pv 1) pa_nil)))) (blkOk_by (own := [("_law_item", 3)]) (N := Nonly) (sc := defScope stonly) (by decide +kernel)) (fun _ _ _ _ _ => (pg_name (i := 3) nd rfl (Or.inl rfl))) (fun _ _ _ _ _ => (pts_one (pt_cmpR op_notInS (pv 3) (pv 2) (by rfl)))) (fun _ _ _ _ _ => (pv 3))) (pe_lst pa_nil) (nomark _)))), ?_⟩
  refine s_start [some _, some _, some _, none] rfl ?_
  walk_at "go"
  refine sp_name fl hd mw (by omega) fun H1 s1 => ?_
  have ln := name_len fn w1
  walk_at "go"
  refine v_lcS (l := nameOf fn w1) (b := fun c => !decide (c ∈ A1)) (f := fun c => V.str (tx [c])) (by omega) (fun c _ H2 s2 R r => ?_) (fun c _ _ H2 s2 R r => ?_) (fun D H2 hD s2 e2 => ?_)
  · walk_at "go"
    exact r H2 (Same.refl _)
  · walk_at "go"
    exact r H2 (Same.refl _)
  have e0 : (nameOf fn w1).filter (fun c => !decide (c ∈ A1)) = [] := List.filter_eq_nil_iff.mpr fun c hc => by
    rw [decide_eq_true (hk c hc)]
    simp
  rw [e0] at e2
  walk_at "go"
  intro p H3 hp s3 e3
  exact v_eqNN (s3 _ _ e2) e3 (q H3 ((s1.trans s2).trans s3))
abbrev stsubset : Stmt := (top 63)
abbrev Nsubset : List Str := ["_law_pen_here", "_law_table", "_law_item"]
theorem scsubset : FnScope Nsubset ["_law_pen_here", "_law_table"] (defScope stsubset) := ⟨rfl, rfl, rfl, by decide +kernel, rfl, by decide +kernel, by decide +kernel⟩

theorem ok_subset (F : FnAt K mg "_law_subset" stsubset) (T : TxtR K mg C R O) (D_shuffled : Def P w K mg base CX0 2 "_law_shuffled" ["_law_pen_here", "_law_items"] spShuffled) (D_draw : Def P w K mg base CX0 1 "_law_draw" ["_law_pen_here", "_law_number"] spDraw) : Def P w K mg base CX0 3 "_law_subset" ["_law_pen_here", "_law_table"] spSubset := by
  refine F.ok scsubset (fun _ _ _ _ _ _ us hl => match us, hl with | [_, _], _ => rfl) (fun vs H Q E h => ?_) (fun f cdv A outer s H vs Q E hr h => ?_)
  · obtain ⟨g, n, d, ls, fn, rfl, _⟩ := h
    rfl
  obtain ⟨g, n, d, ls, fn, rfl, hp, hn, ndp, hd, tab, q⟩ := h
  have hu := hu_of hr
  have nd := scsubset.nd
  have tl := tab.len
  replace D_draw := D_draw.mono (show 1 ≤ 2 by decide)
  refine ⟨_, (pss_one (ps_ret (pe_joinK (K := K) rfl (pe_tx [] (by decide +kernel)) (pe_lc (own := [("_law_item", 2)]) (g := gName 2) (by rfl) nd (pi_listK (K := K) rfl (pe_cd D_shuffled hr pass0 (pa_cons (pv 0) (pa_cons (pe_callTy (call_list_dK rfl) (by rfl) T.list (by decide +kernel) (pa_cons (pv 1) pa_nil)) pa_nil)))) (blkOk_by (own := [("_law_item", 2)]) (N := Nsubset) (sc := defScope stsubset) (by decide +kernel)) (fun _ _ _ _ _ => (pg_name (i := 2) nd rfl (Or.inl rfl))) (fun _ _ _ _ _ => (pts_one (pt_cmpR op_eq (pe_cd D_draw hr pass0 (pa_cons (pv 0) (pa_cons pe_int pa_nil))) pe_int (nomark _)))) (fun _ _ _ _ _ => (pv 2)))))), ?_⟩
  refine s_start [some _, some _, none] rfl ?_
  walk_at "go"
  refine v_listD hd fun q0 H1 hq s1 e1 => ?_
  walk_at "go"
  have e1' : H1 q0 = some (.lst (ls.map fun c => V.str (tx [c]))) := by
    rw [e1]
    unfold tabKV
    rw [List.map_map]
    rfl
  have p1 := hp.same s1
  refine ⟨g, n, q0, ls, rfl, e1', by omega, fun c hc => ?_, p1, by omega, fun l ys H2 hl pm e2 p2 k2 => ?_⟩
  · have := LET_lt (tab.lt c hc)
    omega
  have nlp : l ≠ g.p := (p1.p_ne hl).symm
  have yn : ys.Nodup := pm.nodup_iff.mpr tab.nd
  have yl := pm.length_eq
  refine ⟨l, rfl, ⟨_, SqL.of e2⟩, ?_⟩
  intro D hD
  have nD := p2.p_ne hD
  have nC := p2.cl_ne hD
  refine lc_it (walk_listM (ls := ys) (f := fun c => V.str (tx [c]))) (fun k H' => Keep g.p H2 H' ∧ PenAt g H' (n + ls.length + k) ∧ ∃ S : List Nat, H' D = some (.lst (S.map fun c => V.str (tx [c]))) ∧ S.Sublist (ys.take k)) ⟨Keep.of (Same.new hD), p2.same (Same.new hD), [], upd_same, List.nil_sublist _⟩ (fun k H' _ p => SqL.of (p.1 _ _ e2 nlp)) (fun k x H3 H4 hk p y => ?_) (fun H' p => ?_)
  · obtain ⟨k3, p3, S, e3, sb⟩ := p
    obtain ⟨rfl, rfl⟩ := y
    have sl := sb.length_le
    rw [List.length_take] at sl
    have et : ys.take (k + 1) = ys.take k ++ [ys.getD k 0] := by
      rw [List.take_succ, List.getD_eq_getElem?_getD, List.getElem?_eq_getElem hk]
      rfl
    refine ⟨wipe1, ?_⟩
    walk_at "go"
    refine ⟨g, 2, _, rfl, by decide, by decide, p3, by omega, fun z H5 z0 z1 p5 k5 => ?_⟩
    have e5 := k5 _ _ e3 nD.symm
    walk_at "go"
    refine if_dec (fun c => ?_) (fun c => ?_)
    · walk_at "go"
      refine ⟨_, e5, szlt (by rw [List.length_map]; omega), fun b o hb nb => ?_, (p5.keep Keep.put nD nC).mono (by omega), S ++ [ys.getD k 0], by rw [upd_same, List.map_append]; rfl, by rw [et]; exact sb.append (List.Sublist.refl _)⟩
      rw [upd_ne (ne_of_none hb hD)]
      exact k5 _ _ (k3 _ _ hb nb) nb
    · exact ⟨k3.trans k5, p5.mono (by omega), S, e5, by rw [et]; exact sb.trans (List.sublist_append_left _ _)⟩
  · obtain ⟨k3, p3, S, e3, sb⟩ := p
    rw [List.take_of_length_le (Nat.le_refl _)] at sb
    have sl := sb.length_le
    have e4 : H' D = some (.lst (strsV (S.map fun c => [c]))) := by rw [e3, strs_ones]
    refine v_join e4 (by rw [flat_ones]; omega) ?_
    rw [flat_ones]
    refine q S H' (yn.sublist sb) (fun a ha => pm.subset (sb.subset ha)) (p3.mono (by omega)) fun b o hb nb => k3 _ _ (k2 _ _ (s1 _ _ hb) nb) nb
abbrev stis_near : Stmt := (top 65)
abbrev Nis_near : List Str := ["_law_table", "_law_told", "_law_start", "_law_kinds_here", "_law_item"]
theorem scis_near : FnScope Nis_near ["_law_table", "_law_told", "_law_start", "_law_kinds_here"] (defScope stis_near) := ⟨rfl, rfl, rfl, by decide +kernel, rfl, by decide +kernel, by decide +kernel⟩

theorem ok_is_near (F : FnAt K mg "_law_is_near" stis_near) (T : TxtB K mg C R O B) (D_only : Def P w K mg base CX0 4 "_law_only" ["_law_table", "_law_walk_here", "_law_kinds_here"] spOnly) (D_marks : Def P w K mg base CX0 2 "_law_marks" ["_law_table", "_law_walk_here"] spMarks) (D_backs : Def P w K mg base CX0 1 "_law_backs" ["_law_marks_here"] spBacks) :
    Def P w K mg base CX0 5 "_law_is_near" ["_law_table", "_law_told", "_law_start", "_law_kinds_here"] (spIsNear R B) := by
  refine F.ok scis_near (fun _ _ _ _ _ _ us hl => match us, hl with | [_, _, _, _], _ => rfl) (fun vs H Q E h => ?_) (fun f cdv A outer s H vs Q E hr h => ?_)
  · obtain ⟨d, a, r, x, ls, fn, D, n, s, v, rfl, _⟩ := h
    rfl
  obtain ⟨d, a, r, x, ls, fn, D, n, s', v, rfl, hd, fl, ⟨⟨dx, e1⟩, ro⟩, mn, ms, ln, h1, h2, q⟩ := h
  have hu := hu_of hr
  have nd := scis_near.nd
  replace D_marks := D_marks.mono (show 2 ≤ 4 by decide)
  replace D_backs := D_backs.mono (show 1 ≤ 4 by decide)
  refine ⟨_, (pss_cons (ps_if (PW.pt (pw_or (pt_cmpR op_ne (pe_flK (K := K) rfl (pv 1) rfl) (pv 3) (nomark _)) (pw_or1 (pt_not (pt_val (pe_cd D_only hr pass0 (pa_cons (pv 0) (pa_cons (pe_op op_addS (pe_revS (pe_flK (K := K) rfl (pe_flK (K := K) rfl (pv 1) rfl) rfl)) (pv 2)) (pa_cons (pv 3) pa_nil)))))))))
      (pss_one (ps_ret pe_bl))
      pss_nil)
      (pss_one (ps_ret (pe_cmpR (op_eqDK (K := K) rfl hr.units) (pe_lc (own := [("_law_item", 4)]) (g := gName 4) (by rfl) nd (pi_listK (K := K) rfl (pe_cd D_backs hr pass0 (pa_cons (pe_cd D_marks hr pass0 (pa_cons (pv 0) (pa_cons (pe_flK (K := K) rfl (pe_flK (K := K) rfl (pv 1) rfl) rfl) pa_nil))) pa_nil))) (blkOk_by (own := [("_law_item", 4)]) (N := Nis_near) (sc := defScope stis_near) (by decide +kernel)) (fun _ _ _ _ _ => (pg_name (i := 4) nd rfl (Or.inl rfl))) (fun _ _ _ _ _ => (pts_one (pt_cmpR op_inS (pv 4) (pv 3) (by rfl)))) (fun _ _ _ _ _ => (pv 4))) (pe_lst pa_nil) (nomark _))))), ?_⟩
  refine s_start [some _, some _, some _, some _, none] rfl ?_
  obtain ⟨dr, f1⟩ := ro.ex
  walk_at "go"
  refine v_fld e1 T.Block.cl T.nBk blockF_k ?_
  walk_at "go"
  refine if_ndec (fun c => (c rfl).elim) (fun _ => ?_)
  walk_at "go"
  refine v_fld e1 T.Block.cl T.nBr blockF_r ?_
  walk_at "go"
  refine v_fld f1 T.Room.cl T.nNm roomF_n ?_
  have l1 : n.reverse.length + s'.length ≤ 1000000 := by rw [List.length_reverse]; omega
  walk_at "go"
  refine ⟨d, ls, fn, _, D, rfl, hd, fl, fun c hc => (List.mem_append.mp hc).elim (fun z => mn c (List.mem_reverse.mp z)) (ms c), by rw [List.length_append, List.length_reverse]; omega, h1, fun H1 s1 => ?_⟩
  walk_at "go"
  refine v_fld (s1 _ _ e1) T.Block.cl T.nBr blockF_r ?_
  walk_at "go"
  refine v_fld (s1 _ _ f1) T.Room.cl T.nNm roomF_n ?_
  walk_at "go"
  refine ⟨d, ls, fn, n, rfl, s1 _ _ hd, fl.tab, mn, fun m H2 mk s2 => ?_⟩
  walk_at "go"
  refine ⟨m, ls, _, rfl, mk, fl.tab.len, fun l H3 e3 s3 => ?_⟩
  walk_at "go"
  have lb : (backs ls fun c x => act fn n.reverse (unit x) c).length ≤ 8 := Nat.le_trans (List.length_filter_le _ _) fl.tab.len
  refine vals_some (ls := backs ls fun c x => act fn n.reverse (unit x) c) (it := fun c => V.str (tx [c])) (f := fun c => V.str (tx [c])) (b := fun c => decide (c ∈ D)) (walk_listM (f := fun c => V.str (tx [c]))) (fun H' s' => SqL.of (s' _ _ e3)) (by omega) (fun c hc H4 s4 R r => ?_) (fun c hc _ H4 s4 R r => ?_) (fun D2 H4 hD2 s4 e4 => ?_)
  · walk_at "go"
    exact r H4 (Same.refl _)
  · walk_at "go"
    exact r H4 (Same.refl _)
  have e0 : (backs ls fun c x => act fn n.reverse (unit x) c).filter (fun c => decide (c ∈ D)) = [] := List.filter_eq_nil_iff.mpr fun c hc => by
    unfold backs at hc
    rw [backs_desc fl.ok mn] at hc
    obtain ⟨_, z⟩ := List.mem_filter.mp hc
    rw [decide_eq_false fun y => h2 c y (of_decide_eq_true z)]
    exact Bool.false_ne_true
  rw [e0] at e4
  walk_at "go"
  intro p H5 hp s5 e5
  exact v_eqNN (s5 _ _ e4) e5 (q H5 ((((s1.trans s2).trans s3).trans s4).trans s5))
abbrev stis_refused : Stmt := (top 67)
abbrev Nis_refused : List Str := ["_law_block", "_law_far_block"]
theorem scis_refused : FnScope Nis_refused ["_law_block", "_law_far_block"] (defScope stis_refused) := ⟨rfl, rfl, rfl, by decide +kernel, rfl, by decide +kernel, by decide +kernel⟩

theorem ok_is_refused (F : FnAt K mg "_law_is_refused" stis_refused) (T : TxtL25 K mg C R O B G) (D_bridge : Def P w K mg base (L2.CX P w) 7 "bridge" ["one", "other"] (spBri C R B O G)) : Def P w K mg base CX0 8 "_law_is_refused" ["_law_block", "_law_far_block"] (spIsRefusedB C R B) := by
  refine F.ok scis_refused (fun _ _ _ _ _ _ us hl => match us, hl with | [_, _], _ => rfl) (fun vs H Q E h => ?_) (fun f cdv A outer s H vs Q E hr h => ?_)
  · obtain ⟨a, r, x, b, r', y, ls, fn, N, A', k', m', v', rfl, _⟩ := h
    rfl
  obtain ⟨a, r, x, b, r', y, ls, fn, N, A', k', m', v', rfl, hb, fl, hb2, pp, q⟩ := h
  have hu := hu_of hr
  have nd := scis_refused.nd
  have hx : PySem.W.exmOne K (.ref O) (.ref O) = some true := PySem.W.exm_ref T.OtherPlan.ec.hs T.OtherPlan.ec.hd T.OtherPlan.ty T.oo
  refine ⟨_, (pss_cons (ps_tryO (Wout := fun _ _ _ _ => False) rfl rfl ⟨rfl, by decide, Or.inl T.OtherPlan.at⟩ takes0
      (fun W pn xe tk _ => (pss_one (ps_expr (pe_cdS D_bridge hr (fun σ => passAt tk σ) (pa_cons (pv 0) (pa_cons (pv 1) pa_nil))))))
      (fun a oe cls d pn hz hf => (pss_one (ps_ret pe_bl))))
      (pss_one (ps_ret pe_bl))), ?_⟩
  refine s_start [some _, some _] rfl ?_
  walk_at "go"
  refine e_tryO ?_
  walk_at "go"
  refine ⟨a, r, x, b, r', y, ls, fn, N, A', k', m', v', false, 0, rfl, hb, fl, hb2, pp, fun _ => ?_, (fun z => nomatch z)⟩
  refine ⟨true, hx, fun _ a0 ha0 => ?_, fun q => nomatch q⟩
  walk_at "go"
  exact q
abbrev stalike : Stmt := (top 69)
abbrev Nalike : List Str := ["_law_item", "_law_peer", "_law_due"]
theorem scalike : FnScope Nalike ["_law_item", "_law_peer"] (defScope stalike) := ⟨rfl, rfl, rfl, by decide +kernel, rfl, by decide +kernel, by decide +kernel⟩

theorem ok_alike (F : FnAt K mg "_law_alike" stalike) (T : TxtL25 K mg C R O B G) (M_Block_eq : MDef P w K mg base CX0 3 B "__eq__" ["self", "other"] (spBlockEq C R B)) (M_Bridge_eq : MDef P w K mg base CX0 5 G "__eq__" ["self", "other"] (spBridgeEq C R B G)) (N_Bridge_eq : MDef P w K mg base CX0 5 G "__eq__" ["self", "other"] (spBridgeEq C R B G)) : Def P w K mg base CX0 7 "_law_alike" ["_law_item", "_law_peer"] (spAlike C R B G) := by
  refine F.ok scalike (fun _ _ _ _ _ _ us hl => match us, hl with | [_, _], _ => rfl) (fun vs H Q E h => ?_) (fun f cdv A outer s H vs Q E hr h => ?_)
  · obtain ⟨a, b, w1, k, o, p, w', k', o', p', e1, e2, rfl, _⟩ := h
    rfl
  obtain ⟨a, b, w1, k, o, p, w', k', o', p', e1, e2, rfl, ba, bb, q1, q2, q⟩ := h
  have hu := hu_of hr
  have nd := scalike.nd
  replace M_Block_eq := M_Block_eq.mono (show 3 ≤ 6 by decide)
  replace M_Bridge_eq := M_Bridge_eq.mono (show 5 ≤ 6 by decide)
  refine ⟨_, (pss_cons (ps_set (i := 2) nd rfl (Or.inl rfl) (pe_cut (pe_and (pe_cmpR op_eq (pe_flK (K := K) rfl (pv 0) rfl) (pe_flK (K := K) rfl (pv 1) rfl) (nomark _)) (pe_and (pe_cmpR (op_cmpM (op := .Eq) (fun _ _ => rfl) M_Block_eq hr pass0) (pe_flK (K := K) rfl (pv 0) rfl) (pe_flK (K := K) rfl (pv 1) rfl) (nomark _)) (pe_one (pe_cmpR (op_cmpM (op := .Eq) (fun _ _ => rfl) M_Block_eq hr pass0) (pe_flK (K := K) rfl (pv 0) rfl) (pe_flK (K := K) rfl (pv 1) rfl) (nomark _)))))))
      (pss_one (ps_ret (pe_and (pe_cmpR op_eq (pe_cmpR (op_cmpM (op := .Eq) (fun _ _ => rfl) M_Bridge_eq hr pass0) (pv 0) (pv 1) (nomark _)) (pv 2) (nomark _)) (pe_one (pe_cmpR op_ne (pe_cmpR (op_neM N_Bridge_eq T.Bridge.ne T.Bridge.ob hr pass0) (pv 0) (pv 1) (nomark _)) (pv 2) (nomark _))))))), ?_⟩
  refine s_start [some _, some _, none] rfl ?_
  obtain ⟨da, g1⟩ := ba.ex
  obtain ⟨db, g2⟩ := bb.ex
  walk_at "go"
  have rb : ∀ {o o' : Addr} {e : Bool} {H' : Hp} {Q' : VK}, BEq C R B o o' H' e → Q' (.bl e) H' → rM2 B (spBlockEq C R B) E0 (.ref o) (.ref o') H' Q' := by
    rintro o o' e H' Q' ⟨r1, x, kk, m, v, r', y, kk', n, v', e0, h1, h3, h4, h5⟩ hq
    obtain ⟨dq, eq⟩ := h1.ex
    obtain ⟨dr, er⟩ := h3.ex
    exact v_M2 eq er ⟨o, r1, x, kk, m, v, o', r', y, kk', n, v', e0, rfl, h1, h3, h4, h5 ▸ hq⟩
  refine ⟨fun v H' => v = .bl (decide (w1 = w') && (e1 && e2)) ∧ H' = H, ?_, ?_⟩
  · walk_at "go"
    refine v_fld g1 T.Bridge.cl T.nGw briF_w ?_
    walk_at "go"
    refine v_fld g2 T.Bridge.cl T.nGw briF_w ?_
    walk_at "go"
    rw [dec_tx]
    refine if_dec (fun c => ?_) (fun c => ?_)
    · rw [decide_eq_true c, Bool.true_and]
      walk_at "go"
      refine v_fld g1 T.Bridge.cl T.nG1 briF_1 ?_
      walk_at "go"
      refine v_fld g2 T.Bridge.cl T.nG1 briF_1 ?_
      refine rb q1 ?_
      walk_at "go"
      refine if_bool (fun c1 => ?_) (fun c1 => ?_)
      · rw [c1, Bool.true_and]
        walk_at "go"
        refine v_fld g1 T.Bridge.cl T.nG2 briF_2 ?_
        walk_at "go"
        refine v_fld g2 T.Bridge.cl T.nG2 briF_2 ?_
        exact rb q2 ⟨rfl, rfl⟩
      · rw [c1, Bool.false_and]
        exact ⟨rfl, rfl⟩
    · rw [decide_eq_false c, Bool.false_and]
      exact ⟨rfl, rfl⟩
  · rintro v H' ⟨rfl, rfl⟩
    walk_at "go"
    refine v_M2 g1 g2 ⟨a, b, w1, k, o, p, w', k', o', p', e1, e2, rfl, ba, bb, q1, q2, fun H1 s1 => ?_⟩
    walk_at "go"
    refine if_dec (fun _ => ?_) (fun c => (c rfl).elim)
    obtain ⟨da', g1'⟩ := (ba.same s1).ex
    obtain ⟨db', g2'⟩ := (bb.same s1).ex
    walk_at "go"
    refine v_M2n g1' g2' ⟨a, b, w1, k, o, p, w', k', o', p', e1, e2, rfl, ba.same s1, bb.same s1, q1.same s1, q2.same s1, fun H2 s2 => ⟨_, rfl, ?_⟩⟩
    walk_at "go"
    have e3 : (!decide (V.bl (!(decide (w1 = w') && (e1 && e2))) = V.bl (decide (w1 = w') && (e1 && e2)))) = true := by
      cases (decide (w1 = w') && (e1 && e2)) <;> rfl
    rw [e3]
    exact q H2 (s1.trans s2)
end
end
section
open PySem PySem.Spec L2
def spBridgeRight (R B G : Addr) : Sp := fun vs H Q _ => ∃ (d g o p r1 r2 x y : Addr) (ls : List Nat) (fn : Nat → List Nat) (n1 n2 A1 B1 D w s t : List Nat) (v1 v2 : V), vs = [.ref d, .ref g, .str (tx n1), .str (tx A1), .str (tx n2), .str (tx B1)] ∧ H d = some (.dK (tabKV ls fn)) ∧ Fl ls fn ∧ BriAt G H g w D o p ∧ BlockAt B R H o r1 x D s v1 ∧ BlockAt B R H p r2 y D t v2 ∧
  (∀ k, k ∈ D ↔ k ∈ A1 ∧ k ∈ B1 ∧ ∀ y ∈ w, y ∈ fn k) ∧ D = ls.filter (fun k => decide (k ∈ D)) ∧ BriR fn A1 B1 D n1 n2 w s t ∧ nameOf fn w = w ∧ (∀ c ∈ n1, c ∈ ls) ∧ (∀ c ∈ n2, c ∈ ls) ∧ (∀ c ∈ w, c ∈ ls) ∧ (∀ c ∈ s, c ∈ ls) ∧ (∀ c ∈ t, c ∈ ls) ∧ n1.length + n2.length + w.length + s.length + t.length ≤ 2600 ∧ ∀ H', Same H H' → Q (.bl true) H'
section
variable {P : Program} {w : World} {K : PySem.W.Frag} {mg : Str → Option Value} {base : Heap} {C R O B G : Addr}
abbrev stbridge_right : Stmt := (top 68)
abbrev Nbridge_right : List Str := ["_law_table", "_law_told", "_law_first", "_law_mine", "_law_second", "_law_yours", "_law_start", "_law_goal", "_law_heads", "_law_tails", "_law_both", "_law_due", "_law_item", "_law_peer"]
theorem scbridge_right : FnScope Nbridge_right ["_law_table", "_law_told", "_law_first", "_law_mine", "_law_second", "_law_yours"] (defScope stbridge_right) := ⟨rfl, rfl, rfl, by decide +kernel, rfl, by decide +kernel, by decide +kernel⟩

theorem ok_bridge_right (F : FnAt K mg "_law_bridge_right" stbridge_right) (T : TxtL25 K mg C R O B G) (D_name : Def P w K mg base CX0 3 "_law_name" ["_law_table", "_law_walk_here"] spName) (D_only : Def P w K mg base CX0 4 "_law_only" ["_law_table", "_law_walk_here", "_law_kinds_here"] spOnly) (D_marks : Def P w K mg base CX0 2 "_law_marks" ["_law_table", "_law_walk_here"] spMarks) (D_backs : Def P w K mg base CX0 1 "_law_backs" ["_law_marks_here"] spBacks)
    (D_is_near : Def P w K mg base CX0 5 "_law_is_near" ["_law_table", "_law_told", "_law_start", "_law_kinds_here"] (spIsNear R B)) : Def P w K mg base CX0 6 "_law_bridge_right" ["_law_table", "_law_told", "_law_first", "_law_mine", "_law_second", "_law_yours"] (spBridgeRight R B G) := by
  refine F.ok scbridge_right (fun _ _ _ _ _ _ us hl => match us, hl with | [_, _, _, _, _, _], _ => rfl) (fun vs H Q E h => ?_) (fun f cdv A outer s H vs Q E hr h => ?_)
  · obtain ⟨d, g, o, p, r1, r2, x, y, ls, fn, n1, n2, A1, B1, D, w1, s, t, v1, v2, rfl, _⟩ := h
    rfl
  obtain ⟨d, g, o, p, r1, r2, x, y, ls, fn, n1, n2, A1, B1, D, w1, s', t, v1, v2, rfl, hd, fl, bg, b1, b2, hD, eD, R1, nw, m1, m2, mw, ms, mt, ll, q⟩ := h
  have hu := hu_of hr
  have nd := scbridge_right.nd
  replace D_name := D_name.mono (show 3 ≤ 5 by decide)
  replace D_only := D_only.mono (show 4 ≤ 5 by decide)
  replace D_marks := D_marks.mono (show 2 ≤ 5 by decide)
  replace D_backs := D_backs.mono (show 1 ≤ 5 by decide)
  refine ⟨_, (pss_cons (ps_par (i := 6) (j := 7) (by rfl) nd rfl rfl (by decide) rfl rfl (pa_cons (pe_flK (K := K) rfl (pe_flK (K := K) rfl (pe_flK (K := K) rfl (pv 1) rfl) rfl) rfl) (pa_cons (pe_op op_addS (pe_flK (K := K) rfl (pe_flK (K := K) rfl (pe_flK (K := K) rfl (pv 1) rfl) rfl) rfl) (pe_flK (K := K) rfl (pv 1) rfl)) pa_nil)) (by rfl))
      (pss_cons (ps_if (pt_cmpR op_ne (pe_flK (K := K) rfl (pv 1) rfl) (pe_cd D_name hr pass0 (pa_cons (pv 0) (pa_cons (pe_flK (K := K) rfl (pv 1) rfl) pa_nil))) (nomark _))
      (pss_one (ps_ret pe_bl))
      pss_nil)
      (pss_cons (ps_if (PW.pt (pw_or (pt_not (pt_val (pe_cd D_only hr pass0 (pa_cons (pv 0) (pa_cons (pe_op op_addS (pe_revS (pv 2)) (pv 6)) (pa_cons (pv 3) pa_nil)))))) (pw_or1 (pt_not (pt_val (pe_cd D_only hr pass0 (pa_cons (pv 0) (pa_cons (pe_op op_addS (pe_revS (pv 4)) (pv 7)) (pa_cons (pv 5) pa_nil)))))))))
      (pss_one (ps_ret pe_bl))
      pss_nil)
      (pss_cons (ps_par (i := 8) (j := 9) (by rfl) nd rfl rfl (by decide) rfl rfl (pa_cons (pe_cd D_backs hr pass0 (pa_cons (pe_cd D_marks hr pass0 (pa_cons (pv 0) (pa_cons (pe_revS (pe_flK (K := K) rfl (pv 1) rfl)) pa_nil))) pa_nil)) (pa_cons (pe_cd D_backs hr pass0 (pa_cons (pe_cd D_marks hr pass0 (pa_cons (pv 0) (pa_cons (pe_flK (K := K) rfl (pv 1) rfl) pa_nil))) pa_nil)) pa_nil)) (by rfl))
      (pss_cons (ps_if (PW.pt (pw_or (pt_cmpR (op_neDK (K := K) rfl hr.units) (pe_lc (own := [("_law_item", 12)]) (g := gName 12) (by rfl) nd (pi_listK (K := K) rfl (pv 8)) (blkOk_by (own := [("_law_item", 12)]) (N := Nbridge_right) (sc := defScope stbridge_right) (by decide +kernel)) (fun _ _ _ _ _ => (pg_name (i := 12) nd rfl (Or.inl rfl))) (fun _ _ _ _ _ => (pts_one (pt_cmpR op_inS (pv 12) (pv 3) (by rfl)))) (fun _ _ _ _ _ => (pv 12))) (pe_lst pa_nil) (nomark _)) (pw_or1 (pt_cmpR (op_neDK (K := K) rfl hr.units) (pe_lc (own := [("_law_item", 12)]) (g := gName 12) (by rfl) nd (pi_listK (K := K) rfl (pv 9)) (blkOk_by (own := [("_law_item", 12)]) (N := Nbridge_right) (sc := defScope stbridge_right) (by decide +kernel)) (fun _ _ _ _ _ => (pg_name (i := 12) nd rfl (Or.inl rfl))) (fun _ _ _ _ _ => (pts_one (pt_cmpR op_inS (pv 12) (pv 5) (by rfl)))) (fun _ _ _ _ _ => (pv 12))) (pe_lst pa_nil) (nomark _)))))
      (pss_one (ps_ret pe_bl))
      pss_nil)
      (pss_cons (ps_lock (ps_setLc (i := 10) (own := [("_law_item", 12)]) (g := gName 12) (by rfl) nd rfl rfl (sw_true rfl rfl rfl (by decide +kernel)) (pi_keys (pv 0)) (blkOk_by (own := [("_law_item", 12)]) (N := Nbridge_right) (sc := defScope stbridge_right) (by decide +kernel)) (fun _ _ _ _ _ => (pg_name (i := 12) nd rfl (Or.inl rfl))) (fun _ _ _ _ _ => (pts_one (PW.pt (pw_and (pt_cmpR op_inS (pv 12) (pv 3) (by rfl)) (pw_and1 (pt_cmpR op_inS (pv 12) (pv 5) (by rfl))))))) (fun _ _ _ _ _ => (pv 12))))
      (pss_cons (ps_set (i := 11) nd rfl (Or.inl rfl) (pe_joinK (K := K) rfl (pe_tx [] (by decide +kernel)) (pe_lc (own := [("_law_item", 12)]) (g := gName 12) (by rfl) nd (pi_listK (K := K) rfl (pv 10)) (blkOk_by (own := [("_law_item", 12)]) (N := Nbridge_right) (sc := defScope stbridge_right) (by decide +kernel)) (fun _ _ _ _ _ => (pg_name (i := 12) nd rfl (Or.inr rfl))) (fun _ _ _ _ _ => (pts_one (pt_cmpR (op_eqDK (K := K) rfl hr.units) (pe_lc (own := [("_law_peer", 13)]) (g := gName 13) (by rfl) nd (pi_str (pe_flK (K := K) rfl (pv 1) rfl)) (blkOk_by (own := [("_law_peer", 13)]) (N := Nbridge_right) (sc := { kind := .function, names := [(".0", .local), ("_law_item", .cell), ("_law_table", .cell), ("_law_told", .cell)], isGenerator := false, isCoroutine := false }) (by decide +kernel)) (fun _ _ _ _ _ => (pg_name (i := 13) nd rfl (Or.inl rfl))) (fun _ _ _ _ _ => (pts_one (pt_cmpR op_notInS (pv 13) (pe_dget hu (pv 0) (pv 12) (fun _ _ => rfl)) (by rfl)))) (fun _ _ _ _ _ => (pv 13))) (pe_lst pa_nil) (nomark _)))) (fun _ _ _ _ _ => (pv 12)))))
      (pss_cons (ps_if (PW.pt (pw_or (pt_cmpR op_ne (pe_flK (K := K) rfl (pv 1) rfl) (pv 11) (nomark _)) (pw_or1 (pt_not (pt_val (pe_cd D_is_near hr pass0 (pa_cons (pv 0) (pa_cons (pe_flK (K := K) rfl (pv 1) rfl) (pa_cons (pv 6) (pa_cons (pv 11) pa_nil))))))))))
      (pss_one (ps_ret pe_bl))
      pss_nil)
      (pss_one (ps_ret (pe_cd D_is_near hr pass0 (pa_cons (pv 0) (pa_cons (pe_flK (K := K) rfl (pv 1) rfl) (pa_cons (pv 7) (pa_cons (pv 11) pa_nil))))))))))))))), ?_⟩
  refine s_start [some _, some _, some _, some _, some _, some _, none, none, none, none, none, none, none, none] rfl ?_
  obtain ⟨dg, g1⟩ := bg.ex
  obtain ⟨⟨do1, o1⟩, ro1⟩ := id b1
  obtain ⟨dr1, f1⟩ := ro1.ex
  obtain ⟨⟨do2, o2⟩, ro2⟩ := id b2
  obtain ⟨dr2, f2⟩ := ro2.ex
  walk_at "go"
  refine v_fld g1 T.Bridge.cl T.nG1 briF_1 ?_
  walk_at "go"
  refine v_fld o1 T.Block.cl T.nBr blockF_r ?_
  walk_at "go"
  refine v_fld f1 T.Room.cl T.nNm roomF_n ?_
  walk_at "go"
  refine v_fld g1 T.Bridge.cl T.nG1 briF_1 ?_
  walk_at "go"
  refine v_fld o1 T.Block.cl T.nBr blockF_r ?_
  walk_at "go"
  refine v_fld f1 T.Room.cl T.nNm roomF_n ?_
  walk_at "go"
  refine v_fld g1 T.Bridge.cl T.nGw briF_w ?_
  have l1 : s'.length + w1.length ≤ 1000000 := by omega
  walk_at "go"
  refine v_fld g1 T.Bridge.cl T.nGw briF_w ?_
  walk_at "go"
  refine v_fld g1 T.Bridge.cl T.nGw briF_w ?_
  walk_at "go"
  refine sp_name fl hd mw (by omega) fun H1 s1 => ?_
  rw [show joinC fn [] w1 = w1 from nw]
  walk_at "go"
  refine if_ndec (fun c => (c rfl).elim) (fun _ => ?_)
  have l2 : n1.reverse.length + s'.length ≤ 1000000 := by rw [List.length_reverse]; omega
  have l3 : n2.reverse.length + (s' ++ w1).length ≤ 1000000 := by rw [List.length_reverse, List.length_append]; omega
  have msw : ∀ c ∈ s' ++ w1, c ∈ ls := fun c hc => (List.mem_append.mp hc).elim (ms c) (mw c)
  walk_at "go"
  refine ⟨d, ls, fn, _, A1, rfl, s1 _ _ hd, fl, fun c hc => (List.mem_append.mp hc).elim (fun z => m1 c (List.mem_reverse.mp z)) (ms c), by rw [List.length_append, List.length_reverse]; omega, R1.one, fun H2 s2 => ?_⟩
  walk_at "go"
  refine ⟨d, ls, fn, _, B1, rfl, s2 _ _ (s1 _ _ hd), fl, fun c hc => (List.mem_append.mp hc).elim (fun z => m2 c (List.mem_reverse.mp z)) (msw c), by rw [List.length_append, List.length_reverse, List.length_append]; omega, R1.two, fun H3 s3 => ?_⟩
  have s13 := (s1.trans s2).trans s3
  walk_at "go"
  refine v_fld (s13 _ _ g1) T.Bridge.cl T.nGw briF_w ?_
  walk_at "go"
  refine ⟨d, ls, fn, w1.reverse, rfl, s13 _ _ hd, fl.tab, fun c hc => mw c (List.mem_reverse.mp hc), fun ma H4 mk4 s4 => ?_⟩
  walk_at "go"
  refine ⟨ma, ls, _, rfl, mk4, fl.tab.len, fun lh H5 e5 s5 => ?_⟩
  have s15 := (s13.trans s4).trans s5
  walk_at "go"
  refine v_fld (s15 _ _ g1) T.Bridge.cl T.nGw briF_w ?_
  walk_at "go"
  refine ⟨d, ls, fn, w1, rfl, s15 _ _ hd, fl.tab, mw, fun mb H6 mk6 s6 => ?_⟩
  walk_at "go"
  refine ⟨mb, ls, _, rfl, mk6, fl.tab.len, fun lt H7 e7 s7 => ?_⟩
  have s17 := (s15.trans s6).trans s7
  have e5' := s7 _ _ (s6 _ _ e5)
  walk_at "go"
  have none_of : ∀ {W A' : List Nat}, (∀ c ∈ W, c ∈ ls) → (∀ c ∈ A', ¬ desc fn c (nameOf fn W).reverse) → (backs ls fun c x => act fn W.reverse (unit x) c).filter (fun c => decide (c ∈ A')) = [] := fun {W A'} mW hW => List.filter_eq_nil_iff.mpr fun c hc => by
    unfold backs at hc
    rw [backs_desc fl.ok mW] at hc
    obtain ⟨_, z⟩ := List.mem_filter.mp hc
    rw [decide_eq_false fun y => hW c y (of_decide_eq_true z)]
    exact Bool.false_ne_true
  have lbk : ∀ M, (backs ls M).length ≤ 8 := fun M => Nat.le_trans (List.length_filter_le _ _) fl.tab.len
  have lb1 := lbk fun c x => act fn w1.reverse.reverse (unit x) c
  have lb2 := lbk fun c x => act fn w1.reverse (unit x) c
  refine vals_some (ls := backs ls fun c x => act fn w1.reverse.reverse (unit x) c) (it := fun c => V.str (tx [c])) (f := fun c => V.str (tx [c])) (b := fun c => decide (c ∈ A1)) (walk_listM (f := fun c => V.str (tx [c]))) (fun H' s' => SqL.of (s' _ _ e5')) (by omega) (fun c hc H8 s8 R r => ?_) (fun c hc _ H8 s8 R r => ?_) (fun D2 H8 hD2 s8 e8 => ?_)
  · walk_at "go"
    exact r H8 (Same.refl _)
  · walk_at "go"
    exact r H8 (Same.refl _)
  rw [none_of (fun c hc => mw c (List.mem_reverse.mp hc)) R1.heads] at e8
  walk_at "go"
  intro p9 H9 hp9 s9 e9
  refine v_neNN (s9 _ _ e8) e9 ?_
  have e7' := s9 _ _ (s8 _ _ e7)
  walk_at "go"
  refine vals_some (ls := backs ls fun c x => act fn w1.reverse (unit x) c) (it := fun c => V.str (tx [c])) (f := fun c => V.str (tx [c])) (b := fun c => decide (c ∈ B1)) (walk_listM (f := fun c => V.str (tx [c]))) (fun H' s' => SqL.of (s' _ _ e7')) (by omega) (fun c hc H10 s10 R r => ?_) (fun c hc _ H10 s10 R r => ?_) (fun D2 H10 hD2 s10 e10 => ?_)
  · walk_at "go"
    exact r H10 (Same.refl _)
  · walk_at "go"
    exact r H10 (Same.refl _)
  rw [none_of mw R1.tails] at e10
  walk_at "go"
  intro p11 H11 hp11 s11 e11
  refine v_neNN (s11 _ _ e10) e11 ?_
  have s1b := (((s17.trans s8).trans s9).trans s10).trans s11
  clear e5 e7 e5' e7' e8 e9 e10 e11
  walk_at "go"
  refine s_lockLc (g := fun c => V.str (tx (fn c))) (ls := ls) (b := fun c => decide (c ∈ A1) && decide (c ∈ B1)) (f := fun c => V.str (tx [c])) (s1b _ _ hd) (by have := fl.tab.len; omega) (fun H1 R' r => by walk_at "go"; exact r) (fun c hc H1 lk R' r => ?_) (fun c hc _ H1 _ R' r => ?_) (fun q1 H12 hq1 s12 e12 => ?_)
  · walk_at "go"
    refine if_dec (fun c1 => ?_) (fun c1 => ?_)
    · walk_at "go"
      have z := r H1 (Same.refl _)
      rw [decide_eq_true c1, Bool.true_and] at z
      exact z
    · have z := r H1 (Same.refl _)
      rw [decide_eq_false c1, Bool.false_and] at z
      exact z
  · walk_at "go"
    exact r H1 (Same.refl _)
  have hd12 := s12 _ _ (s1b _ _ hd)
  have g12 := s12 _ _ (s1b _ _ g1)
  have lBo : (ls.filter fun c => decide (c ∈ A1) && decide (c ∈ B1)).length ≤ 8 := Nat.le_trans (List.length_filter_le _ _) fl.tab.len
  walk_at "go"
  refine vals_some (ls := ls.filter fun c => decide (c ∈ A1) && decide (c ∈ B1)) (it := fun c => V.str (tx [c])) (f := fun c => V.str (tx [c])) (b := fun c => ((w1.filter fun y => !decide (y ∈ fn c)).map fun y => [y]).isEmpty) (walk_listM (f := fun c => V.str (tx [c]))) (fun H' s' => SqL.of (s' _ _ e12)) (by omega) (fun c hc H13 s13 R r => ?_) (fun c hc _ H13 s13 R r => ?_) (fun D2 H13 hD2 s13 e13 => ?_)
  · have hcl : c ∈ ls := (List.mem_filter.mp hc).1
    walk_at "go"
    refine v_fld (s13 _ _ g12) T.Bridge.cl T.nGw briF_w ?_
    walk_at "go"
    refine v_lcS (l := w1) (b := fun y => !decide (y ∈ fn c)) (f := fun y => V.str (tx [y])) (by omega) (fun y _ H14 s14 R' r' => ?_) (fun y hy _ H14 s14 R' r' => ?_) (fun D5 H14 hD5 s14 e14 => ?_)
    · walk_at "go"
      refine v_dget (dget_let (g := fun k => V.str (tx (fn k))) (s14 _ _ (s13 _ _ hd12)) hcl) ?_
      walk_at "go"
      exact r' H14 (Same.refl _)
    · walk_at "go"
      exact r' H14 (Same.refl _)
    walk_at "go"
    intro p15 H15 hp15 s15' e15
    refine v_eqNil16 (xs := (w1.filter fun y => !decide (y ∈ fn c)).map fun y => [y]) (by rw [s15' _ _ e14, List.map_map]; rfl) (fun l hl y hy => ?_) e15 ⟨_, rfl, r H15 (s14.trans s15')⟩
    obtain ⟨a, ha, rfl⟩ := List.mem_map.mp hl
    rw [List.mem_singleton.mp hy]
    have := LET_lt (fl.tab.lt a (mw a (List.mem_filter.mp ha).1))
    omega
  · walk_at "go"
    exact r H13 (Same.refl _)
  have eF : (ls.filter fun c => decide (c ∈ A1) && decide (c ∈ B1)).filter (fun c => ((w1.filter fun y => !decide (y ∈ fn c)).map fun y => [y]).isEmpty) = D := by
    rw [List.filter_filter, eD]
    refine List.filter_congr fun k hk => ?_
    rw [Bool.eq_iff_iff, decide_eq_true_iff, hD k, Bool.and_eq_true, Bool.and_eq_true, decide_eq_true_iff, decide_eq_true_iff, List.isEmpty_iff, List.map_eq_nil_iff, List.filter_eq_nil_iff]
    constructor
    · rintro ⟨z1, z2, z3⟩
      refine ⟨z2, z3, fun y hy => ?_⟩
      have := z1 y hy
      simpa using this
    · rintro ⟨z1, z2, z3⟩
      refine ⟨fun y hy => ?_, z1, z2⟩
      rw [decide_eq_true (z3 y hy)]
      simp
  rw [eF] at e13
  have lD : D.length ≤ 8 := by rw [← eF]; exact Nat.le_trans (List.length_filter_le _ _) lBo
  have e13' : H13 D2 = some (.lst (strsV (D.map fun c => [c]))) := by rw [e13, strs_ones]
  walk_at "go"
  refine v_join e13' (by rw [flat_ones]; omega) ?_
  rw [flat_ones]
  have s1d := s12.trans s13
  have s1e := s1b.trans s1d
  walk_at "go"
  refine v_fld (s13 _ _ g12) T.Bridge.cl T.nGk briF_k ?_
  walk_at "go"
  refine if_ndec (fun c => (c rfl).elim) (fun _ => ?_)
  walk_at "go"
  refine v_fld (s13 _ _ g12) T.Bridge.cl T.nG1 briF_1 ?_
  walk_at "go"
  refine ⟨d, o, r1, x, ls, fn, D, s', s', v1, rfl, s13 _ _ hd12, fl, b1.same s1e, ms, ms, by omega, fun c hc => ?_, R1.near1, fun H14 s14 => ?_⟩
  · rw [R1.home] at hc
    cases hc
  walk_at "go"
  refine v_fld (s14 _ _ (s13 _ _ g12)) T.Bridge.cl T.nG2 briF_2 ?_
  have lgo : t.length + (s' ++ w1).length ≤ 6000 := by
    rw [List.length_append]
    omega
  walk_at "go"
  refine ⟨d, p, r2, y, ls, fn, D, t, s' ++ w1, v2, rfl, s14 _ _ (s13 _ _ hd12), fl, (b2.same s1e).same s14, mt, msw, lgo, R1.goal, R1.near2, fun H15 s15' => ?_⟩
  exact q H15 ((s1e.trans s14).trans s15')
end
end
section
open PySem PySem.Spec L2
theorem BlkF.lst {C R B : Addr} {H H' : Hp} {a r x q : Addr} {ls : List Nat} {fn : Nat → List Nat} {n K : List Nat} {l : List V} (h : BlkF C R B H a r x ls fn n K) (e0 : H q = some (.lst l)) (k : Keep q H H') : BlkF C R B H' a r x ls fn n K := by
  obtain ⟨⟨⟨dx, e⟩, ro⟩, pl, h1, h2, h3, h4, h5⟩ := h
  exact ⟨⟨⟨dx, k _ _ e (fun z => by rw [z, e0] at e; cases e)⟩, ro.lst e0 k⟩, pl.lst e0 k, h1, h2, h3, h4, h5⟩
theorem BriAt.lst {G : Addr} {H H' : Hp} {g q : Addr} {way kinds : List Nat} {o p : Addr} {l : List V} (h : BriAt G H g way kinds o p) (e0 : H q = some (.lst l)) (k : Keep q H H') : BriAt G H' g way kinds o p := by
  obtain ⟨dx, e⟩ := h.ex
  exact ⟨dx, k _ _ e (fun z => by rw [z, e0] at e; cases e)⟩
theorem paired_snoc25 {α β : Type} {r : α → β → Prop} : ∀ {as : List α} {bs : List β} {a : α} {b : β}, Paired r as bs → r a b → Paired r (as ++ [a]) (bs ++ [b])
  | _, _, _, _, .nil, h => .cons h .nil
  | _, _, _, _, .cons h t, h' => .cons h (paired_snoc25 t h')
theorem sum_le25 {α : Type} {g : α → Nat} {c : Nat} (h : ∀ x, g x ≤ c) : ∀ l : List α, (l.map g).sum ≤ l.length * c
  | [] => by simp
  | x :: l => by
    have := sum_le25 h l
    have := h x
    rw [List.map_cons, List.sum_cons, List.length_cons, Nat.succ_mul]
    omega
def nearB (fn : Nat → List Nat) (w n1 m : List Nat) : Bool := decide ((nameOf fn (n1.reverse ++ m)).length = w.length)
def spListedRight (C R B G : Addr) : Sp := fun vs H Q _ => ∃ (d g o p a b r1 r2 x1 y1 ra xa rb yb : Addr) (ls : List Nat) (fn : Nat → List Nat) (N M A B' D h t : List Nat), vs = [.ref d, .ref g, .ref a, .ref b] ∧ H d = some (.dK (tabKV ls fn)) ∧ Fl ls fn ∧ BriAt G H g (wayC fn h t) D o p ∧ BlkF C R B H o r1 x1 ls fn (baseC fn D h) D ∧ BlkF C R B H p r2 y1 ls fn (baseC fn D t) D ∧
  BlkF C R B H a ra xa ls fn N A ∧ BlkF C R B H b rb yb ls fn M B' ∧ Bri fn ls A B' N M h t ∧ (∀ k, k ∈ D ↔ k ∈ A ∧ k ∈ B' ∧ ∀ y ∈ wayC fn h t, y ∈ fn k) ∧ Cliq fn A ∧ Cliq fn B' ∧ N.length ≤ 180 ∧ M.length ≤ 180 ∧ (wayC fn h t).length ≤ 720 ∧ ∀ H', Same H H' → Q (.bl true) H'
section
variable {P : Program} {w : World} {K : PySem.W.Frag} {mg : Str → Option Value} {base : Heap} {C R O B G : Addr}
abbrev stlisted_right : Stmt := (top 66)
abbrev Nlisted_right : List Str := ["_law_table", "_law_told", "_law_block", "_law_far_block", "_law_near", "_law_item", "_law_peer", "_law_length", "_law_is_near_here"]
theorem sclisted_right : FnScope Nlisted_right ["_law_table", "_law_told", "_law_block", "_law_far_block"] (defScope stlisted_right) := ⟨rfl, rfl, rfl, by decide +kernel, rfl, by decide +kernel, by decide +kernel⟩

theorem ok_listed_right (F : FnAt K mg "_law_listed_right" stlisted_right) (T : TxtL25 K mg C R O B G) (D_far : Def P w K mg base CX0 4 "_law_far" ["_law_table", "_law_first", "_law_second"] spFar) (M_Block_listed : MDef P w K mg base CX0 6 B "listed" ["self"] (spListed C R B)) (M_Block_in : MDef P w K mg base CX0 7 B "__contains__" ["self", "value"] (spInBlock C R B)) (M_Room_eq : MDef P w K mg base CX0 2 R "__eq__" ["self", "other"] (spRoomEq C R)) (M_Room_add : MDef P w K mg base CX0 5 R "__add__" ["self", "way"] (spRoomAdd C R)) :
    Def P w K mg base CX0 8 "_law_listed_right" ["_law_table", "_law_told", "_law_block", "_law_far_block"] (spListedRight C R B G) := by
  refine F.ok sclisted_right (fun _ _ _ _ _ _ us hl => match us, hl with | [_, _, _, _], _ => rfl) (fun vs H Q E h => ?_) (fun f cdv A outer s H vs Q E hr h => ?_)
  · obtain ⟨d, g, o, p, a, b, r1, r2, x1, y1, ra, xa, rb, yb, ls, fn, N, M, A, B', D, h, t, rfl, _⟩ := h
    rfl
  obtain ⟨d, g, o, p, a, b, r1, r2, x1, y1, ra, xa, rb, yb, ls, fn, N, M, A1, B', D, h, t, rfl, hd, fl, bg, bo, bp, ba, bb, br, hD, cA, cB, lN, lM, lw, q⟩ := h
  have hu := hu_of hr
  have nd := sclisted_right.nd
  replace D_far := D_far.mono (show 4 ≤ 7 by decide)
  replace M_Block_listed := M_Block_listed.mono (show 6 ≤ 7 by decide)
  replace M_Room_eq := M_Room_eq.mono (show 2 ≤ 7 by decide)
  replace M_Room_add := M_Room_add.mono (show 5 ≤ 7 by decide)
  refine ⟨_, (pss_cons (ps_set (i := 4) nd rfl (Or.inl rfl) (pe_lst pa_nil))
      (pss_cons (ps_for PassesOwn.never rfl (pi_listK (K := K) rfl (pe_md0 M_Block_listed T.Block.cl hr pass0 (pv 2))) (pg_name (i := 5) nd rfl (Or.inl rfl))
      (pss_one (ps_for PassesOwn.never rfl (pi_listK (K := K) rfl (pe_md0 M_Block_listed T.Block.cl hr pass0 (pv 3))) (pg_name (i := 6) nd rfl (Or.inl rfl))
        (pss_cons (ps_set (i := 7) nd rfl (Or.inl rfl) (pe_cd D_far hr pass0 (pa_cons (pv 0) (pa_cons (pe_flK (K := K) rfl (pv 5) rfl) (pa_cons (pe_flK (K := K) rfl (pv 6) rfl) pa_nil)))))
          (pss_cons (ps_set (i := 8) nd rfl (Or.inl rfl) (pe_cmpR op_eq (pv 7) (pe_callB c_lenS (by rfl) T.len PySem.boot_len (pa_cons (pe_flK (K := K) rfl (pv 1) rfl) pa_nil)) (nomark _)))
          (pss_cons (ps_if (PW.pt (pw_or (pt_cmpR op_lt (pv 7) (pe_callB c_lenS (by rfl) T.len PySem.boot_len (pa_cons (pe_flK (K := K) rfl (pv 1) rfl) pa_nil)) (nomark _)) (pw_or1 (pt_cmpR op_ne (pv 8) (pe_and (pe_cmpR (op_inM M_Block_in hr pass0) (pv 5) (pe_flK (K := K) rfl (pv 1) rfl) (by rfl)) (pe_one (pe_cmpR (op_cmpM (op := .Eq) (fun _ _ => rfl) M_Room_eq hr pass0) (pe_op (op_addM M_Room_add T.Room_sf hr pass0) (pv 5) (pe_flK (K := K) rfl (pv 1) rfl)) (pv 6) (nomark _)))) (nomark _)))))
          (pss_one (ps_ret pe_bl))
          pss_nil)
          (pss_one (ps_if (pt_val (pv 8))
          (pss_one (ps_expr (pe_appK (K := K) rfl (pv 4) (pv 6))))
          pss_nil))))))))
      (pss_one (ps_ret (pe_and (pe_cmpR op_eq (pe_callB (c_lenK (K := K) rfl) (by rfl) T.len PySem.boot_len (pa_cons (pv 4) pa_nil)) (pe_flK (K := K) rfl (pe_flK (K := K) rfl (pv 1) rfl) rfl) (nomark _)) (pe_one (pe_notTK (K := K) rfl (pe_lc (own := [("_law_peer", 6)]) (g := gName 6) (by rfl) nd (pi_listK (K := K) rfl (pv 4)) (blkOk_by (own := [("_law_peer", 6)]) (N := Nlisted_right) (sc := defScope stlisted_right) (by decide +kernel)) (fun _ _ _ _ _ => (pg_name (i := 6) nd rfl (Or.inl rfl))) (fun _ _ _ _ _ => (pts_one (pt_cmpR (op_notInM M_Block_in hr pass0) (pv 6) (pe_flK (K := K) rfl (pv 1) rfl) (by rfl)))) (fun _ _ _ _ _ => (pv 6)))))))))), ?_⟩
  refine s_start [some _, some _, some _, some _, none, none, none, none, none] rfl ?_
  have ok := fl.ok
  have nbl : ∀ {x r : Addr} {kinds : List Nat} {v : V}, (blockF x kinds r v).lookup ("listed" : Str) = none := fun {_ _ _ _} => blockF_no (by decide +kernel) (by decide +kernel) (by decide +kernel) (by decide +kernel)
  obtain ⟨av, bv, pairs⟩ := br.pairs ok ba.mn bb.mn ba.mK bb.mK (ba.nd fl) (bb.nd fl) cA cB hD
  walk_at "go"
  intro q0 H1 hq0 s1 e1
  obtain ⟨⟨da, ga⟩, roa⟩ := (ba.same s1).blk
  walk_at "go"
  refine v_md ga nbl ?_
  walk_at "go"
  refine ⟨a, ra, xa, ls, fn, N, A1, rfl, ba.same s1, fl, cA, fun l1 ns1 ps1 H2 hl1 s2 pm1 pw1 e2 pr1 => ?_⟩
  refine ⟨l1, rfl, ⟨_, SqL.of e2⟩, ?_⟩
  have s12 := s1.trans s2
  have nq1 : l1 ≠ q0 := (ne_of_none e1 hl1).symm
  refine for_it walk_list (fun i σ H' => ∃ z5 z6 z7 z8, σ = [some (.ref d), some (.ref g), some (.ref a), some (.ref b), some (.ref q0), z5, z6, z7, z8] ∧ Keep q0 H2 H' ∧ ∃ qs ms, H' q0 = some (.lst (qs.map V.ref)) ∧ Paired (fun p' m => RoomAt R H' p' yb m) qs ms ∧ (∀ m ∈ ms, NF fn m ∧ (∀ y ∈ m, y ∈ ls) ∧ m.length ≤ 400 ∧ baseC fn D m = baseC fn D t) ∧ ms.length = ((ns1.take i).map fun n1 => ((names25 fn M B').filter (nearB fn (wayC fn h t) n1)).length).sum) ⟨none, none, none, none, rfl, (fun _ _ z _ => z), [], [], s2 _ _ e1, .nil, (fun _ z => nomatch z), rfl⟩ (fun i σ H' _ p => SqL.of (p.elim fun _ p => p.elim fun _ p => p.elim fun _ p => p.elim fun _ p => p.2.1 _ _ e2 nq1)) ?_ ?_
  · rintro i v σ H3 H4 hi ⟨z5, z6, z7, z8, rfl, k3, qs, ms, e3, pr3, hm3, len3⟩ ⟨rfl, ev⟩
    have hi' : i < ps1.length := by simpa using hi
    have hin : i < ns1.length := by rw [← paired_len pr1]; exact hi'
    have ev' : v = V.ref (ps1.getD i 0) := by
      rw [List.getElem?_map, List.getElem?_eq_getElem hi'] at ev
      injection ev with ev
      rw [List.getD_eq_getElem?_getD, List.getElem?_eq_getElem hi']
      exact ev.symm
    subst ev'
    have roi0 : RoomAt R H2 (ps1.getD i 0) xa (ns1.getD i []) := paired_get (0 : Addr) ([] : List Nat) pr1 hin
    have q2 := s2 _ _ e1
    obtain ⟨S0, hS0, eS0⟩ := List.mem_map.mp (pm1.mem_iff.mp (getD_memL25 hin))
    have tk : (ns1.take (i + 1)) = ns1.take i ++ [ns1.getD i []] := by
      rw [List.take_succ, List.getD_eq_getElem?_getD, List.getElem?_eq_getElem hin]
      rfl
    have bb3 := (bb.same s12).lst q2 k3
    obtain ⟨⟨db, gb⟩, rob⟩ := bb3.blk
    walk_at "go"
    refine v_md gb nbl ?_
    walk_at "go"
    refine ⟨b, rb, yb, ls, fn, M, B', rfl, bb3, fl, cB, fun l2 ns2 ps2 H5 hl2 s5 pm2 pw2 e5 pr2 => ?_⟩
    refine ⟨l2, rfl, ⟨_, SqL.of e5⟩, ?_⟩
    have nq2 : l2 ≠ q0 := (ne_of_none e3 hl2).symm
    refine for_it walk_list (fun j σ H' => ∃ z6 z7 z8, σ = [some (.ref d), some (.ref g), some (.ref a), some (.ref b), some (.ref q0), some (.ref (ps1.getD i 0)), z6, z7, z8] ∧ Keep q0 H5 H' ∧ ∃ qs ms', H' q0 = some (.lst (qs.map V.ref)) ∧ Paired (fun p' m => RoomAt R H' p' yb m) qs ms' ∧ (∀ m ∈ ms', NF fn m ∧ (∀ y ∈ m, y ∈ ls) ∧ m.length ≤ 400 ∧ baseC fn D m = baseC fn D t) ∧ ms'.length = ms.length + ((ns2.take j).filter (nearB fn (wayC fn h t) (ns1.getD i []))).length) ⟨z6, z7, z8, rfl, (fun _ _ z _ => z), qs, ms, s5 _ _ e3, paired_imp (fun p' m z => z.same s5) pr3, hm3, rfl⟩ (fun i σ H' _ p => SqL.of (p.elim fun _ p => p.elim fun _ p => p.elim fun _ p => p.2.1 _ _ e5 nq2)) ?_ ?_
    · rintro j v σ H6 H7 hj ⟨z6, z7, z8, rfl, k6, qs6, ms6, e6, pr6, hm6, len6⟩ ⟨rfl, ev⟩
      have hj' : j < ps2.length := by simpa using hj
      have hjn : j < ns2.length := by rw [← paired_len pr2]; exact hj'
      have ev' : v = V.ref (ps2.getD j 0) := by
        rw [List.getElem?_map, List.getElem?_eq_getElem hj'] at ev
        injection ev with ev
        rw [List.getD_eq_getElem?_getD, List.getElem?_eq_getElem hj']
        exact ev.symm
      subst ev'
      have roj0 : RoomAt R H5 (ps2.getD j 0) yb (ns2.getD j []) := paired_get (0 : Addr) ([] : List Nat) pr2 hjn
      obtain ⟨T0, hT0, eT0⟩ := List.mem_map.mp (pm2.mem_iff.mp (getD_memL25 hjn))
      have q5 := s5 _ _ e3
      have roi : RoomAt R H7 (ps1.getD i 0) xa (ns1.getD i []) := ((roi0.lst q2 k3).same s5).lst q5 k6
      have roj : RoomAt R H7 (ps2.getD j 0) yb (ns2.getD j []) := roj0.lst q5 k6
      obtain ⟨di, fi⟩ := roi.ex
      obtain ⟨dj, fj⟩ := roj.ex
      obtain ⟨le, near, one, wayt, two⟩ := pairs S0 T0 (subs_mem _ _ hS0) (subs_mem _ _ hT0)
      rw [eS0, eT0] at le near wayt
      rw [eS0] at one
      rw [eT0] at two
      have mni := names_mem25 (fn := fn) ba.mn ba.mK (ns1.getD i []) (pm1.mem_iff.mp (getD_memL25 hin))
      have mnj := names_mem25 (fn := fn) bb.mn bb.mK (ns2.getD j []) (pm2.mem_iff.mp (getD_memL25 hjn))
      have lA := ba.lk fl
      have lB := bb.lk fl
      have bg6 := ((((bg.same s12).lst q2 k3).same s5).lst q5 k6)
      have bo6 := ((((bo.same s12).lst q2 k3).same s5).lst q5 k6)
      have bp6 := ((((bp.same s12).lst q2 k3).same s5).lst q5 k6)
      have hd6 : H7 d = some (.dK (tabKV ls fn)) := k6 _ _ (s5 _ _ (k3 _ _ (s12 _ _ hd) (ne_of (s12 _ _ hd) q2 (by intro z; cases z)))) (ne_of (s12 _ _ hd) q2 (by intro z; cases z))
      obtain ⟨dg, g6⟩ := bg6.ex
      walk_at "go"
      refine v_fld fi T.Room.cl T.nNm roomF_n ?_
      walk_at "go"
      refine v_fld fj T.Room.cl T.nNm roomF_n ?_
      walk_at "go"
      refine ⟨d, ls, fn, ns1.getD i [], ns2.getD j [], rfl, hd6, fl, mni.1, mnj.1, by have := mni.2; omega, by have := mnj.2; omega, fun H8 s8 => ?_⟩
      walk_at "go"
      refine v_fld (s8 _ _ g6) T.Bridge.cl T.nGw briF_w ?_
      walk_at "go"
      refine v_fld (s8 _ _ g6) T.Bridge.cl T.nGw briF_w ?_
      walk_at "go"
      have nfi : NF fn (ns1.getD i []) := eS0 ▸ name_NF ok _
      have nfj : NF fn (ns2.getD j []) := eT0 ▸ name_NF ok _
      have lwn : (nameOf fn ((ns1.getD i []).reverse ++ ns2.getD j [])).length ≥ (wayC fn h t).length := le
      refine if_dec (fun c => absurd c (by omega)) (fun _ => ?_)
      have li := mni.2
      have lj := mnj.2
      have bo8 := bo6.same s8
      obtain ⟨⟨dbo, ebo⟩, roo⟩ := bo8.blk
      have pa8 := ((((((ba.same s12).lst q2 k3).same s5).lst q5 k6).same s8)).pl
      have pb8 := ((((((bb.same s12).lst q2 k3).same s5).lst q5 k6).same s8)).pl
      have roi8 := roi.same s8
      have roj8 := roj.same s8
      walk_at "go"
      refine v_fld (s8 _ _ g6) T.Bridge.cl T.nG1 briF_1 ?_
      walk_at "go"
      refine v_MIn ebo ⟨o, r1, x1, ps1.getD i 0, xa, ls, fn, baseC fn D h, D, ns1.getD i [], true, rfl, bo8, fl, roi8, plans_of25 pa8 bo8.pl, fun _ => ⟨pa8, nfi, mni.1, by omega⟩, fun H9 s9 => ⟨_, rfl, ?_⟩⟩
      rw [Bool.true_and]
      have hN : decide (V.int (nameOf fn ((ns1.getD i []).reverse ++ ns2.getD j [])).length = V.int (wayC fn h t).length) = nearB fn (wayC fn h t) (ns1.getD i []) (ns2.getD j []) := decide_eq_decide.mpr ⟨fun z => by injection z with z; exact Int.ofNat.inj z, fun z => by rw [z]⟩
      rw [hN]
      have tk2 : ns2.take (j + 1) = ns2.take j ++ [ns2.getD j []] := by
        rw [List.take_succ, List.getD_eq_getElem?_getD, List.getElem?_eq_getElem hjn]
        rfl
      have s79 := s8.trans s9
      have f256 : ∀ n1, ((names25 fn M B').filter (nearB fn (wayC fn h t) n1)).length ≤ 256 := fun n1 => Nat.le_trans (List.length_filter_le _ _) (by
        rw [names_len25]
        exact Nat.pow_le_pow_right (by decide : 2 > 0) lB)
      have ms256 := sum_le25 f256 (ns1.take i)
      have il : (ns1.take i).length ≤ 256 := by
        rw [List.length_take, pm1.length_eq]
        have : ((subsL A1).map fun S => nameOf fn (N ++ S)).length ≤ 256 := by
          rw [List.length_map, subs_len]
          exact Nat.pow_le_pow_right (by decide : 2 > 0) lA
        omega
      have il2 : (ns1.take i).length * 256 ≤ 256 * 256 := Nat.mul_le_mul_right 256 il
      have ml6 : ms6.length ≤ 70000 := by
        have a1 := List.length_filter_le (nearB fn (wayC fn h t) (ns1.getD i [])) (ns2.take j)
        have a2 : (ns2.take j).length ≤ 256 := by
          rw [List.length_take, pm2.length_eq]
          have : ((subsL B').map fun S => nameOf fn (M ++ S)).length ≤ 256 := by
            rw [List.length_map, subs_len]
            exact Nat.pow_le_pow_right (by decide : 2 > 0) lB
          omega
        rw [len3] at len6
        omega
      by_cases c : nearB fn (wayC fn h t) (ns1.getD i []) (ns2.getD j []) = true
      · obtain ⟨n1, n2⟩ := near.mp (of_decide_eq_true c)
        have len7 : ms6.length + 1 = ms.length + ((ns2.take (j + 1)).filter (nearB fn (wayC fn h t) (ns1.getD i []))).length := by
          rw [len6, tk2, List.filter_append, List.filter_cons, if_pos c, List.length_append]
          rfl
        rw [c, decide_eq_true (one.mpr n1)]
        walk_at "go"
        refine if_bool (fun _ => ?_) (fun z => nomatch z)
        walk_at "go"
        refine v_fld (s79 _ _ g6) T.Bridge.cl T.nGw briF_w ?_
        walk_at "go"
        have rn : RoomAt R H9 (ps1.getD i 0) xa (nameOf fn (ns1.getD i [])) := by
          rw [show nameOf fn (ns1.getD i []) = ns1.getD i [] from (is_NF ok).mpr nfi]
          exact roi8.same s9
        have mw := way_in25 (f := fn) br.mh br.mt
        refine v_add fl rn (pa8.same s9) mni.1 mw (by omega) (by omega) fun r' H10 hr' s10 ror => ?_
        obtain ⟨drr, frr⟩ := ror.ex
        have roj10 := (roj8.same s9).same s10
        obtain ⟨djj, fjj⟩ := roj10.ex
        have lnm := name_len fn (ns1.getD i [] ++ wayC fn h t)
        rw [List.length_append] at lnm
        walk_at "go"
        refine v_M2 frr fjj ⟨r', xa, _, ps2.getD j 0, yb, ns2.getD j [], true, rfl, ⟨ror, roj10, plans_of25 ((pa8.same s9).same s10) ((pb8.same s9).same s10), by show (nameOf fn _).length ≤ _; omega, by omega⟩, ?_⟩
        rw [Bool.true_and, decide_eq_true (show joinC fn [] (ns1.getD i [] ++ wayC fn h t) = ns2.getD j [] from (wayt n1).mpr n2)]
        walk_at "go"
        refine if_ndec (fun z => (z rfl).elim) (fun _ => ?_)
        walk_at "go"
        have s710 := s79.trans s10
        have e10 := s710 _ _ e6
        have lq := paired_len pr6
        refine ⟨q0, _, _, rfl, rfl, e10, szlt (by rw [List.length_map, lq]; omega), ?_⟩
        have k10 : Keep q0 H10 (upd H10 q0 (.lst (qs6.map V.ref ++ [V.ref (ps2.getD j 0)]))) := Keep.put
        refine ⟨_, _, _, rfl, fun b' o' hb' nb' => by rw [upd_ne nb']; exact s710 _ _ (k6 _ _ hb' nb'), qs6 ++ [ps2.getD j 0], ms6 ++ [ns2.getD j []], by rw [upd_same, List.map_append]; rfl, paired_snoc25 (paired_imp (fun p' m z => (z.same s710).lst e10 k10) pr6) (roj10.lst e10 k10), fun m hm => ?_, by rw [List.length_append]; exact len7⟩
        rcases List.mem_append.mp hm with z | z
        · exact hm6 m z
        · rw [List.mem_singleton.mp z]
          exact ⟨nfj, mnj.1, by omega, two fun c hc => n1 c ((n2 c).mpr hc)⟩
      · have c' := Bool.eq_false_iff.mpr c
        have len7 : ms6.length = ms.length + ((ns2.take (j + 1)).filter (nearB fn (wayC fn h t) (ns1.getD i []))).length := by
          rw [len6, tk2, List.filter_append, List.filter_cons, if_neg c, List.filter_nil, List.append_nil]
        have stay : ∀ H', Same H7 H' → ∃ z6' z7' z8', [some (V.ref d), some (V.ref g), some (V.ref a), some (V.ref b), some (V.ref q0), some (V.ref (ps1.getD i 0)), some (V.ref (ps2.getD j 0)), some (V.int (nameOf fn ((ns1.getD i []).reverse ++ ns2.getD j [])).length), some (V.bl false)] = [some (V.ref d), some (V.ref g), some (V.ref a), some (V.ref b), some (V.ref q0), some (V.ref (ps1.getD i 0)), z6', z7', z8'] ∧ Keep q0 H5 H' ∧ ∃ qs ms', H' q0 = some (.lst (qs.map V.ref)) ∧ Paired (fun p' m => RoomAt R H' p' yb m) qs ms' ∧ (∀ m ∈ ms', NF fn m ∧ (∀ y ∈ m, y ∈ ls) ∧ m.length ≤ 400 ∧ baseC fn D m = baseC fn D t) ∧ ms'.length = ms.length + ((ns2.take (j + 1)).filter (nearB fn (wayC fn h t) (ns1.getD i []))).length := fun H' s' =>
          ⟨_, _, _, rfl, fun b' o' hb' nb' => s' _ _ (k6 _ _ hb' nb'), qs6, ms6, s' _ _ e6, paired_imp (fun p' m z => z.same s') pr6, hm6, len7⟩
        rw [c']
        walk_at "go"
        refine if_bool (fun z => ?_) (fun z => ?_)
        · have n1 := one.mp (by simpa using z)
          walk_at "go"
          refine v_fld (s79 _ _ g6) T.Bridge.cl T.nGw briF_w ?_
          walk_at "go"
          have rn : RoomAt R H9 (ps1.getD i 0) xa (nameOf fn (ns1.getD i [])) := by
            rw [show nameOf fn (ns1.getD i []) = ns1.getD i [] from (is_NF ok).mpr nfi]
            exact roi8.same s9
          have mw := way_in25 (f := fn) br.mh br.mt
          refine v_add fl rn (pa8.same s9) mni.1 mw (by omega) (by omega) fun r' H10 hr' s10 ror => ?_
          obtain ⟨drr, frr⟩ := ror.ex
          have roj10 := (roj8.same s9).same s10
          obtain ⟨djj, fjj⟩ := roj10.ex
          have lnm := name_len fn (ns1.getD i [] ++ wayC fn h t)
          rw [List.length_append] at lnm
          walk_at "go"
          refine v_M2 frr fjj ⟨r', xa, _, ps2.getD j 0, yb, ns2.getD j [], true, rfl, ⟨ror, roj10, plans_of25 ((pa8.same s9).same s10) ((pb8.same s9).same s10), by show (nameOf fn _).length ≤ _; omega, by omega⟩, ?_⟩
          rw [Bool.true_and, decide_eq_false (show ¬ joinC fn [] (ns1.getD i [] ++ wayC fn h t) = ns2.getD j [] from fun y => c (decide_eq_true (near.mpr ⟨n1, (wayt n1).mp y⟩)))]
          walk_at "go"
          refine if_ndec (fun z => (z rfl).elim) (fun _ => ?_)
          walk_at "go"
          exact stay H10 (s79.trans s10)
        · walk_at "go"
          refine if_ndec (fun z => (z rfl).elim) (fun _ => ?_)
          walk_at "go"
          exact stay H9 s79
    · rintro σ H6 ⟨z6', z7', z8', rfl, k6, qs6, ms6, e6, pr6, hm6, len6⟩
      refine ⟨_, _, _, _, rfl, fun b' o' hb' nb' => k6 _ _ (s5 _ _ (k3 _ _ hb' nb')) nb', qs6, ms6, e6, pr6, hm6, ?_⟩
      rw [List.length_map, paired_len pr2, List.take_length, (pm2.filter _).length_eq] at len6
      rw [len6, len3, tk, List.map_append, List.sum_append, List.map_cons, List.map_nil, List.sum_cons, List.sum_nil, Nat.add_zero]
      rfl
  · rintro σ H3 ⟨z5, z6, z7, z8, rfl, k3, qs, ms, e3, pr3, hm3, len3⟩
    rw [List.length_map, paired_len pr1, List.take_length] at len3
    have mD : ∀ k ∈ D, k ∈ A1 := fun k hk => ((hD k).mp hk).1
    have cnt : ms.length = 2 ^ D.length := by
      have pc := pairs_count (A := A1) (B := B') (D := D) (a := av) (b := bv) (ba.nd fl) (bb.nd fl) (fun c hc => ((hD c).mp hc).2.1) (List.Perm.refl (subsL A1)) (List.Perm.refl (subsL B')) (fun S T => nearB fn (wayC fn h t) (nameOf fn (N ++ S)) (nameOf fn (M ++ T))) fun S hS T hT => by
        obtain ⟨_, near, _⟩ := pairs S T (subs_mem _ _ hS) (subs_mem _ _ hT)
        unfold nearB
        rw [decide_eq_true_iff]
        exact near
      have dl : (A1.filter fun c => decide (c ∈ D)).length = D.length := by
        refine ((List.perm_ext_iff_of_nodup ((ba.nd fl).sublist List.filter_sublist) (bo.nd fl)).mpr fun k => ?_).length_eq
        rw [List.mem_filter, decide_eq_true_iff]
        exact ⟨fun z => z.2, fun z => ⟨mD k z, z⟩⟩
      rw [dl, List.length_flatMap] at pc
      rw [len3, sum_perm _ pm1, List.map_map, ← pc]
      congr 1
      refine List.map_congr_left fun S _ => ?_
      show ((names25 fn M B').filter (nearB fn (wayC fn h t) (nameOf fn (N ++ S)))).length = _
      unfold names25
      rw [List.filter_map, List.length_map]
      rfl
    have lD := bo.lk fl
    have q2 := s2 _ _ e1
    have bg3 := (bg.same s12).lst q2 k3
    have bo3 := (bo.same s12).lst q2 k3
    have bp3 := (bp.same s12).lst q2 k3
    obtain ⟨dg, g3⟩ := bg3.ex
    obtain ⟨⟨dbo, ebo⟩, roo⟩ := id bo3.blk
    obtain ⟨⟨dbp, ebp⟩, rop⟩ := id bp3.blk
    have clD : Cliq fn D := fun k hk j hj ne => cA k (mD k hk) j (mD j hj) ne
    rw [many25 fl bo.mK clD] at ebo
    have lq := paired_len pr3
    have l256 : 2 ^ D.length ≤ 256 := Nat.pow_le_pow_right (by decide : 2 > 0) lD
    walk_at "go"
    refine v_fld g3 T.Bridge.cl T.nG1 briF_1 ?_
    refine v_fld ebo T.Block.cl T.nBm blockF_m ?_
    walk_at "go"
    refine if_dec (fun _ => ?_) (fun z => (z (by rw [List.length_map, lq, cnt]; norm_cast)).elim)
    refine e_notT ?_
    walk_at "go"
    refine lc_gen (n := qs.length) (it := fun k => V.ref (qs.getD k 0)) (b := fun _ => false) (f := fun _ => V.non) (by have w := walk_refs (K := K) (D0 := q0) (As := qs) (us := ms.map fun _ _ => (0 : Int)) (by rw [List.length_map]; exact lq); rw [List.length_map, ← lq] at w; exact w) (fun H' s' => SqL.of (s' _ _ e3)) (by omega) (fun k hk H4 s4 R' r => ?_) (fun _ _ z => nomatch z) (fun D4 H4 hD4 s4 e4 => ?_)
    · have hkm : k < ms.length := by omega
      have ro4 := (paired_get (0 : Addr) ([] : List Nat) pr3 hkm).same s4
      obtain ⟨m1, m2, m3, m4⟩ := hm3 _ (getD_memL25 hkm)
      have pb4 := (((bb.same s12).lst q2 k3).same s4).pl
      have bp4 := bp3.same s4
      walk_at "go"
      refine v_fld (s4 _ _ g3) T.Bridge.cl T.nG2 briF_2 ?_
      walk_at "go"
      refine v_MIn (s4 _ _ ebp) ⟨p, r2, y1, qs.getD k 0, yb, ls, fn, baseC fn D t, D, ms.getD k [], true, rfl, bp4, fl, ro4, plans_of25 pb4 bp4.pl, fun _ => ⟨pb4, m1, m2, Nat.le_trans m3 (by decide)⟩, fun H5 s5 => ⟨_, rfl, ?_⟩⟩
      rw [Bool.true_and, decide_eq_true m4]
      exact ⟨_, rfl, r H5 s5⟩
    · rw [List.filter_eq_nil_iff.mpr fun _ _ => Bool.false_ne_true, List.map_nil] at e4
      refine ⟨false, .inl ⟨[], SqL.of e4, rfl⟩, ?_⟩
      refine q H4 fun b' o' hb' => ?_
      have hb2 := s12 _ _ hb'
      exact s4 _ _ (k3 _ _ hb2 (ne_of_none hb' hq0))
end
end
section
open PySem PySem.Spec L2
theorem BriR.congr {f : Nat → List Nat} {A A' B B' D n1 n2 w s o : List Nat} (h : BriR f A' B' D n1 n2 w s o) (hA : ∀ c, c ∈ A' ↔ c ∈ A) (hB : ∀ c, c ∈ B' ↔ c ∈ B) : BriR f A B D n1 n2 w s o :=
  ⟨fun c hc => (hA c).mp (h.one c hc), fun c hc => (hB c).mp (h.two c hc), fun c hc => h.heads c ((hA c).mpr hc), fun c hc => h.tails c ((hB c).mpr hc), h.near1, h.near2, h.home, h.goal⟩
theorem base_word25 {fn : Nat → List Nat} (ok : CrOk fn) (A n : List Nat) : ∃ e, (∀ y ∈ e, y ∈ A) ∧ Alike fn n (baseC fn A (nameOf fn n) ++ e) := by
  obtain ⟨e, h1, _, h2, _⟩ := base_spec ok A (nameOf fn n)
  exact ⟨e, h1, (name_alike ok n).symm.trans h2.symm⟩
theorem bright25 {C R B G : Addr} {H : Hp} {Q : VK} {E : XK} {d g o p r1 r2 x y : Addr} {ls : List Nat} {fn : Nat → List Nat} {A B0 A' B' N M h t n1 n2 : List Nat} (fl : Fl ls fn) (hd : H d = some (.dK (tabKV ls fn))) (bg : BriAt G H g (wayC fn h t) (dueL fn A' B' (wayC fn h t)) o p)
    (bo : BlkF C R B H o r1 x ls fn (baseC fn (dueL fn A' B' (wayC fn h t)) h) (dueL fn A' B' (wayC fn h t))) (bp : BlkF C R B H p r2 y ls fn (baseC fn (dueL fn A' B' (wayC fn h t)) t) (dueL fn A' B' (wayC fn h t))) (br : Bri fn ls A' B' N M h t) (lw : (wayC fn h t).length ≤ 300)
    (hA : ∀ c, c ∈ A' ↔ c ∈ A) (hB : ∀ c, c ∈ B' ↔ c ∈ B0) (mA : ∀ c ∈ A, c ∈ ls) (mB : ∀ c ∈ B0, c ∈ ls) (eN : N = baseC fn A' (nameOf fn n1)) (eM : M = baseC fn B' (nameOf fn n2)) (m1 : ∀ c ∈ n1, c ∈ ls) (m2 : ∀ c ∈ n2, c ∈ ls) (l1 : n1.length ≤ 200) (l2 : n2.length ≤ 200)
    (q : ∀ H', Same H H' → Q (.bl true) H') : spBridgeRight R B G [.ref d, .ref g, .str (tx n1), .str (tx A), .str (tx n2), .str (tx B0)] H Q E := by
  have ok := fl.ok
  have mw := way_in25 (f := fn) br.mh br.mt
  have rr := (br.right ok (fun c hc => mA c ((hA c).mp hc)) (fun c hc => mB c ((hB c).mp hc)) (D := dueL fn A' B' (wayC fn h t)) (fun _ => due_mem) (n1 := n1) (n2 := n2) (by rw [eN]; exact base_word25 ok A' n1) (by rw [eM]; exact base_word25 ok B' n2)).congr hA hB
  refine ⟨d, g, o, p, r1, r2, x, y, ls, fn, n1, n2, A, B0, _, _, _, _, _, _, rfl, hd, fl, bg, bo.blk, bp.blk, fun k => ?_, bo.as, rr, name_name ok _, m1, m2, mw, bo.mn, bp.mn, by have := bo.ln; have := bp.ln; omega, q⟩
  rw [due_mem, hA, hB]
theorem way_len25 {f : Nat → List Nat} {a b : List Nat} {m n : Nat} (h1 : a.length ≤ m) (h2 : b.length ≤ n) : (wayC f a b).length ≤ m + n := by
  have := name_len f (a.reverse ++ b)
  rw [List.length_append, List.length_reverse] at this
  show (nameOf f (a.reverse ++ b)).length ≤ _
  omega
def spPlainRight25 (C R B G : Addr) : Sp := fun vs H Q _ => ∃ (d g q1 q2 o p r1 r2 x y : Addr) (ls : List Nat) (fn : Nat → List Nat) (n1 n2 A B0 w D s t : List Nat), vs = [.ref d, .ref g, .ref q1, .ref q2] ∧ H d = some (.dK (tabKV ls fn)) ∧ Fl ls fn ∧ BriAt G H g w D o p ∧ BlkF C R B H o r1 x ls fn s D ∧ BlkF C R B H p r2 y ls fn t D ∧
  H q1 = some (.lst [.str (tx n1), .str (tx n2)]) ∧ H q2 = some (.lst [.str (tx A), .str (tx B0)]) ∧ (∀ c ∈ n1, c ∈ ls) ∧ (∀ c ∈ n2, c ∈ ls) ∧ n1.length ≤ 80 ∧ n2.length ≤ 90 ∧ (∀ c ∈ A, c ∈ ls) ∧ (∀ c ∈ B0, c ∈ ls) ∧ A.Nodup ∧ B0.Nodup ∧ ∀ H', Same H H' → Q (.bl true) H'
section
variable {P : Program} {w : World} {K : PySem.W.Frag} {mg : Str → Option Value} {base : Heap} {C R O B G e0 : Addr}
abbrev stplain_right : Stmt := (top 70)
abbrev Nplain_right : List Str := ["_law_table", "_law_told", "_law_walks", "_law_kinds_of", "_law_apart", "_law_bare", "_law_found"]
theorem scplain_right : FnScope Nplain_right ["_law_table", "_law_told", "_law_walks", "_law_kinds_of"] (defScope stplain_right) := ⟨rfl, rfl, rfl, by decide +kernel, rfl, by decide +kernel, by decide +kernel⟩

theorem ok_plain_right (F : FnAt K mg "_law_plain_right" stplain_right) (T : TxtL25 K mg C R O B G) (kt : ∀ H : Hp, SeqO K H e0 []) (D_plain : Def P w K mg base CX0 1 "_law_plain" ["_law_table"] spPlain) (D_bridge : Def P w K mg base CX0 7 "bridge" ["one", "other"] (calmOf (spBri C R B O G))) (D_alike : Def P w K mg base CX0 7 "_law_alike" ["_law_item", "_law_peer"] (spAlike C R B G)) (D_bridge_right : Def P w K mg base CX0 6 "_law_bridge_right" ["_law_table", "_law_told", "_law_first", "_law_mine", "_law_second", "_law_yours"] (spBridgeRight R B G))
    (C_Room : CDef P w K mg base CX0 3 "Room" R (spRoom C R)) (C_Block : CDef P w K mg base CX0 5 "Block" B (spBlock C R B)) (C_Plan_1 : CDefN P w K mg base CX0 3 "Plan" C (spPlan K C) 1 [] [.pos 0, .dfl 0] [.ref e0]) : Def P w K mg base CX0 8 "_law_plain_right" ["_law_table", "_law_told", "_law_walks", "_law_kinds_of"] (spPlainRight25 C R B G) := by
  refine F.ok scplain_right (fun _ _ _ _ _ _ us hl => match us, hl with | [_, _, _, _], _ => rfl) (fun vs H Q E h => ?_) (fun f cdv A outer s H vs Q E hr h => ?_)
  · obtain ⟨d, g, q1, q2, o, p, r1, r2, x, y, ls, fn, n1, n2, A, B0, w1, D, s, t, rfl, _⟩ := h
    rfl
  obtain ⟨d, g, q1, q2, o, p, r1, r2, x, y, ls, fn, n1, n2, A1, B0, w1, D, s', t, rfl, hd, fl, bg, bo, bp, hq1, hq2, m1, m2, l1, l2, mA, mB, nA, nB, q⟩ := h
  have hu := hu_of hr
  have nd := scplain_right.nd
  replace D_plain := D_plain.mono (show 1 ≤ 7 by decide)
  replace D_bridge_right := D_bridge_right.mono (show 6 ≤ 7 by decide)
  replace C_Room := C_Room.mono (show 3 ≤ 6 by decide)
  replace C_Block := C_Block.mono (show 5 ≤ 6 by decide)
  replace C_Plan_1 := C_Plan_1.mono (show 3 ≤ 6 by decide)
  refine ⟨_, (pss_cons (ps_par (i := 4) (j := 5) (by rfl) nd rfl rfl (by decide) rfl rfl (pa_cons (pe_mkN C_Plan_1 hr pass0 (pa_cons (pe_joinD rfl (pe_tx [] (by decide +kernel)) (pv 0)) pa_nil) pk_nil) (pa_cons (pe_cd D_plain hr pass0 (pa_cons (pv 0) pa_nil)) pa_nil)) (by rfl))
      (pss_cons (ps_set (i := 6) nd rfl (Or.inl rfl) (pe_cd D_bridge hr pass0 (pa_cons (pe_mk C_Block hr pass0 (pa_cons (pe_mk C_Room hr pass0 (pa_cons (pv 4) (pa_cons (pe_ix (ix_LK (K := K) rfl) (pv 2) pe_int (fun _ _ => rfl)) pa_nil))) (pa_cons (pe_ix (ix_LK (K := K) rfl) (pv 3) pe_int (fun _ _ => rfl)) pa_nil))) (pa_cons (pe_mk C_Block hr pass0 (pa_cons (pe_mk C_Room hr pass0 (pa_cons (pv 4) (pa_cons (pe_ix (ix_LK (K := K) rfl) (pv 2) pe_int (fun _ _ => rfl)) pa_nil))) (pa_cons (pe_ix (ix_LK (K := K) rfl) (pv 3) pe_int (fun _ _ => rfl)) pa_nil))) pa_nil))))
      (pss_cons (ps_if (pt_not (pt_val (pe_cd D_alike hr pass0 (pa_cons (pv 1) (pa_cons (pv 6) pa_nil)))))
      (pss_one (ps_ret pe_bl))
      pss_nil)
      (pss_one (ps_ret (pe_cd D_bridge_right hr pass0 (pa_cons (pv 5) (pa_cons (pv 6) (pa_cons (pe_ix (ix_LK (K := K) rfl) (pv 2) pe_int (fun _ _ => rfl)) (pa_cons (pe_ix (ix_LK (K := K) rfl) (pv 3) pe_int (fun _ _ => rfl)) (pa_cons (pe_ix (ix_LK (K := K) rfl) (pv 2) pe_int (fun _ _ => rfl)) (pa_cons (pe_ix (ix_LK (K := K) rfl) (pv 3) pe_int (fun _ _ => rfl)) pa_nil)))))))))))), ?_⟩
  refine s_start [some _, some _, some _, some _, none, none, none] rfl ?_
  walk_at "go2"
  refine v_joinD (g := fun c => V.str (tx (fn c))) hd (by have := fl.tab.len; omega) ?_
  walk_at "go2"
  refine ⟨ls, e0, [], rfl, ⟨kt _, by decide, fun _ z => (nomatch z), fl.tab.lt, fl.tab.nd, fl.tab.len⟩, fun z H1 hz s1 plz _ => ?_⟩
  have plz : PlanAt C H1 z (ascOf ls) (tabPairs ls fun _ => []) := by
    rw [tabPairs_plain]
    have e : prsOf [] = [] := by decide +kernel
    rw [e] at plz
    exact plz
  have f0 := fl.plain
  walk_at "go2"
  refine ⟨d, ls, fn, rfl, s1 _ _ hd, fl.tab, fun bd H2 hbd s2 e2 => ?_⟩
  have s12 := s1.trans s2
  have plz2 := plz.same s2
  walk_at "go2"
  refine v_ixL (s12 _ _ hq1) (atI_nat (j := 0) rfl) ?_
  walk_at "go2"
  refine sp_room f0 plz2 m1 (by omega) fun ra H3 hra s3 ro3 => ?_
  walk_at "go2"
  refine v_ixL (s3 _ _ (s12 _ _ hq2)) (atI_nat (j := 0) rfl) ?_
  walk_at "go2"
  have la := name_len (fun _ => []) n1
  have lb := name_len (fun _ => []) n2
  refine sp_block f0 ro3 (plz2.same s3) (name_NF f0.ok n1) (memN m1) (by show (nameOf _ n1).length ≤ _; omega) mA nA fun ba rba H4 hba s4 ba4 => ?_
  walk_at "go2"
  refine v_ixL (s4 _ _ (s3 _ _ (s12 _ _ hq1))) (atI_nat (j := 1) rfl) ?_
  walk_at "go2"
  have s14 := (s12.trans s3).trans s4
  refine sp_room f0 (plz.same ((s2.trans s3).trans s4)) m2 (by omega) fun rb H5 hrb s5 ro5 => ?_
  walk_at "go2"
  refine v_ixL (s5 _ _ (s14 _ _ hq2)) (atI_nat (j := 1) rfl) ?_
  walk_at "go2"
  refine sp_block f0 ro5 (plz.same (((s2.trans s3).trans s4).trans s5)) (name_NF f0.ok n2) (memN m2) (by show (nameOf _ n2).length ≤ _; omega) mB nB fun bb rbb H6 hbb s6 bb6 => ?_
  walk_at "go2"
  have ba6 := (ba4.same s5).same s6
  have eNl : (baseC (fun _ => []) (ls.filter fun k => decide (k ∈ A1)) (nameOf (fun _ => []) n1)).length ≤ 80 := by
    obtain ⟨_, _, _, _, el⟩ := base_spec f0.ok (ls.filter fun k => decide (k ∈ A1)) (nameOf (fun _ => []) n1)
    omega
  have eMl : (baseC (fun _ => []) (ls.filter fun k => decide (k ∈ B0)) (nameOf (fun _ => []) n2)).length ≤ 90 := by
    obtain ⟨_, _, _, _, el⟩ := base_spec f0.ok (ls.filter fun k => decide (k ∈ B0)) (nameOf (fun _ => []) n2)
    omega
  have wNM := way_len25 (f := fun _ => []) eNl eMl
  refine ⟨ba, rba, z, bb, rbb, z, ls, _, _, _, _, _, _, true, 170, rfl, ba6, f0, bb6.blk, plans_of25 ba6.pl ba6.pl, (fun z => nomatch z), fun _ => ⟨bb6, wNM, Nat.le_trans (Nat.add_le_add_right eNl 170) (by decide), Nat.le_trans (Nat.add_le_add_right eMl 170) (by decide), fun g2 o2 p2 r3 r4 h2 t2 H7 hg2 s7 br lw _ bg2 bo2 bp2 => ?_⟩⟩
  have s17 := (((s14.trans s5).trans s6).trans s7)
  walk_at "go2"
  have eqb : ∀ {o o' r r' : Addr} {D D' m n : List Nat} {f1 f2 : Nat → List Nat} {x z : Addr}, BlkF C R B H7 o r x ls f1 m D → BlkF C R B H7 o' r' z ls f2 n D' → ∃ e, BEq C R B o o' H7 e := fun b1 b2 =>
    ⟨_, _, _, _, _, _, _, _, _, _, _, _, b1.blk, b2.blk, ⟨b1.blk.ro, b2.blk.ro, ⟨_, _, _, _, b1.pl, b2.pl, pairsOf_small _, pairsOf_small _, rfl⟩, by have := b1.ln; omega, by have := b2.ln; omega⟩, rfl⟩
  obtain ⟨e1, q1'⟩ := eqb (bo.same s17) bo2
  obtain ⟨e2', q2'⟩ := eqb (bp.same s17) bp2
  refine ⟨g, g2, _, _, _, _, _, _, _, _, e1, e2', rfl, bg.same s17, bg2, q1', q2', fun H8 s8 => ?_⟩
  walk_at "go2"
  refine v_ixL (s8 _ _ (s17 _ _ hq1)) (atI_nat (j := 0) rfl) ?_
  walk_at "go2"
  refine v_ixL (s8 _ _ (s17 _ _ hq2)) (atI_nat (j := 0) rfl) ?_
  walk_at "go2"
  refine v_ixL (s8 _ _ (s17 _ _ hq1)) (atI_nat (j := 1) rfl) ?_
  walk_at "go2"
  refine v_ixL (s8 _ _ (s17 _ _ hq2)) (atI_nat (j := 1) rfl) ?_
  walk_at "go2"
  have mf : ∀ {A : List Nat}, (∀ c ∈ A, c ∈ ls) → ∀ c, c ∈ (ls.filter fun k => decide (k ∈ A)) ↔ c ∈ A := fun {A} mA c => by
    rw [List.mem_filter, decide_eq_true_iff]
    exact ⟨fun z => z.2, fun z => ⟨mA c z, z⟩⟩
  exact bright25 f0 (s8 _ _ (s7 _ _ (s6 _ _ (s5 _ _ (s4 _ _ (s3 _ _ e2)))))) (bg2.same s8) (bo2.same s8) (bp2.same s8) br (Nat.le_trans lw (by decide)) (mf mA) (mf mB) mA mB rfl rfl m1 m2 (by omega) (by omega) fun H9 s9 => q H9 ((s17.trans s8).trans s9)
end
end
section
open PySem PySem.Spec L2
structure TxtK25 (K : PySem.W.Frag) (mg : Str → Option Value) (C R O B G : Addr) : Prop extends TxtL25 K mg C R O B G where
  Bridge_nfBlock : PySem.W.notFirst K G (.ref B) = true
theorem beq25 {C R B : Addr} {H : Hp} {o r x o' r' x' : Addr} {ls : List Nat} {fn : Nat → List Nat} {m n D D' : List Nat} (h : BlkF C R B H o r x ls fn m D) (h' : BlkF C R B H o' r' x' ls fn n D') : BEq C R B o o' H (decide (m = n) && decide (D = D')) :=
  ⟨_, _, _, _, _, _, _, _, _, _, true, h.blk, h'.blk, ⟨h.blk.ro, h'.blk.ro, plans_of25 h.pl h'.pl, by have := h.ln; omega, by have := h'.ln; omega⟩, by rw [Bool.true_and]⟩
theorem BEq.eq {C R B : Addr} {H : Hp} {Q' : VK} {E : XK} {o o' : Addr} {e : Bool} (h : BEq C R B o o' H e) (q : Q' (.bl e) H) : rM2 B (spBlockEq C R B) E (.ref o) (.ref o') H Q' := by
  obtain ⟨r1, x, kk, m, v, r', y, kk', n, v', e0, h1, h3, h4, h5⟩ := h
  obtain ⟨dq, eq⟩ := h1.ex
  obtain ⟨dr, er⟩ := h3.ex
  exact v_M2 eq er ⟨o, r1, x, kk, m, v, o', r', y, kk', n, v', e0, rfl, h1, h3, h4, h5 ▸ q⟩
theorem BlkF.pen {C R B : Addr} {H H' : Hp} {a r x : Addr} {ls : List Nat} {fn : Nat → List Nat} {n K : List Nat} {g : Pen} {m : Nat} (h : BlkF C R B H a r x ls fn n K) (p : PenAt g H m) (k : Keep g.p H H') : BlkF C R B H' a r x ls fn n K := by
  obtain ⟨⟨⟨dx, e⟩, ro⟩, pl, h1, h2, h3, h4, h5⟩ := h
  obtain ⟨a1, b, hp, _⟩ := p.ex
  exact ⟨⟨⟨dx, k _ _ e (fun z => by rw [z, hp] at e; cases e)⟩, ro.pen p k⟩, pl.pen p k, h1, h2, h3, h4, h5⟩
theorem sp_bri {C R B O G : Addr} {H : Hp} {Q : VK} {E : XK} {a r x b r' y : Addr} {ls : List Nat} {fn : Nat → List Nat} {N A M B' : List Nat} (fl : Fl ls fn) (ba : BlkF C R B H a r x ls fn N A) (bb : BlkF C R B H b r' y ls fn M B') (L : Nat) (h0 : (wayC fn N M).length ≤ L) (h1 : N.length + L ≤ 900) (h2 : M.length + L ≤ 900)
    (q : ∀ (g o p r1 r2 : Addr) (h t : List Nat) H', H g = none → Same H H' → Bri fn ls A B' N M h t → (wayC fn h t).length ≤ L → h.length ≤ N.length + L → BriAt G H' g (wayC fn h t) (dueL fn A B' (wayC fn h t)) o p → BlkF C R B H' o r1 x ls fn (baseC fn (dueL fn A B' (wayC fn h t)) h) (dueL fn A B' (wayC fn h t)) → BlkF C R B H' p r2 y ls fn (baseC fn (dueL fn A B' (wayC fn h t)) t) (dueL fn A B' (wayC fn h t)) → Q (.ref g) H') :
    calmOf (spBri C R B O G) [.ref a, .ref b] H Q E :=
  ⟨a, r, x, b, r', y, ls, fn, N, A, B', M, _, true, L, rfl, ba, fl, bb.blk, plans_of25 ba.pl bb.pl, (fun z => nomatch z), fun _ => ⟨bb, h0, h1, h2, q⟩⟩
theorem ifc25 {σ : L2.St} {H : Hp} {Q : VK} {c : Bool} {a b : Int} (q : ∀ z : Int, Q (.int z) H) : if c = true then tC (.int a) σ H Q else tC (.int b) σ H Q := by
  cases c
  · exact q b
  · exact q a
theorem pow25 {l : List Nat} (h : l.length ≤ 8) : 0 ≤ (2 : Int) ^ l.length ∧ (2 : Int) ^ l.length ≤ 256 := by
  have e : (2 : Int) ^ l.length = ((2 ^ l.length : Nat) : Int) := by push_cast; rfl
  have h2 : 2 ^ l.length ≤ 2 ^ 8 := Nat.pow_le_pow_right (by decide) h
  have h3 : (2 : Nat) ^ 8 = 256 := by decide
  rw [e]
  exact ⟨Int.natCast_nonneg _, by omega⟩
theorem same25 {ls : List Nat} {fn : Nat → List Nat} (ok : CrOk fn) {A B N M h t h' t' : List Nat} (mA : ∀ y ∈ A, y ∈ ls) (mB : ∀ y ∈ B, y ∈ ls) (x : Bri fn ls A B N M h t) (y : Bri fn ls A B N M h' t') :
    wayC fn h' t' = wayC fn h t ∧ baseC fn (dueL fn A B (wayC fn h t)) h' = baseC fn (dueL fn A B (wayC fn h t)) h ∧ baseC fn (dueL fn A B (wayC fn h t)) t' = baseC fn (dueL fn A B (wayC fn h t)) t := by
  obtain ⟨e, v, hv, a1, a2⟩ := x.uniq ok mA mB y
  have mD : ∀ k ∈ dueL fn A B (wayC fn h t), k ∈ ls := fun k hk => mA k (due_mem.mp hk).1
  exact ⟨e.symm, ((base_iff ok x.nh y.nh x.mh y.mh mD).mpr ⟨v, fun s hs => due_mem.mpr (hv s hs), a1⟩).symm, ((base_iff ok x.nt y.nt x.mt y.mt mD).mpr ⟨v, fun s hs => due_mem.mpr (hv s hs), a2⟩).symm⟩
section
variable {P : Program} {w : World} {K : PySem.W.Frag} {mg : Str → Option Value} {base : Heap} {C R O B G e0 : Addr}
abbrev stlaw : Stmt := (top 71)
abbrev Nlaw : List Str := ["_law_script", "_law_pen_here", "_law_again", "_law_table", "_law_floor_here", "_law_first", "_law_mine", "_law_yours", "_law_second", "_law_block", "_law_far_block", "_law_told", "_law_bound", "_law_back", "_law_single"]
theorem sclaw : FnScope Nlaw ["_law_script"] (defScope stlaw) := ⟨rfl, rfl, rfl, by decide +kernel, rfl, by decide +kernel, by decide +kernel⟩

theorem ok_law {f : Addr} {fd : FuncData} (F : Fun K "law" "law" stlaw f fd) (T : TxtK25 K mg C R O B G) (D_pen : Def P w K mg base CX0 1 "_law_pen" ["_law_script"] (spPen K)) (D_draw : Def P w K mg base CX0 1 "_law_draw" ["_law_pen_here", "_law_number"] spDraw) (D_pick : Def P w K mg base CX0 2 "_law_pick" ["_law_pen_here", "_law_items"] spPick) (D_floor : Def P w K mg base CX0 3 "_law_floor" ["_law_pen_here", "_law_number"] spFloor) (D_made : Def P w K mg base CX0 5 "_law_made" ["_law_pen_here", "_law_table"] (spMade C)) (D_walk : Def P w K mg base CX0 3 "_law_walk" ["_law_pen_here", "_law_table", "_law_number"] spWalk)
    (D_begun : Def P w K mg base CX0 4 "_law_begun" ["_law_pen_here", "_law_table", "_law_number", "_law_size"] spBegun) (D_subset : Def P w K mg base CX0 3 "_law_subset" ["_law_pen_here", "_law_table"] spSubset) (D_clique : Def P w K mg base CX0 3 "_law_clique" ["_law_pen_here", "_law_table", "_law_number"] spClique) (D_name : Def P w K mg base CX0 3 "_law_name" ["_law_table", "_law_walk_here"] spName)
    (D_bridge : Def P w K mg base CX0 7 "bridge" ["one", "other"] (calmOf (spBri C R B O G))) (D_bridge_0_other_one : DefN P w K mg base CX0 7 "bridge" (calmOf (spBri C R B O G)) 0 ["other", "one"] [.kw 1, .kw 0] []) (D_bridge_right : Def P w K mg base CX0 6 "_law_bridge_right" ["_law_table", "_law_told", "_law_first", "_law_mine", "_law_second", "_law_yours"] (spBridgeRight R B G)) (D_listed_right : Def P w K mg base CX0 8 "_law_listed_right" ["_law_table", "_law_told", "_law_block", "_law_far_block"] (spListedRight C R B G)) (D_plain_right : Def P w K mg base CX0 8 "_law_plain_right" ["_law_table", "_law_told", "_law_walks", "_law_kinds_of"] (spPlainRight25 C R B G))
    (D_alike : Def P w K mg base CX0 7 "_law_alike" ["_law_item", "_law_peer"] (spAlike C R B G)) (D_is_refused : Def P w K mg base CX0 8 "_law_is_refused" ["_law_block", "_law_far_block"] (spIsRefusedB C R B)) (C_Room : CDef P w K mg base CX0 3 "Room" R (spRoom C R)) (C_Room_1 : CDefN P w K mg base CX0 3 "Room" R (spRoom C R) 1 [] [.pos 0, .dfl 0] [.str (tx [])]) (C_Block : CDef P w K mg base CX0 5 "Block" B (spBlock C R B)) (M_Block_eq : MDef P w K mg base CX0 3 B "__eq__" ["self", "other"] (spBlockEq C R B))
    (M_Bridge_eq : MDef P w K mg base CX0 5 G "__eq__" ["self", "other"] (spBridgeEq C R B G)) (M_Bridge_eqBlock : MDef P w K mg base CX0 5 G "__eq__" ["self", "other"] (spBridgeNo B G)) (M_Room_add : MDef P w K mg base CX0 5 R "__add__" ["self", "way"] (spRoomAdd C R)) : FnOk P w K mg base CX0 10 f fd ["_law_script"] (spLaw K) := by
  refine F.ok sclaw (fun vs H Q E h => ?_) (fun cdv A outer s H vs Q E hr h => ?_)
  · obtain ⟨a, ns, rfl, _⟩ := h
    rfl
  obtain ⟨sc, ns, rfl, ha, hn, k⟩ := h
  have hu := hu_of hr
  have nd := sclaw.nd
  replace D_pen := D_pen.mono (show 1 ≤ 9 by decide)
  replace D_draw := D_draw.mono (show 1 ≤ 9 by decide)
  replace D_pick := D_pick.mono (show 2 ≤ 9 by decide)
  replace D_floor := D_floor.mono (show 3 ≤ 9 by decide)
  replace D_made := D_made.mono (show 5 ≤ 9 by decide)
  replace D_walk := D_walk.mono (show 3 ≤ 9 by decide)
  replace D_begun := D_begun.mono (show 4 ≤ 9 by decide)
  replace D_subset := D_subset.mono (show 3 ≤ 9 by decide)
  replace D_clique := D_clique.mono (show 3 ≤ 9 by decide)
  replace D_name := D_name.mono (show 3 ≤ 9 by decide)
  replace D_bridge := D_bridge.mono (show 7 ≤ 9 by decide)
  replace D_bridge_0_other_one := D_bridge_0_other_one.mono (show 7 ≤ 9 by decide)
  replace D_bridge_right := D_bridge_right.mono (show 6 ≤ 9 by decide)
  replace D_listed_right := D_listed_right.mono (show 8 ≤ 9 by decide)
  replace D_plain_right := D_plain_right.mono (show 8 ≤ 9 by decide)
  replace D_alike := D_alike.mono (show 7 ≤ 9 by decide)
  replace D_is_refused := D_is_refused.mono (show 8 ≤ 9 by decide)
  replace C_Room := C_Room.mono (show 3 ≤ 8 by decide)
  replace C_Room_1 := C_Room_1.mono (show 3 ≤ 8 by decide)
  replace C_Block := C_Block.mono (show 5 ≤ 8 by decide)
  replace M_Block_eq := M_Block_eq.mono (show 3 ≤ 9 by decide)
  replace M_Bridge_eq := M_Bridge_eq.mono (show 5 ≤ 9 by decide)
  replace M_Bridge_eqBlock := M_Bridge_eqBlock.mono (show 5 ≤ 9 by decide)
  replace M_Room_add := M_Room_add.mono (show 5 ≤ 9 by decide)
  refine ⟨_, (pss_cons (ps_set (i := 1) nd rfl (Or.inl rfl) (pe_cd D_pen hr pass0 (pa_cons (pv 0) pa_nil)))
      (pss_cons (ps_for PassesOwn.never rfl (pi_range1 (by rfl) T.range (pa_cons (pe_op op_add pe_int (pe_callB (call_min2 rfl) (by rfl) T.min (by decide +kernel) (pa_cons pe_int (pa_cons (pe_callB (c_lenK (K := K) rfl) (by rfl) T.len PySem.boot_len (pa_cons (pv 0) pa_nil)) pa_nil)))) pa_nil)) (pg_name (i := 2) nd rfl (Or.inl rfl))
      (pss_cons (ps_set (i := 3) nd rfl (Or.inl rfl) (pe_cd D_floor hr pass0 (pa_cons (pv 1) (pa_cons pe_int pa_nil))))
        (pss_cons (ps_par (i := 4) (j := 5) (by rfl) nd rfl rfl (by decide) rfl rfl (pa_cons (pe_cd D_made hr pass0 (pa_cons (pv 1) (pa_cons (pv 3) pa_nil))) (pa_cons (pe_cd D_begun hr pass0 (pa_cons (pv 1) (pa_cons (pv 3) (pa_cons pe_int (pa_cons pe_int pa_nil))))) pa_nil)) (by rfl))
        (pss_cons (ps_par (i := 6) (j := 7) (by rfl) nd rfl rfl (by decide) rfl rfl (pa_cons (pe_cd D_subset hr pass0 (pa_cons (pv 1) (pa_cons (pv 3) pa_nil))) (pa_cons (pe_cd D_subset hr pass0 (pa_cons (pv 1) (pa_cons (pv 3) pa_nil))) pa_nil)) (by rfl))
        (pss_cutS (ps_if (pt_cmpR op_eq (pe_cd D_draw hr pass0 (pa_cons (pv 1) (pa_cons pe_int pa_nil))) pe_int (nomark _))
        (pss_one (ps_par (i := 6) (j := 7) (by rfl) nd rfl rfl (by decide) rfl rfl (pa_cons (pe_cd D_clique hr pass0 (pa_cons (pv 1) (pa_cons (pv 3) (pa_cons pe_int pa_nil)))) (pa_cons (pe_cd D_clique hr pass0 (pa_cons (pv 1) (pa_cons (pv 3) (pa_cons pe_int pa_nil)))) pa_nil)) (by rfl)))
        pss_nil)
        (pss_cons (ps_set (i := 8) nd rfl (Or.inl rfl) (pe_op op_addS (pe_cd D_pick hr pass0 (pa_cons (pv 1) (pa_cons (pe_lst (pa_cons (pv 5) (pa_cons (pv 5) (pa_cons (pe_tx [] (by decide +kernel)) pa_nil)))) pa_nil))) (pe_cd D_walk hr pass0 (pa_cons (pv 1) (pa_cons (pv 3) (pa_cons pe_int pa_nil))))))
        (pss_cons (ps_par (i := 9) (j := 10) (by rfl) nd rfl rfl (by decide) rfl rfl (pa_cons (pe_mk C_Block hr pass0 (pa_cons (pe_mk C_Room hr pass0 (pa_cons (pv 4) (pa_cons (pv 5) pa_nil))) (pa_cons (pv 6) pa_nil))) (pa_cons (pe_mk C_Block hr pass0 (pa_cons (pe_mk C_Room hr pass0 (pa_cons (pe_cd D_made hr pass0 (pa_cons (pv 1) (pa_cons (pv 3) pa_nil))) (pa_cons (pv 8) pa_nil))) (pa_cons (pv 7) pa_nil))) pa_nil)) (by rfl))
        (pss_cons (ps_set (i := 11) nd rfl (Or.inl rfl) (pe_cd D_bridge hr pass0 (pa_cons (pv 9) (pa_cons (pv 10) pa_nil))))
        (pss_cons (ps_if (PW.pt (pw_or (pt_not (pt_val (pe_callB (c_isiK (K := K) rfl) (by rfl) T.isinstance (by decide +kernel) (pa_cons (pv 11) (pa_cons (pe_globC T.Bridge.at) pa_nil))))) (pw_or (pt_not (pt_cmpR (op_cmpM (op := .Eq) (fun _ _ => rfl) M_Bridge_eq hr pass0) (pv 11) (pe_cd D_bridge hr pass0 (pa_cons (pv 9) (pa_cons (pv 10) pa_nil))) (nomark _))) (pw_or1 (pt_cmpR (op_eqMX M_Bridge_eqBlock T.Bridge_nfBlock hr pass0) (pv 11) (pv 9) (nomark _))))))
        (pss_one (ps_ret pe_bl))
        pss_nil)
        (pss_cons (ps_if (pt_not (pt_val (pe_cd D_bridge_right hr pass0 (pa_cons (pv 3) (pa_cons (pv 11) (pa_cons (pv 5) (pa_cons (pv 6) (pa_cons (pv 8) (pa_cons (pv 7) pa_nil)))))))))
        (pss_one (ps_ret pe_bl))
        pss_nil)
        (pss_cons (ps_set (i := 12) nd rfl (Or.inl rfl) (pe_ifExp (pt_cmpR op_lt (pe_callB c_lenS (by rfl) T.len PySem.boot_len (pa_cons (pv 5) pa_nil)) pe_int (nomark _)) pe_int pe_int))
        (pss_cutS (ps_if (PW.pt (pw_and (pt_cmpR op_notN1 (pe_flK (K := K) rfl (pv 9) rfl) pe_non (nomark _)) (pw_and (pt_cmpR op_notN1 (pe_flK (K := K) rfl (pv 10) rfl) pe_non (nomark _)) (pw_and1 (pt_cmpR op_lt (pe_op op_mul (pe_flK (K := K) rfl (pv 9) rfl) (pe_flK (K := K) rfl (pv 10) rfl)) (pv 12) (nomark _))))))
        (pss_one (ps_if (pt_not (pt_val (pe_cd D_listed_right hr pass0 (pa_cons (pv 3) (pa_cons (pv 11) (pa_cons (pv 9) (pa_cons (pv 10) pa_nil)))))))
          (pss_one (ps_ret pe_bl))
          pss_nil))
        pss_nil)
        (pss_cons (ps_set (i := 13) nd rfl (Or.inl rfl) (pe_fN0 D_bridge_0_other_one hr pass0 (pk_cons (pv 9) (pk_cons (pv 10) pk_nil))))
        (pss_cons (ps_if (PW.pt (pw_or (pt_cmpR op_ne (pe_flK (K := K) rfl (pv 13) rfl) (pe_cd D_name hr pass0 (pa_cons (pv 3) (pa_cons (pe_revS (pe_flK (K := K) rfl (pv 11) rfl)) pa_nil))) (nomark _)) (pw_or (pt_not (pt_cmpR (op_cmpM (op := .Eq) (fun _ _ => rfl) M_Block_eq hr pass0) (pe_flK (K := K) rfl (pv 13) rfl) (pe_flK (K := K) rfl (pv 11) rfl) (nomark _))) (pw_or1 (pt_not (pt_cmpR (op_cmpM (op := .Eq) (fun _ _ => rfl) M_Block_eq hr pass0) (pe_flK (K := K) rfl (pv 13) rfl) (pe_flK (K := K) rfl (pv 11) rfl) (nomark _)))))))
        (pss_one (ps_ret pe_bl))
        pss_nil)
        (pss_cons (ps_if (pt_not (pt_val (pe_cd D_plain_right hr pass0 (pa_cons (pv 3) (pa_cons (pv 11) (pa_cons (pe_lst (pa_cons (pv 5) (pa_cons (pv 8) pa_nil))) (pa_cons (pe_lst (pa_cons (pv 6) (pa_cons (pv 7) pa_nil))) pa_nil)))))))
        (pss_one (ps_ret pe_bl))
        pss_nil)
        (pss_cons (ps_set (i := 14) nd rfl (Or.inl rfl) (pe_cd D_bridge hr pass0 (pa_cons (pe_mk C_Block hr pass0 (pa_cons (pe_flK (K := K) rfl (pe_flK (K := K) rfl (pv 11) rfl) rfl) (pa_cons (pe_tx [] (by decide +kernel)) pa_nil))) (pa_cons (pe_mk C_Block hr pass0 (pa_cons (pe_op (op_addM M_Room_add T.Room_sf hr pass0) (pe_flK (K := K) rfl (pe_flK (K := K) rfl (pv 11) rfl) rfl) (pe_flK (K := K) rfl (pv 11) rfl)) (pa_cons (pe_tx [] (by decide +kernel)) pa_nil))) pa_nil))))
        (pss_cons (ps_if (PW.pt (pw_or (pt_not (pt_val (pe_cd D_alike hr pass0 (pa_cons (pv 11) (pa_cons (pv 13) pa_nil))))) (pw_or1 (pt_not (pt_val (pe_cd D_alike hr pass0 (pa_cons (pv 11) (pa_cons (pv 14) pa_nil))))))))
        (pss_one (ps_ret pe_bl))
        pss_nil)
        (pss_cons (ps_if (pt_not (pt_cmpR (op_cmpM (op := .Eq) (fun _ _ => rfl) M_Bridge_eq hr pass0) (pe_cd D_bridge hr pass0 (pa_cons (pv 9) (pa_cons (pv 10) pa_nil))) (pv 11) (nomark _)))
        (pss_one (ps_ret pe_bl))
        pss_nil)
        (pss_one (ps_if (pt_not (pt_val (pe_cd D_is_refused hr pass0 (pa_cons (pv 9) (pa_cons (pe_mk C_Block hr pass0 (pa_cons (pe_mkN C_Room_1 hr pass0 (pa_cons (pe_cd D_made hr pass0 (pa_cons (pv 1) (pa_cons (pe_disp (pps_cons pe_str (pe_tx [] (by decide +kernel)) (pps_cons pe_str (pe_tx [] (by decide +kernel)) pps_nil)) (by rfl) (by rfl) (fun z => by cases z) (by decide)) pa_nil))) pa_nil) pk_nil) (pa_cons (pe_tx [] (by decide +kernel)) pa_nil))) pa_nil)))))
        (pss_one (ps_ret pe_bl))
        pss_nil))))))))))))))))))))
      (pss_one (ps_ret pe_bl)))), ?_⟩
  refine s_start [some _, none, none, none, none, none, none, none, none, none, none, none, none, none, none] rfl ?_
  walk_at "go"
  refine ⟨sc, ns, rfl, ha, hn, fun g H1 p1 s1 hg => ?_⟩
  walk_at "go"
  refine ⟨sc, _, rfl, .inl (sqL_same ha s1), ?_⟩
  walk_at "go"
  refine ⟨_, _, rfl, ?_⟩
  walk_at "go"
  have hm : (2 + (if ((ns.map V.int).length : Int) < 4 then ((ns.map V.int).length : Int) else 4)).toNat ≤ 6 := by split <;> omega
  refine for_it (walk_rI (fun i => ((i : Nat) : Int)) (fun k => Int.zero_add _)) (fun i σ H' => ∃ x2 x3 x4 x5 x6 x7 x8 x9 x10 x11 x12 x13 x14, σ = [some (.ref sc), some (.ref g.p), x2, x3, x4, x5, x6, x7, x8, x9, x10, x11, x12, x13, x14] ∧ PenAt g H' (5000 * i)) ⟨_, _, _, _, _, _, _, _, _, _, _, _, _, rfl, p1⟩ (fun _ _ _ _ _ => trivial) ?_ ?_
  · rintro i v σ H2 H3 hi ⟨x2, x3, x4, x5, x6, x7, x8, x9, x10, x11, x12, x13, x14, rfl, p3⟩ ⟨rfl, rfl⟩
    refine g_nm ?_
    refine s_hide fun Dn hDn => ?_
    walk_at "go"
    refine ⟨g, 5000 * i, 6, rfl, by omega, by omega, p3, by omega, fun d ls rel H4 hd flr e4 p4 k4 => ?_⟩
    have fl := flr.fl
    have nq : 113 ∉ ls := by
      obtain ⟨t, ht, m, _, _, rfl⟩ := flr.cut
      have aq : ∀ t ∈ ABC, 113 ∉ t := by decide +kernel
      exact fun z => aq t ht (List.mem_of_mem_take z)
    have ndp : d ≠ g.p := by
      obtain ⟨a, b, h1, _⟩ := p3.ex
      exact (ne_of_none h1 hd).symm
    generalize crossBy ls rel = fn at fl e4
    have tab := fl.tab
    have ok := fl.ok
    have l8 := tab.len
    walk_at "go"
    refine ⟨g, _, d, ls, fn, rfl, p4, by omega, ndp, e4, tab, fun x H5 hx k5 p5 pl5 of5 => ?_⟩
    have e5 := k5 _ _ e4 ndp
    clear e4 p4 k4
    walk_at "go"
    refine ⟨g, _, d, ls, fn, 14, 80, rfl, p5, by omega, ndp, e5, tab, fl.pos, by omega, by omega, fun f1 H6 m1 l1 p6 k6 => ?_⟩
    have e6 := k6 _ _ e5 ndp
    have pl6 := pl5.pen p5 k6
    walk_at "go"
    refine ⟨g, _, d, ls, fn, rfl, p6, by omega, ndp, e6, tab, fun A0 H7 nA0 mA0 p7 k7 => ?_⟩
    have e7 := k7 _ _ e6 ndp
    walk_at "go"
    refine ⟨g, _, d, ls, fn, rfl, p7, by omega, ndp, e7, tab, fun B00 H8 nB00 mB00 p8 k8 => ?_⟩
    have e8 := k8 _ _ e7 ndp
    have pl8 := (pl6.pen p6 k7).pen p7 k8
    walk_at "go"
    have l1' : f1.length ≤ 80 := by omega
    refine s_cut (fun σ H' => ∃ A1 B1, σ = [some (.ref sc), some (.ref g.p), some (.int (i : Nat)), some (.ref d), some (.ref x), some (.str (tx f1)), some (.str (tx A1)), some (.str (tx B1)), x8, x9, x10, x11, x12, x13, x14] ∧ A1.Nodup ∧ B1.Nodup ∧ (∀ c ∈ A1, c ∈ ls) ∧ (∀ c ∈ B1, c ∈ ls) ∧ PenAt g H' (5000 * i + 600) ∧ Keep g.p H8 H') ?_ ?_
    · walk_at "go"
      refine ⟨g, 3, _, rfl, by decide, by decide, p8, by omega, fun z H9 z0 z1 p9 k9 => ?_⟩
      have e9 := k9 _ _ e8 ndp
      walk_at "go"
      refine if_dec (fun c => ?_) (fun c => ?_)
      · walk_at "go"
        refine ⟨g, _, d, ls, fn, 3, rfl, p9, by omega, ndp, e9, tab, fl.pos, by decide, by decide, fun G1 H10 nG mG cG lG neG p10 k10 => ?_⟩
        have e10 := k10 _ _ e9 ndp
        walk_at "go"
        refine ⟨g, _, d, ls, fn, 3, rfl, p10, by omega, ndp, e10, tab, fl.pos, by decide, by decide, fun G2 H11 nG2 mG2 cG2 lG2 neG2 p11 k11 => ?_⟩
        walk_at "go"
        exact ⟨G1, G2, rfl, nG, nG2, mG, mG2, p11.mono (by omega), (k9.trans k10).trans k11⟩
      · walk_at "go"
        exact ⟨A0, B00, rfl, nA0, nB00, mA0, mB00, p9.mono (by omega), k9⟩
    clear p6 k6 p7 k7 e6 e7 p5 k5 e5 pl5 of5 nA0 mA0 nB00 mB00 pl6
    rintro σ H9 ⟨A1, B1, rfl, nA, nB, mA, mB, p9, k9⟩
    have e9 := k9 _ _ e8 ndp
    have pl9 := pl8.pen p8 k9
    clear e8 p8 k9 pl8
    walk_at "go"
    intro q0 H10 hq0 s10 e10
    have p10 := p9.same s10
    have nq0 : q0 ≠ g.p := (p9.p_ne hq0).symm
    refine ⟨g, _, q0, _, rfl, e10, by simp, by simp, p10, by omega, nq0, fun v H11 hv p11 k11 => ?_⟩
    obtain ⟨f0, rfl, l0, m0⟩ : ∃ f0, v = V.str (tx f0) ∧ f0.length ≤ 80 ∧ ∀ c ∈ f0, c ∈ ls := by
      simp only [List.mem_cons, List.not_mem_nil, or_false] at hv
      rcases hv with rfl | rfl | rfl
      · exact ⟨f1, rfl, l1', m1⟩
      · exact ⟨f1, rfl, l1', m1⟩
      · exact ⟨[], rfl, by simp, fun _ z => nomatch z⟩
    have e11 := k11 _ _ (s10 _ _ e9) ndp
    have pl11 := (pl9.same s10).pen p10 k11
    walk_at "go"
    refine ⟨g, _, d, ls, fn, 10, rfl, p11, by omega, ndp, e11, tab, fl.pos, by decide, fun w2 H12 mw2 lw2 p12 k12 => ?_⟩
    have e12 := k12 _ _ e11 ndp
    have pl12 := pl11.pen p11 k12
    have lf2 : f0.length + w2.length ≤ 1000000 := by omega
    walk_at "go"
    obtain ⟨f2, hf2⟩ : ∃ f2, f0 ++ w2 = f2 := ⟨_, rfl⟩
    have m2 : ∀ c ∈ f2, c ∈ ls := hf2 ▸ fun c hc => (List.mem_append.mp hc).elim (m0 c) (mw2 c)
    have l2 : f2.length ≤ 90 := by rw [← hf2, List.length_append]; omega
    rw [hf2]
    clear hf2 lf2 e9 e10 e11 p9 p10 p11 k11 k12 pl9 pl11 m0 l0 mw2 lw2 s10
    refine sp_room fl pl12 m1 (by omega) fun ra H13 hra s13 ro13 => ?_
    walk_at "go"
    have n1l := name_len fn f1
    have n2l := name_len fn f2
    refine sp_block fl ro13 (pl12.same s13) (name_NF ok f1) (memN m1) (by show (nameOf fn f1).length ≤ _; omega) mA nA fun ba rba H14 hba s14 ba14 => ?_
    have s1214 := s13.trans s14
    walk_at "go"
    refine ⟨g, _, d, ls, fn, rfl, p12.same s1214, by omega, ndp, s1214 _ _ e12, tab, fun y H15 hy k15 p15 ply _ => ?_⟩
    have e15 := k15 _ _ (s1214 _ _ e12) ndp
    have ba15 := ba14.pen (p12.same s1214) k15
    have pl15 := (pl12.same s1214).pen (p12.same s1214) k15
    walk_at "go"
    refine sp_room fl ply m2 (by omega) fun rb H16 hrb s16 ro16 => ?_
    walk_at "go"
    refine sp_block fl ro16 (ply.same s16) (name_NF ok f2) (memN m2) (by show (nameOf fn f2).length ≤ _; omega) mB nB fun bb rbb H17 hbb s17 bb17 => ?_
    have s1517 := s16.trans s17
    have ba17 := ba15.same s1517
    have e17 := s1517 _ _ e15
    have p17 := p15.same s1517
    walk_at "go"
    have hA' : ∀ c, c ∈ (ls.filter fun k => decide (k ∈ A1)) ↔ c ∈ A1 := fun c => by
      rw [List.mem_filter, decide_eq_true_iff]
      exact ⟨fun z => z.2, fun z => ⟨mA c z, z⟩⟩
    have hB' : ∀ c, c ∈ (ls.filter fun k => decide (k ∈ B1)) ↔ c ∈ B1 := fun c => by
      rw [List.mem_filter, decide_eq_true_iff]
      exact ⟨fun z => z.2, fun z => ⟨mB c z, z⟩⟩
    have lN : (baseC fn (ls.filter fun k => decide (k ∈ A1)) (nameOf fn f1)).length ≤ 80 := by
      obtain ⟨_, _, _, _, el⟩ := base_spec ok (ls.filter fun k => decide (k ∈ A1)) (nameOf fn f1)
      omega
    have lM : (baseC fn (ls.filter fun k => decide (k ∈ B1)) (nameOf fn f2)).length ≤ 90 := by
      obtain ⟨_, _, _, _, el⟩ := base_spec ok (ls.filter fun k => decide (k ∈ B1)) (nameOf fn f2)
      omega
    generalize hAA : (ls.filter fun k => decide (k ∈ A1)) = A' at ba17 hA' lN
    generalize hBB : (ls.filter fun k => decide (k ∈ B1)) = B' at bb17 hB' lM
    generalize eN : baseC fn A' (nameOf fn f1) = N at ba17 lN
    generalize eM : baseC fn B' (nameOf fn f2) = M at bb17 lM
    clear hAA hBB ro13 ro16 ba14 ba15 p12 e12 p15 k15 e15 ply pl15 n1l n2l
    have wNM := way_len25 (f := fn) lN lM
    have lw1 : N.length + (80 + 90) ≤ 900 := by omega
    have lw2 : M.length + (80 + 90) ≤ 900 := by omega
    have mA' := ba17.mK
    have mB' := bb17.mK
    refine sp_bri fl ba17 bb17 170 wNM lw1 lw2 fun g1 o1 o2 r1 r2 h t H18 hg1 s18 br lw lh bg bo bp => ?_
    obtain ⟨dg, gg⟩ := bg.ex
    walk_at "go"
    refine v_isiC T.Bridge gg ?_
    walk_at "go"
    refine sp_bri fl (ba17.same s18) (bb17.same s18) 170 wNM lw1 lw2 fun g2 o3 o4 r3 r4 h2 t2 H19 hg2 s19 br2 _ _ bg2 bo2 bp2 => ?_
    obtain ⟨ew, eh, et⟩ := same25 ok mA' mB' br br2
    rw [ew] at bg2 bo2 bp2
    rw [eh] at bo2
    rw [et] at bp2
    obtain ⟨dg2, gg2⟩ := bg2.ex
    have bo19 := bo.same s19
    have bp19 := bp.same s19
    walk_at "go"
    refine v_M2 (s19 _ _ gg) gg2 ⟨g1, g2, _, _, _, _, _, _, _, _, _, _, rfl, bg.same s19, bg2, beq25 bo19 bo2, beq25 bp19 bp2, fun H20 s20 => ?_⟩
    have e1 : (decide (wayC fn h t = wayC fn h t) && ((decide (baseC fn (dueL fn A' B' (wayC fn h t)) h = baseC fn (dueL fn A' B' (wayC fn h t)) h) && decide (dueL fn A' B' (wayC fn h t) = dueL fn A' B' (wayC fn h t))) && (decide (baseC fn (dueL fn A' B' (wayC fn h t)) t = baseC fn (dueL fn A' B' (wayC fn h t)) t) && decide (dueL fn A' B' (wayC fn h t) = dueL fn A' B' (wayC fn h t))))) = true := by simp
    rw [e1]
    walk_at "go"
    have s1820 := s19.trans s20
    have s1720 := s18.trans s1820
    have ba20 := ba17.same s1720
    have bb20 := bb17.same s1720
    have bg20 := bg.same s1820
    have bo20 := bo.same s1820
    have bp20 := bp.same s1820
    have e20 := s1720 _ _ e17
    have p20 := p17.same s1720
    obtain ⟨⟨dba, eba⟩, roba⟩ := id ba20.blk
    obtain ⟨⟨dbb, ebb⟩, robb⟩ := id bb20.blk
    refine ⟨g1, ba, _, _, _, _, rfl, rfl, s1820 _ _ gg, eba, g1, ba, _, _, _, _, rfl, s1820 _ _ gg, eba, ?_⟩
    clear bg2 bo2 bp2 br2 gg2 hg2 bo19 bp19 e1 bg bo bp ba17 bb17 e17 p17
    walk_at "go"
    refine bright25 fl e20 bg20 bo20 bp20 br (Nat.le_trans lw (by decide)) hA' hB' mA mB eN.symm eM.symm m1 m2 (by omega) (by omega) fun H21 s21 => ?_
    have hD : ∀ k, k ∈ dueL fn A' B' (wayC fn h t) ↔ k ∈ A' ∧ k ∈ B' ∧ ∀ y ∈ wayC fn h t, y ∈ fn k := fun _ => due_mem
    walk_at "go"
    refine ifc25 fun bd => ?_
    have e21 := s21 _ _ e20
    have p21 := p20.same s21
    have ba21 := ba20.same s21
    have bb21 := bb20.same s21
    have bg21 := bg20.same s21
    have bo21 := bo20.same s21
    have bp21 := bp20.same s21
    clear e20 p20 ba20 bb20 bg20 bo20 bp20 eba ebb
    obtain ⟨⟨dba, eba⟩, roba⟩ := id ba21.blk
    obtain ⟨⟨dbb, ebb⟩, robb⟩ := id bb21.blk
    refine s_cut (fun σ H' => σ = [some (.ref sc), some (.ref g.p), some (.int (i : Nat)), some (.ref d), some (.ref x), some (.str (tx f1)), some (.str (tx A1)), some (.str (tx B1)), some (.str (tx f2)), some (.ref ba), some (.ref bb), some (.ref g1), some (.int bd), x13, x14] ∧ Same H21 H') ?_ ?_
    · walk_at "go"
      refine v_fld eba T.Block.cl T.nBm blockF_m ?_
      by_cases cA : Cliq fn A'
      · rw [many25 fl mA' cA]
        walk_at "go"
        refine ⟨rfl, true, congrArg V.bl (by rw [decide_eq_false (fun z => nomatch z)]; rfl), ?_⟩
        walk_at "go"
        refine v_fld ebb T.Block.cl T.nBm blockF_m ?_
        by_cases cB : Cliq fn B'
        · rw [many25 fl mB' cB]
          walk_at "go"
          refine ⟨rfl, true, congrArg V.bl (by rw [decide_eq_false (fun z => nomatch z)]; rfl), ?_⟩
          rw [many25 fl mA' cA] at eba
          rw [many25 fl mB' cB] at ebb
          have hc : CMul ((2 : Int) ^ A'.length) (2 ^ B'.length) := by
            have a1 := pow25 (ba21.lk fl)
            have a2 := pow25 (bb21.lk fl)
            unfold CMul
            omega
          walk_at "go"
          refine v_fld eba T.Block.cl T.nBm blockF_m ?_
          walk_at "go"
          refine v_fld ebb T.Block.cl T.nBm blockF_m ?_
          walk_at "go"
          refine if_dec (fun _ => ?_) (fun _ => ⟨rfl, Same.refl _⟩)
          walk_at "go"
          refine ⟨d, g1, o1, o2, ba, bb, r1, r2, x, y, rba, x, rbb, y, ls, fn, N, M, A', B', _, h, t, rfl, e21, fl, bg21, bo21, bp21, ba21, bb21, br, hD, cA, cB, by omega, by omega, Nat.le_trans lw (by decide), fun H22 s22 => ?_⟩
          walk_at "go"
          exact ⟨rfl, s22⟩
        · rw [many_not25 fl mB' cB]
          walk_at "go"
          refine ⟨rfl, false, congrArg V.bl (by rw [decide_eq_true rfl]; rfl), ?_⟩
          walk_at "go"
          exact ⟨rfl, Same.refl _⟩
      · rw [many_not25 fl mA' cA]
        walk_at "go"
        refine ⟨rfl, false, congrArg V.bl (by rw [decide_eq_true rfl]; rfl), ?_⟩
        walk_at "go"
        exact ⟨rfl, Same.refl _⟩
    rintro σ H22 ⟨rfl, s22⟩
    have e22 := s22 _ _ e21
    have p22 := p21.same s22
    have ba22 := ba21.same s22
    have bb22 := bb21.same s22
    have bg22 := bg21.same s22
    have bo22 := bo21.same s22
    have bp22 := bp21.same s22
    clear e21 p21 ba21 bb21 bg21 bo21 bp21 eba ebb roba robb
    obtain ⟨dg, gg⟩ := bg22.ex
    walk_at "go"
    refine e_CN ?_
    walk_at "go"
    have wMN : (wayC fn M N).length ≤ 170 := by rw [way_len ok]; exact wNM
    refine ⟨rfl, rfl, ?_⟩
    refine sp_bri fl bb22 ba22 170 wMN lw2 lw1 fun g3 o3 o4 r3 r4 h3 t3 H23 hg3 s23 br3 _ _ bg3 bo3 bp3 => ?_
    have brs := br3.symm ok mB' mA'
    obtain ⟨ew, eh, et⟩ := same25 ok mA' mB' br brs
    have mw := way_in25 (f := fn) br.mh br.mt
    have ew3 : wayC fn h3 t3 = nameOf fn (wayC fn h t).reverse := by rw [← ew, way_rev ok]
    have eD3 : dueL fn B' A' (wayC fn h3 t3) = dueL fn A' B' (wayC fn h t) := by
      have a1 := bo3.as
      have a2 := bo22.as
      rw [a1, a2]
      refine List.filter_congr fun k hk => decide_eq_decide.mpr ?_
      rw [due_mem, due_mem, ew3]
      have iff : (∀ y ∈ nameOf fn (wayC fn h t).reverse, y ∈ fn k) ↔ ∀ y ∈ wayC fn h t, y ∈ fn k := by
        constructor
        · intro z y hy
          have e : nameOf fn (nameOf fn (wayC fn h t).reverse).reverse = wayC fn h t := by
            rw [name_rev ok, List.reverse_reverse]
            exact name_name ok _
          rw [← e] at hy
          exact z y (List.mem_reverse.mp (name_mem hy))
        · exact fun z y hy => z y (List.mem_reverse.mp (name_mem hy))
      rw [iff]
      exact ⟨fun z => ⟨z.2.1, z.1, z.2.2⟩, fun z => ⟨z.2.1, z.1, z.2.2⟩⟩
    rw [eD3] at bg3 bo3 bp3
    rw [et] at bo3
    rw [eh] at bp3
    obtain ⟨dg3, gg3⟩ := bg3.ex
    have gg23 := s23 _ _ gg
    walk_at "go"
    refine v_fld gg3 T.Bridge.cl T.nGw briF_w ?_
    have lrev : (wayC fn h t).length ≤ 1000000 := by omega
    walk_at "go"
    refine v_fld gg23 T.Bridge.cl T.nGw briF_w ?_
    walk_at "go"
    refine sp_name fl (s23 _ _ e22) (fun c hc => mw c (List.mem_reverse.mp hc)) (by rw [List.length_reverse]; omega) fun H24 s24 => ?_
    rw [ew3]
    have s2224 := s23.trans s24
    walk_at "go"
    refine if_ndec (fun c => (c rfl).elim) (fun _ => ?_)
    walk_at "go"
    refine v_fld (s24 _ _ gg3) T.Bridge.cl T.nG1 briF_1 ?_
    walk_at "go"
    refine v_fld (s24 _ _ gg23) T.Bridge.cl T.nG2 briF_2 ?_
    refine (beq25 (bo3.same s24) (bp22.same s2224)).eq ?_
    rw [decide_eq_true rfl, decide_eq_true rfl, Bool.and_self]
    walk_at "go"
    refine v_fld (s24 _ _ gg3) T.Bridge.cl T.nG2 briF_2 ?_
    walk_at "go"
    refine v_fld (s24 _ _ gg23) T.Bridge.cl T.nG1 briF_1 ?_
    refine (beq25 (bp3.same s24) (bo22.same s2224)).eq ?_
    rw [decide_eq_true rfl, decide_eq_true rfl, Bool.and_self]
    walk_at "go"
    intro q1 H25 hq1 s25 e25
    walk_at "go"
    intro q2 H26 hq2 s26 e26
    have s2426 := s25.trans s26
    have s2226 := s2224.trans s2426
    have e26' := s2226 _ _ e22
    refine ⟨d, g1, q1, q2, o1, o2, r1, r2, x, y, ls, fn, f1, f2, A1, B1, _, _, _, _, rfl, e26', fl, bg22.same s2226, bo22.same s2226, bp22.same s2226, s26 _ _ e25, e26, m1, m2, l1', l2, mA, mB, nA, nB, fun H27 s27 => ?_⟩
    have s2227 := s2226.trans s27
    have ba27 := ba22.same s2227
    have bb27 := bb22.same s2227
    have bg27 := bg22.same s2227
    have bo27 := bo22.same s2227
    have bp27 := bp22.same s2227
    have bg3 := bg3.same ((s24.trans s2426).trans s27)
    have bo3 := bo3.same ((s24.trans s2426).trans s27)
    have bp3 := bp3.same ((s24.trans s2426).trans s27)
    have p27 := p22.same s2227
    have e27 := s27 _ _ e26'
    clear e22 e25 e26 e26' ba22 bb22 bg22 bo22 bp22 p22 gg gg3 gg23 s2426 s2226 s2224 s24
    generalize hD0 : dueL fn A' B' (wayC fn h t) = D at *
    generalize hS0 : baseC fn D h = S at *
    have lS : S.length ≤ 250 := by
      obtain ⟨_, _, _, _, el⟩ := base_spec ok D h
      rw [hS0] at el
      omega
    obtain ⟨dg, gg⟩ := bg27.ex
    obtain ⟨⟨dbo, ebo⟩, roo⟩ := id bo27.blk
    obtain ⟨dro, ero⟩ := roo.ex
    walk_at "go"
    refine v_fld gg T.Bridge.cl T.nG1 briF_1 ?_
    walk_at "go"
    refine v_fld ebo T.Block.cl T.nBr blockF_r ?_
    walk_at "go"
    have f0 : (ls.filter fun k => decide (k ∈ ([] : List Nat))) = [] := List.filter_eq_nil_iff.mpr fun k _ => by simp
    have base0 : ∀ n, baseC fn [] n = n := fun n => by
      unfold baseC
      rw [splitA_nil, List.reverse_reverse]
    refine sp_block (K := []) fl roo bo27.pl bo27.nf bo27.mn bo27.ln (fun _ z => nomatch z) List.nodup_nil fun b4 r4' H28 hb4 s28 bk4 => ?_
    rw [f0, base0] at bk4
    walk_at "go"
    refine v_fld (s28 _ _ gg) T.Bridge.cl T.nG1 briF_1 ?_
    walk_at "go"
    refine v_fld (s28 _ _ ebo) T.Block.cl T.nBr blockF_r ?_
    walk_at "go"
    refine v_fld (s28 _ _ gg) T.Bridge.cl T.nGw briF_w ?_
    walk_at "go"
    have nS : nameOf fn S = S := (is_NF ok).mpr bo27.nf
    have rn : RoomAt R H28 r1 x (nameOf fn S) := by rw [nS]; exact roo.same s28
    refine v_add fl rn (bo27.pl.same s28) bo27.mn mw (by omega) (by omega) fun r5 H29 hr5 s29 ro5 => ?_
    have lSw := name_len fn (S ++ wayC fn h t)
    rw [List.length_append] at lSw
    walk_at "go"
    refine sp_block (K := []) fl ro5 ((bo27.pl.same s28).same s29) (name_NF ok _) (memN fun c hc => (List.mem_append.mp hc).elim (bo27.mn c) (mw c)) (by show (nameOf fn _).length ≤ _; omega) (fun _ z => nomatch z) List.nodup_nil fun b6 r6' H30 hb6 s30 bk6 => ?_
    rw [f0, base0] at bk6
    walk_at "go"
    have wS : (wayC fn S (nameOf fn (S ++ wayC fn h t))).length ≤ 170 := by
      have e : wayC fn S (nameOf fn (S ++ wayC fn h t)) = wayC fn h t := by
        show nameOf fn (S.reverse ++ nameOf fn (S ++ wayC fn h t)) = _
        rw [name_catR ok, (Alike.home ok S (wayC fn h t)).name ok]
        exact name_name ok _
      rw [e]
      exact lw
    have s2830 := (s28.trans s29).trans s30
    refine sp_bri fl ((bk4.same s29).same s30) bk6 170 wS (by omega) (by show (nameOf fn _).length + 170 ≤ 900; omega) fun g5 o5 o6 r7 r8 h5 t5 H31 hg5 s31 br5 _ _ bg5 bo5 bp5 => ?_
    have s2731 := s2830.trans s31
    walk_at "go"
    refine ⟨g1, g3, _, _, _, _, _, _, _, _, _, _, rfl, bg27.same s2731, bg3.same s2731, beq25 (bo27.same s2731) (bo3.same s2731), beq25 (bp27.same s2731) (bp3.same s2731), fun H32 s32 => ?_⟩
    have s2732 := s2731.trans s32
    walk_at "go"
    refine ⟨g1, g5, _, _, _, _, _, _, _, _, _, _, rfl, bg27.same s2732, bg5.same s32, beq25 (bo27.same s2732) (bo5.same s32), beq25 (bp27.same s2732) (bp5.same s32), fun H33 s33 => ?_⟩
    have s2733 := s2732.trans s33
    subst hS0
    subst hD0
    walk_at "go"
    refine sp_bri fl (ba27.same s2733) (bb27.same s2733) 170 wNM lw1 lw2 fun g6 o7 o8 r9 r10 h6 t6 H34 hg6 s34 br6 _ _ bg6 bo6 bp6 => ?_
    obtain ⟨ew6, eh6, et6⟩ := same25 ok mA' mB' br br6
    rw [ew6] at bg6 bo6 bp6
    rw [eh6] at bo6
    rw [et6] at bp6
    have s2734 := s2733.trans s34
    obtain ⟨dg6, gg6⟩ := bg6.ex
    walk_at "go"
    refine v_M2 gg6 (s2734 _ _ gg) ⟨g6, g1, _, _, _, _, _, _, _, _, _, _, rfl, bg6, bg27.same s2734, beq25 bo6 (bo27.same s2734), beq25 bp6 (bp27.same s2734), fun H35 s35 => ?_⟩
    have e1 : (decide (wayC fn h t = wayC fn h t) && ((decide (baseC fn (dueL fn A' B' (wayC fn h t)) h = baseC fn (dueL fn A' B' (wayC fn h t)) h) && decide (dueL fn A' B' (wayC fn h t) = dueL fn A' B' (wayC fn h t))) && (decide (baseC fn (dueL fn A' B' (wayC fn h t)) t = baseC fn (dueL fn A' B' (wayC fn h t)) t) && decide (dueL fn A' B' (wayC fn h t) = dueL fn A' B' (wayC fn h t))))) = true := by simp
    rw [e1]
    have s2735 := s2734.trans s35
    have p35 := p27.same s2735
    walk_at "go"
    refine e_CN ?_
    walk_at "go"
    intro d0 hd0
    refine e_pr ?_
    walk_at "go"
    refine ⟨upd_same, [(Sum.inr (tx [97]), .str (tx [])), (Sum.inr (tx [113]), .str (tx []))], rfl, by decide, ?_⟩
    generalize e36 : upd (upd H35 d0 (.dK [])) d0 (.dK (mergeK [] [(Sum.inr (tx [97]), V.str (tx [])), (Sum.inr (tx [113]), V.str (tx []))])) = H36
    have d36 : H36 d0 = some (.dK (tabKV [97, 113] fun _ => [])) := by
      rw [← e36, upd_same]
      rfl
    have s36 : Same H35 H36 := fun b o hb => by
      rw [← e36, upd_ne (ne_of_none hb hd0), upd_ne (ne_of_none hb hd0)]
      exact hb
    have tab0 : Tab [97, 113] fun _ => [] := ⟨by decide, by decide +kernel, by decide, (fun _ _ b hb => by cases hb), fun _ _ => by decide⟩
    have fl0 : Fl [97, 113] fun _ => [] := ⟨tab0, ⟨(fun a b h => by cases h), (fun a h => by cases h)⟩, by decide, by decide⟩
    have nd0 : d0 ≠ g.p := (p35.p_ne hd0).symm
    have p36 := p35.same s36
    have ba36 := (ba27.same s2735).same s36
    walk_at "go"
    refine ⟨g, _, d0, _, _, rfl, p36, by omega, nd0, d36, tab0, fun x0 H37 hx0 k37 p37 pl37 off => ?_⟩
    have ba37 := ba36.pen p36 k37
    walk_at "go"
    refine ⟨rfl, rfl, ?_⟩
    refine sp_room fl0 pl37 (w := []) (fun _ z => nomatch z) (by decide) fun r38 H38 hr38 s38 ro38 => ?_
    walk_at "go"
    refine sp_block (K := []) fl0 ro38 (pl37.same s38) NF_nil (fun _ z => nomatch z) (by decide) (fun _ z => nomatch z) List.nodup_nil fun b39 r39 H39 hb39 s39 bk39 => ?_
    walk_at "go"
    have aq : ascOf [97, 113] = [97, 113] := by decide +kernel
    have s3739 := s38.trans s39
    refine ⟨ba, _, x, b39, r39, x0, ls, fn, N, A', _, _, _, rfl, ba37.same s3739, fl, bk39.blk, ⟨_, _, _, _, (ba37.same s3739).pl, bk39.pl, pairsOf_small _, pairsOf_small _, (decide_eq_false fun z => nq ?_).symm⟩, ?_⟩
    · have z1 := z.1
      rw [asc_self fl, aq] at z1
      rw [z1]
      decide
    walk_at "go"
    exact hDn _ _ ⟨_, _, _, _, _, _, _, _, _, _, _, _, _, rfl, (p37.same s3739).mono (by omega)⟩
  · rintro σ H2 ⟨x2, x3, x4, x5, x6, x7, x8, x9, x10, x11, x12, x13, x14, rfl, p2⟩
    walk_at "go"
    exact k _
end
end
section
open PySem PySem.Spec L2
theorem end25 {w : World} {K : PySem.W.Frag} {mg : Str → Option Value} {C R O B G fa e0 : Addr} {fd : FuncData} {t1 t2 t3 : Tok} {dd0 : Option Addr} {n0 : Nat} {sl0 : Array (Option Value)}
    (c_Plan : ClsF K mg "Plan" C)
    (c_Room : ClsF K mg "Room" R)
    (c_Block : ClsF K mg "Block" B)
    (c_Bridge : ClsF K mg "Bridge" G)
    (e_OtherPlan : ExcF K mg "OtherPlan" O)
    (F_stepped : FnAt K mg "stepped" ststepped)
    (F_joined : FnAt K mg "joined" stjoined)
    (F_turned_back : FnAt K mg "turned_back" stturned_back)
    (F_way_from : FnAt K mg "way_from" stway_from)
    (F_still_free : FnAt K mg "still_free" ststill_free)
    (F_split_ahead : FnAt K mg "split_ahead" stsplit_ahead)
    (F_without_end : FnAt K mg "without_end" stwithout_end)
    (F_is_list : FnAt K mg "is_list" stis_list)
    (F_is_kind : FnAt K mg "is_kind" stis_kind)
    (F_need_way : FnAt K mg "need_way" stneed_way)
    (F_need_same : FnAt K mg "need_same" stneed_same)
    (F_need_kinds : FnAt K mg "need_kinds" stneed_kinds)
    (F_all_cross : FnAt K mg "all_cross" stall_cross)
    (F_in_order : FnAt K mg "in_order" stin_order)
    (F_rooms_of : FnAt K mg "rooms_of" strooms_of)
    (F_bridge : FnAt K mg "bridge" stbridge)
    (F_are_letters : FnAt K mg "are_letters" stare_letters)
    (F_ascending : FnAt K mg "ascending" stascending)
    (F_checked_pairs : FnAt K mg "checked_pairs" stchecked_pairs)
    (F_need_few : FnAt K mg "need_few" stneed_few)
    (F_crossing_table : FnAt K mg "crossing_table" stcrossing_table)
    (F_pen : FnAt K mg "_law_pen" stpen)
    (F_draw : FnAt K mg "_law_draw" stdraw)
    (F_pick : FnAt K mg "_law_pick" stpick)
    (F_shuffled : FnAt K mg "_law_shuffled" stshuffled)
    (F_floor : FnAt K mg "_law_floor" stfloor)
    (F_made : FnAt K mg "_law_made" stmade)
    (F_walk : FnAt K mg "_law_walk" stwalk)
    (F_begun : FnAt K mg "_law_begun" stbegun)
    (F_units : FnAt K mg "_law_units" stunits)
    (F_through : FnAt K mg "_law_through" stthrough)
    (F_marks : FnAt K mg "_law_marks" stmarks)
    (F_backs : FnAt K mg "_law_backs" stbacks)
    (F_name : FnAt K mg "_law_name" stname)
    (F_plain : FnAt K mg "_law_plain" stplain)
    (F_far : FnAt K mg "_law_far" stfar)
    (F_clique : FnAt K mg "_law_clique" stclique)
    (F_only : FnAt K mg "_law_only" stonly)
    (F_subset : FnAt K mg "_law_subset" stsubset)
    (F_is_near : FnAt K mg "_law_is_near" stis_near)
    (F_listed_right : FnAt K mg "_law_listed_right" stlisted_right)
    (F_is_refused : FnAt K mg "_law_is_refused" stis_refused)
    (F_bridge_right : FnAt K mg "_law_bridge_right" stbridge_right)
    (F_alike : FnAt K mg "_law_alike" stalike)
    (F_plain_right : FnAt K mg "_law_plain_right" stplain_right)
    (F_law : Fun K "law" "law" stlaw fa fd)
    (F_Plan_eq : MAt K C "__eq__" "Plan.__eq__" stPlan_eq)
    (F_Plan_init : MAtD K C "__init__" "Plan.__init__" stPlan_init [.ref e0])
    (F_Room_init : MAtD K R "__init__" "Room.__init__" stRoom_init [.str (tx [])])
    (F_Block_init : MAt K B "__init__" "Block.__init__" stBlock_init)
    (F_Bridge_init : MAt K G "__init__" "Bridge.__init__" stBridge_init)
    (F_Room_eq : MAt K R "__eq__" "Room.__eq__" stRoom_eq)
    (F_Room_add : MAt K R "__add__" "Room.__add__" stRoom_add)
    (F_Room_way_to : MAt K R "way_to" "Room.way_to" stRoom_way_to)
    (F_Block_eq : MAt K B "__eq__" "Block.__eq__" stBlock_eq)
    (F_Block_contains : MAt K B "__contains__" "Block.__contains__" stBlock_contains)
    (F_Block_nearest : MAt K B "nearest" "Block.nearest" stBlock_nearest)
    (F_Block_listed : MAt K B "listed" "Block.listed" stBlock_listed)
    (F_Bridge_eq : MAt K G "__eq__" "Bridge.__eq__" stBridge_eq)
    (z_len : mg "len" = none)
    (z_int : mg "int" = none)
    (z_list : mg "list" = none)
    (z_isinstance : mg "isinstance" = none)
    (z_str : mg "str" = none)
    (z_all : mg "all" = none)
    (z_set : mg "set" = none)
    (z_tuple : mg "tuple" = none)
    (z_enumerate : mg "enumerate" = none)
    (z_range : mg "range" = none)
    (z_min : mg "min" = none)
    (z_dict : mg "dict" = none)
    (z_sorted : mg "sorted" = none)
    (n_C_kinds : NoAttr K C "kinds")
    (n_C_pairs : NoAttr K C "pairs")
    (n_C_own_crossing : NoAttr K C "own_crossing")
    (n_R_plan : NoAttr K R "plan")
    (n_R_name : NoAttr K R "name")
    (n_B_plan : NoAttr K B "plan")
    (n_B_kinds : NoAttr K B "kinds")
    (n_B_room : NoAttr K B "room")
    (n_B_many : NoAttr K B "many")
    (n_G_way : NoAttr K G "way")
    (n_G_kinds : NoAttr K G "kinds")
    (n_G_one : NoAttr K G "one")
    (n_G_other : NoAttr K G "other")
    (g_LETTERS : mg "LETTERS" = some (.str (tx LET) t1))
    (g_MOST_KINDS : mg "MOST_KINDS" = some (.int 8 t2))
    (g_MOST_LETTERS : mg "MOST_LETTERS" = some (.int 2000 t3))
    (ke0 : K.lookup e0 = some ⟨.type "tuple", dd0, .seq #[] n0, sl0⟩)
    (kRs : PySem.W.selfFirst K R = true)
    (sOO : PySem.W.subIn K (.ref O) (.ref O) = some true)
    (kBG : PySem.W.kitOne K (.ref B) (.ref G) = some false)
    (kGB : PySem.W.notFirst K G (.ref B) = true) (base : Heap) : FnOk PySem.Challenge.pw_crosswalls_k25_whole_bridges w K mg base CX0 10 fa fd ["_law_script"] (spLaw K) := by
  have T : Txt K mg := ⟨z_len, z_int, z_list⟩
  have TP : TxtP K mg C := ⟨z_len, z_int, z_list, z_isinstance, z_str, z_all, z_set, z_tuple, ⟨_, g_LETTERS⟩, ⟨_, g_MOST_KINDS⟩, c_Plan, n_C_kinds, n_C_pairs, n_C_own_crossing⟩
  have TR : TxtR K mg C R O := ⟨TP, z_enumerate, ⟨_, g_MOST_LETTERS⟩, c_Room, n_R_plan, n_R_name, e_OtherPlan⟩
  have TH : TxtH K mg := ⟨T, z_range⟩
  have TV : TxtV K mg := ⟨TH, z_tuple, z_min, z_dict⟩
  have TO : TxtO K mg := ⟨z_sorted, z_len, z_str⟩
  have TB : TxtB K mg C R O B := ⟨TR, c_Block, n_B_plan, n_B_kinds, n_B_room, n_B_many⟩
  have TN : TxtN K mg C R O B := ⟨TB, kRs⟩
  have TG : TxtBr K mg C R O B G := ⟨TN, c_Bridge, n_G_way, n_G_kinds, n_G_one, n_G_other⟩
  have TL : TxtL25 K mg C R O B G := ⟨TG, z_range, z_min, sOO⟩
  have TK : TxtK25 K mg C R O B G := ⟨TL, kGB⟩
  have kt : ∀ H : Hp, SeqO K H e0 [] := fun H => .inr (.inr ⟨rfl, _, n0, ke0, rfl, rfl⟩)
  have D_draw := ok_draw (P := PySem.Challenge.pw_crosswalls_k25_whole_bridges) (w := w) (base := base) F_draw T
  have D_pen := ok_pen (P := PySem.Challenge.pw_crosswalls_k25_whole_bridges) (w := w) (base := base) F_pen T
  have D_are := ok_are_letters (P := PySem.Challenge.pw_crosswalls_k25_whole_bridges) (w := w) (base := base) F_are_letters TP
  have D_asc := ok_ascending (P := PySem.Challenge.pw_crosswalls_k25_whole_bridges) (w := w) (base := base) F_ascending TP
  have D_isl := ok_is_list (P := PySem.Challenge.pw_crosswalls_k25_whole_bridges) (w := w) (base := base) F_is_list TP
  have D_few := ok_need_few (P := PySem.Challenge.pw_crosswalls_k25_whole_bridges) (w := w) (base := base) F_need_few TP
  have D_chk := ok_checked_pairs F_checked_pairs TP D_isl D_are D_asc
  have D_tab := ok_crossing_table (P := PySem.Challenge.pw_crosswalls_k25_whole_bridges) (w := w) (base := base) F_crossing_table TP
  have X_Plan := ok_Plan F_Plan_init rfl TP D_are D_asc D_chk D_few D_tab
  have C_Plan_1 := X_Plan.kw 1 [] [.pos 0, .dfl 0] (by simp) fun T kV doc pm an cdv ct us its ws l1 l2 l3 => by
    match us, l1, its, l2, ws, l3 with
    | [_, _], _, [_], _, [], _ => exact ⟨_, rfl, rfl⟩
  have M_Plan_eq := ok_Plan_eq (P := PySem.Challenge.pw_crosswalls_k25_whole_bridges) (w := w) (mg := mg) (base := base) F_Plan_eq TP
  have D_st := ok_stepped (P := PySem.Challenge.pw_crosswalls_k25_whole_bridges) (w := w) (base := base) F_stepped TP
  have D_jo := ok_joined F_joined D_st
  have D_tb := ok_turned_back F_turned_back D_jo
  have D_wf := ok_way_from F_way_from D_jo D_tb
  have D_ns := ok_need_same F_need_same TR M_Plan_eq
  have D_sf := ok_still_free (P := PySem.Challenge.pw_crosswalls_k25_whole_bridges) (w := w) (base := base) F_still_free TP
  have D_nw := ok_need_way (P := PySem.Challenge.pw_crosswalls_k25_whole_bridges) (w := w) (base := base) F_need_way TR
  have X_Room := ok_Room F_Room_init rfl TR D_nw D_jo
  have C_Room_1 := X_Room.kw 1 [] [.pos 0, .dfl 0] (by simp) fun T kV doc pm an cdv ct us its ws l1 l2 l3 => by
    match us, l1, its, l2, ws, l3 with
    | [_, _], _, [_], _, [], _ => exact ⟨_, rfl, rfl⟩
  have M_wt := ok_Room_way_to F_Room_way_to TR D_ns D_wf
  have M_eq := ok_Room_eq F_Room_eq TR M_Plan_eq
  have M_add := ok_Room_add F_Room_add TR D_nw D_jo X_Room.cdef
  have D_pick := ok_pick F_pick T D_draw
  have D_shuf := ok_shuffled F_shuffled T D_draw
  have D_floor := ok_floor F_floor TH D_draw D_pick
  have D_made := ok_made F_made TR D_draw D_shuf X_Plan.cdef
  have D_walk := ok_walk F_walk TH D_draw D_pick
  have D_begun := ok_begun F_begun D_draw D_walk
  have D_clique := ok_clique F_clique TR D_shuf
  have D_units := ok_units (P := PySem.Challenge.pw_crosswalls_k25_whole_bridges) (w := w) (base := base) F_units TV
  have D_through := ok_through (P := PySem.Challenge.pw_crosswalls_k25_whole_bridges) (w := w) (base := base) F_through TV
  have D_marks := ok_marks F_marks D_units D_through
  have D_backs := ok_backs (P := PySem.Challenge.pw_crosswalls_k25_whole_bridges) (w := w) (base := base) F_backs TV
  have D_name := ok_name F_name D_marks D_through D_backs
  have D_plain := ok_plain (P := PySem.Challenge.pw_crosswalls_k25_whole_bridges) (w := w) (base := base) F_plain TV
  have D_far := ok_far F_far T D_name
  have D_sa := ok_split_ahead F_split_ahead TR D_sf
  have D_we := ok_without_end F_without_end D_sa
  have D_ik := ok_is_kind (P := PySem.Challenge.pw_crosswalls_k25_whole_bridges) (w := w) (base := base) F_is_kind TP
  have D_io := ok_in_order (P := PySem.Challenge.pw_crosswalls_k25_whole_bridges) (w := w) (base := base) F_in_order TO
  have D_nks := ok_need_kinds F_need_kinds TR D_ik
  have D_ac := ok_all_cross (P := PySem.Challenge.pw_crosswalls_k25_whole_bridges) (w := w) (base := base) F_all_cross TR
  have X_Block := ok_Block F_Block_init TB D_nks D_ac D_we X_Room.cdef
  have M_Beq := ok_Block_eq F_Block_eq TB M_eq
  have M_near := ok_Block_nearest F_Block_nearest TN D_ns D_wf D_sa M_add
  have M_in := ok_Block_contains F_Block_contains TN M_Plan_eq X_Block.cdef M_eq
  have D_ro := ok_rooms_of F_rooms_of D_io X_Room.cdef
  have M_li := ok_Block_listed F_Block_listed TN D_ro D_st
  have X_Bridge := ok_Bridge (P := PySem.Challenge.pw_crosswalls_k25_whole_bridges) (w := w) (base := base) F_Bridge_init TG
  have M_Geq := ok_Bridge_eq F_Bridge_eq TG M_Beq
  have M_Gno := ok_Bridge_no F_Bridge_eq TG kBG M_Beq
  have D_br := ok_bridge F_bridge TG D_ns M_near.calm M_wt X_Block.cdef X_Bridge.cdef
  have D_brk := D_br.calm.kw F_bridge 0 ["other", "one"] [.kw 1, .kw 0] fun kV doc pm an cdv ct us ws l1 l2 => by
    match us, l1, ws, l2 with
    | [], _, [_, _], _ => rfl
  have D_only := ok_only F_only D_name
  have D_sub := ok_subset F_subset TR D_shuf D_draw
  have D_isn := ok_is_near F_is_near TB D_only D_marks D_backs
  have D_isr := ok_is_refused F_is_refused TL D_br
  have D_al := ok_alike F_alike TL M_Beq M_Geq M_Geq
  have D_bri := ok_bridge_right F_bridge_right TL D_name D_only D_marks D_backs D_isn
  have D_lis := ok_listed_right F_listed_right TL D_far M_li M_in M_eq M_add
  have D_pr := ok_plain_right F_plain_right TL kt D_plain D_br.calm D_al D_bri X_Room.cdef X_Block.cdef C_Plan_1
  exact ok_law F_law TK D_pen D_draw D_pick D_floor D_made D_walk D_begun D_sub D_clique D_name D_br.calm D_brk D_bri D_lis D_pr D_al D_isr X_Room.cdef C_Room_1 X_Block.cdef M_Beq M_Geq M_Gno M_add
end
end Cw
set_option Elab.async false
set_option linter.all false
set_option maxRecDepth 100000
open PySem PySem.W PyProof.Rows
set_option maxRecDepth 100000 in
set_option maxHeartbeats 0 in
theorem PySem.Challenge.cw_crosswalls_k25_whole_bridges_holds : PySem.Challenge.rw_crosswalls_k25_whole_bridges.Holds := by
  refine Cw.headOf ?_
  k_fill
  refine Cw.end_walk (l := PySem.Challenge.rw_crosswalls_k25_whole_bridges) (k := 10) (x := "_law_script") (sp := Cw.spLaw) rfl rfl ⟨rfl, by decide, by decide⟩ (fun w h Y => PySem.W.kIn_of Y) (fun _ _ a ns hl _ hS => ⟨a, ns, rfl, hS, hl, fun _ => rfl⟩) ?F
  case F =>
    intro w mg fa h KX G hmg
    refine' ⟨_, fun s v => ?b, fun base _ _ => ?h⟩
    case h =>
      refine' Cw.end25 ?c_Plan ?c_Room ?c_Block ?c_Bridge ?e_OtherPlan ?F_stepped ?F_joined ?F_turned_back ?F_way_from ?F_still_free ?F_split_ahead ?F_without_end ?F_is_list ?F_is_kind ?F_need_way ?F_need_same ?F_need_kinds ?F_all_cross ?F_in_order ?F_rooms_of ?F_bridge ?F_are_letters ?F_ascending ?F_checked_pairs ?F_need_few ?F_crossing_table ?F_pen ?F_draw ?F_pick ?F_shuffled ?F_floor ?F_made ?F_walk ?F_begun ?F_units ?F_through ?F_marks ?F_backs ?F_name ?F_plain ?F_far ?F_clique ?F_only ?F_subset ?F_is_near ?F_listed_right ?F_is_refused ?F_bridge_right ?F_alike ?F_plain_right ?F_law ?F_Plan_eq ?F_Plan_init ?F_Room_init ?F_Block_init ?F_Bridge_init ?F_Room_eq ?F_Room_add ?F_Room_way_to ?F_Block_eq ?F_Block_contains ?F_Block_nearest ?F_Block_listed ?F_Bridge_eq ?z_len ?z_int ?z_list ?z_isinstance ?z_str ?z_all ?z_set ?z_tuple ?z_enumerate ?z_range ?z_min ?z_dict ?z_sorted ?n_C_kinds ?n_C_pairs ?n_C_own_crossing ?n_R_plan ?n_R_name ?n_B_plan ?n_B_kinds ?n_B_room ?n_B_many ?n_G_way ?n_G_kinds ?n_G_one ?n_G_other ?g_LETTERS ?g_MOST_KINDS ?g_MOST_LETTERS ?ke0 ?kRs ?sOO ?kBG ?kGB base
      case c_Plan => refine' Cw.cls_mk KX G ?a ?pg ?hd ?po ?sa ?mk ?kc ?ha ?hn ?ht ?hm ?ob ?ne; (case a => k_is); (case pg => k_is); (case hd => k_is); (case po => k_is); (case sa => k_is); (case mk => k_is); (case kc => k_is); (case ha => k_is); (case hn => k_is); (case ht => k_is); (case hm => k_is); (case ob => k_is); (case ne => k_is)
      case c_Room => refine' Cw.cls_mk KX G ?a ?pg ?hd ?po ?sa ?mk ?kc ?ha ?hn ?ht ?hm ?ob ?ne; (case a => k_is); (case pg => k_is); (case hd => k_is); (case po => k_is); (case sa => k_is); (case mk => k_is); (case kc => k_is); (case ha => k_is); (case hn => k_is); (case ht => k_is); (case hm => k_is); (case ob => k_is); (case ne => k_is)
      case c_Block => refine' Cw.cls_mk KX G ?a ?pg ?hd ?po ?sa ?mk ?kc ?ha ?hn ?ht ?hm ?ob ?ne; (case a => k_is); (case pg => k_is); (case hd => k_is); (case po => k_is); (case sa => k_is); (case mk => k_is); (case kc => k_is); (case ha => k_is); (case hn => k_is); (case ht => k_is); (case hm => k_is); (case ob => k_is); (case ne => k_is)
      case c_Bridge => refine' Cw.cls_mk KX G ?a ?pg ?hd ?po ?sa ?mk ?kc ?ha ?hn ?ht ?hm ?ob ?ne; (case a => k_is); (case pg => k_is); (case hd => k_is); (case po => k_is); (case sa => k_is); (case mk => k_is); (case kc => k_is); (case ha => k_is); (case hn => k_is); (case ht => k_is); (case hm => k_is); (case ob => k_is); (case ne => k_is)
      case e_OtherPlan => refine' Cw.exc_mk KX G ?a ?e ?k ?ty ?hg ?hk ?hs ?hd ?ha ?hn ?ht ?hm; (case a => k_is); (case k => k_is); (case ty => k_is); (case hg => k_is); (case hk => k_is); (case hs => k_is); (case hd => k_is); (case ha => k_is); (case hn => k_is); (case ht => k_is); (case hm => k_is); (case e => k_exc)
      case F_stepped => refine' Cw.fnAt_mk KX G ?a ?l ?c ?k; (case a => k_is); (case l => k_is); (case c => k_is); (case k => k_is)
      case F_joined => refine' Cw.fnAt_mk KX G ?a ?l ?c ?k; (case a => k_is); (case l => k_is); (case c => k_is); (case k => k_is)
      case F_turned_back => refine' Cw.fnAt_mk KX G ?a ?l ?c ?k; (case a => k_is); (case l => k_is); (case c => k_is); (case k => k_is)
      case F_way_from => refine' Cw.fnAt_mk KX G ?a ?l ?c ?k; (case a => k_is); (case l => k_is); (case c => k_is); (case k => k_is)
      case F_still_free => refine' Cw.fnAt_mk KX G ?a ?l ?c ?k; (case a => k_is); (case l => k_is); (case c => k_is); (case k => k_is)
      case F_split_ahead => refine' Cw.fnAt_mk KX G ?a ?l ?c ?k; (case a => k_is); (case l => k_is); (case c => k_is); (case k => k_is)
      case F_without_end => refine' Cw.fnAt_mk KX G ?a ?l ?c ?k; (case a => k_is); (case l => k_is); (case c => k_is); (case k => k_is)
      case F_is_list => refine' Cw.fnAt_mk KX G ?a ?l ?c ?k; (case a => k_is); (case l => k_is); (case c => k_is); (case k => k_is)
      case F_is_kind => refine' Cw.fnAt_mk KX G ?a ?l ?c ?k; (case a => k_is); (case l => k_is); (case c => k_is); (case k => k_is)
      case F_need_way => refine' Cw.fnAt_mk KX G ?a ?l ?c ?k; (case a => k_is); (case l => k_is); (case c => k_is); (case k => k_is)
      case F_need_same => refine' Cw.fnAt_mk KX G ?a ?l ?c ?k; (case a => k_is); (case l => k_is); (case c => k_is); (case k => k_is)
      case F_need_kinds => refine' Cw.fnAt_mk KX G ?a ?l ?c ?k; (case a => k_is); (case l => k_is); (case c => k_is); (case k => k_is)
      case F_all_cross => refine' Cw.fnAt_mk KX G ?a ?l ?c ?k; (case a => k_is); (case l => k_is); (case c => k_is); (case k => k_is)
      case F_in_order => refine' Cw.fnAt_mk KX G ?a ?l ?c ?k; (case a => k_is); (case l => k_is); (case c => k_is); (case k => k_is)
      case F_rooms_of => refine' Cw.fnAt_mk KX G ?a ?l ?c ?k; (case a => k_is); (case l => k_is); (case c => k_is); (case k => k_is)
      case F_bridge => refine' Cw.fnAt_mk KX G ?a ?l ?c ?k; (case a => k_is); (case l => k_is); (case c => k_is); (case k => k_is)
      case F_are_letters => refine' Cw.fnAt_mk KX G ?a ?l ?c ?k; (case a => k_is); (case l => k_is); (case c => k_is); (case k => k_is)
      case F_ascending => refine' Cw.fnAt_mk KX G ?a ?l ?c ?k; (case a => k_is); (case l => k_is); (case c => k_is); (case k => k_is)
      case F_checked_pairs => refine' Cw.fnAt_mk KX G ?a ?l ?c ?k; (case a => k_is); (case l => k_is); (case c => k_is); (case k => k_is)
      case F_need_few => refine' Cw.fnAt_mk KX G ?a ?l ?c ?k; (case a => k_is); (case l => k_is); (case c => k_is); (case k => k_is)
      case F_crossing_table => refine' Cw.fnAt_mk KX G ?a ?l ?c ?k; (case a => k_is); (case l => k_is); (case c => k_is); (case k => k_is)
      case F_pen => refine' Cw.fnAt_mk KX G ?a ?l ?c ?k; (case a => k_is); (case l => k_is); (case c => k_is); (case k => k_is)
      case F_draw => refine' Cw.fnAt_mk KX G ?a ?l ?c ?k; (case a => k_is); (case l => k_is); (case c => k_is); (case k => k_is)
      case F_pick => refine' Cw.fnAt_mk KX G ?a ?l ?c ?k; (case a => k_is); (case l => k_is); (case c => k_is); (case k => k_is)
      case F_shuffled => refine' Cw.fnAt_mk KX G ?a ?l ?c ?k; (case a => k_is); (case l => k_is); (case c => k_is); (case k => k_is)
      case F_floor => refine' Cw.fnAt_mk KX G ?a ?l ?c ?k; (case a => k_is); (case l => k_is); (case c => k_is); (case k => k_is)
      case F_made => refine' Cw.fnAt_mk KX G ?a ?l ?c ?k; (case a => k_is); (case l => k_is); (case c => k_is); (case k => k_is)
      case F_walk => refine' Cw.fnAt_mk KX G ?a ?l ?c ?k; (case a => k_is); (case l => k_is); (case c => k_is); (case k => k_is)
      case F_begun => refine' Cw.fnAt_mk KX G ?a ?l ?c ?k; (case a => k_is); (case l => k_is); (case c => k_is); (case k => k_is)
      case F_units => refine' Cw.fnAt_mk KX G ?a ?l ?c ?k; (case a => k_is); (case l => k_is); (case c => k_is); (case k => k_is)
      case F_through => refine' Cw.fnAt_mk KX G ?a ?l ?c ?k; (case a => k_is); (case l => k_is); (case c => k_is); (case k => k_is)
      case F_marks => refine' Cw.fnAt_mk KX G ?a ?l ?c ?k; (case a => k_is); (case l => k_is); (case c => k_is); (case k => k_is)
      case F_backs => refine' Cw.fnAt_mk KX G ?a ?l ?c ?k; (case a => k_is); (case l => k_is); (case c => k_is); (case k => k_is)
      case F_name => refine' Cw.fnAt_mk KX G ?a ?l ?c ?k; (case a => k_is); (case l => k_is); (case c => k_is); (case k => k_is)
      case F_plain => refine' Cw.fnAt_mk KX G ?a ?l ?c ?k; (case a => k_is); (case l => k_is); (case c => k_is); (case k => k_is)
      case F_far => refine' Cw.fnAt_mk KX G ?a ?l ?c ?k; (case a => k_is); (case l => k_is); (case c => k_is); (case k => k_is)
      case F_clique => refine' Cw.fnAt_mk KX G ?a ?l ?c ?k; (case a => k_is); (case l => k_is); (case c => k_is); (case k => k_is)
      case F_only => refine' Cw.fnAt_mk KX G ?a ?l ?c ?k; (case a => k_is); (case l => k_is); (case c => k_is); (case k => k_is)
      case F_subset => refine' Cw.fnAt_mk KX G ?a ?l ?c ?k; (case a => k_is); (case l => k_is); (case c => k_is); (case k => k_is)
      case F_is_near => refine' Cw.fnAt_mk KX G ?a ?l ?c ?k; (case a => k_is); (case l => k_is); (case c => k_is); (case k => k_is)
      case F_listed_right => refine' Cw.fnAt_mk KX G ?a ?l ?c ?k; (case a => k_is); (case l => k_is); (case c => k_is); (case k => k_is)
      case F_is_refused => refine' Cw.fnAt_mk KX G ?a ?l ?c ?k; (case a => k_is); (case l => k_is); (case c => k_is); (case k => k_is)
      case F_bridge_right => refine' Cw.fnAt_mk KX G ?a ?l ?c ?k; (case a => k_is); (case l => k_is); (case c => k_is); (case k => k_is)
      case F_alike => refine' Cw.fnAt_mk KX G ?a ?l ?c ?k; (case a => k_is); (case l => k_is); (case c => k_is); (case k => k_is)
      case F_plain_right => refine' Cw.fnAt_mk KX G ?a ?l ?c ?k; (case a => k_is); (case l => k_is); (case c => k_is); (case k => k_is)
      case F_law => refine' Cw.fun1_mk KX G hmg ?a ?l ?c ?k; (case a => k_is); (case l => k_is); (case c => k_is); (case k => k_is)
      case F_Plan_eq => refine' Cw.mAt_mk ?a ?i ?l ?c ?k; (case a => k_is); (case i => k_is); (case l => k_is); (case c => k_is); (case k => k_is)
      case F_Plan_init => refine' Cw.mAtD_mk ?a ?i ?l ?c ?k ?t ?v ?d; (case a => k_is); (case i => k_is); (case l => k_is); (case c => k_is); (case k => k_is); (case t => k_is); (case v => exact .cons rfl .nil); (case d => intro z; cases z)
      case F_Room_init => refine' Cw.mAtD_mk ?a ?i ?l ?c ?k ?t ?v ?d; (case a => k_is); (case i => k_is); (case l => k_is); (case c => k_is); (case k => k_is); (case t => k_is); (case v => exact .cons ⟨_, rfl⟩ .nil); (case d => intro z; cases z)
      case F_Block_init => refine' Cw.mAt_mk ?a ?i ?l ?c ?k; (case a => k_is); (case i => k_is); (case l => k_is); (case c => k_is); (case k => k_is)
      case F_Bridge_init => refine' Cw.mAt_mk ?a ?i ?l ?c ?k; (case a => k_is); (case i => k_is); (case l => k_is); (case c => k_is); (case k => k_is)
      case F_Room_eq => refine' Cw.mAt_mk ?a ?i ?l ?c ?k; (case a => k_is); (case i => k_is); (case l => k_is); (case c => k_is); (case k => k_is)
      case F_Room_add => refine' Cw.mAt_mk ?a ?i ?l ?c ?k; (case a => k_is); (case i => k_is); (case l => k_is); (case c => k_is); (case k => k_is)
      case F_Room_way_to => refine' Cw.mAt_mk ?a ?i ?l ?c ?k; (case a => k_is); (case i => k_is); (case l => k_is); (case c => k_is); (case k => k_is)
      case F_Block_eq => refine' Cw.mAt_mk ?a ?i ?l ?c ?k; (case a => k_is); (case i => k_is); (case l => k_is); (case c => k_is); (case k => k_is)
      case F_Block_contains => refine' Cw.mAt_mk ?a ?i ?l ?c ?k; (case a => k_is); (case i => k_is); (case l => k_is); (case c => k_is); (case k => k_is)
      case F_Block_nearest => refine' Cw.mAt_mk ?a ?i ?l ?c ?k; (case a => k_is); (case i => k_is); (case l => k_is); (case c => k_is); (case k => k_is)
      case F_Block_listed => refine' Cw.mAt_mk ?a ?i ?l ?c ?k; (case a => k_is); (case i => k_is); (case l => k_is); (case c => k_is); (case k => k_is)
      case F_Bridge_eq => refine' Cw.mAt_mk ?a ?i ?l ?c ?k; (case a => k_is); (case i => k_is); (case l => k_is); (case c => k_is); (case k => k_is)
      case z_len => refine' PySem.W.mg_none_of KX G ?a; (case a => k_is)
      case z_int => refine' PySem.W.mg_none_of KX G ?a; (case a => k_is)
      case z_list => refine' PySem.W.mg_none_of KX G ?a; (case a => k_is)
      case z_isinstance => refine' PySem.W.mg_none_of KX G ?a; (case a => k_is)
      case z_str => refine' PySem.W.mg_none_of KX G ?a; (case a => k_is)
      case z_all => refine' PySem.W.mg_none_of KX G ?a; (case a => k_is)
      case z_set => refine' PySem.W.mg_none_of KX G ?a; (case a => k_is)
      case z_tuple => refine' PySem.W.mg_none_of KX G ?a; (case a => k_is)
      case z_enumerate => refine' PySem.W.mg_none_of KX G ?a; (case a => k_is)
      case z_range => refine' PySem.W.mg_none_of KX G ?a; (case a => k_is)
      case z_min => refine' PySem.W.mg_none_of KX G ?a; (case a => k_is)
      case z_dict => refine' PySem.W.mg_none_of KX G ?a; (case a => k_is)
      case z_sorted => refine' PySem.W.mg_none_of KX G ?a; (case a => k_is)
      case n_C_kinds => unfold L2.NoAttr; k_is
      case n_C_pairs => unfold L2.NoAttr; k_is
      case n_C_own_crossing => unfold L2.NoAttr; k_is
      case n_R_plan => unfold L2.NoAttr; k_is
      case n_R_name => unfold L2.NoAttr; k_is
      case n_B_plan => unfold L2.NoAttr; k_is
      case n_B_kinds => unfold L2.NoAttr; k_is
      case n_B_room => unfold L2.NoAttr; k_is
      case n_B_many => unfold L2.NoAttr; k_is
      case n_G_way => unfold L2.NoAttr; k_is
      case n_G_kinds => unfold L2.NoAttr; k_is
      case n_G_one => unfold L2.NoAttr; k_is
      case n_G_other => unfold L2.NoAttr; k_is
      case g_LETTERS => refine' Cw.glob_mk KX G ?a; (case a => k_is)
      case g_MOST_KINDS => refine' Cw.glob_mk KX G ?a; (case a => k_is)
      case g_MOST_LETTERS => refine' Cw.glob_mk KX G ?a; (case a => k_is)
      case ke0 => first | k_is | k_exc | kernel_rfl
      case kRs => first | k_is | k_exc | kernel_rfl
      case sOO => first | k_is | k_exc | kernel_rfl
      case kBG => first | k_is | k_exc | kernel_rfl
      case kGB => first | k_is | k_exc | kernel_rfl
    case b => exact .of_eq rfl
