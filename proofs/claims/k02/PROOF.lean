import PyProof.Rows.All
import Wide.All
import OpenK.AllK
import Wide.FinOn
import HandS.ForMost
import HandS.ForExc
import HandS.Wide
import HandS.Style
import HandS.Flow
import HandS.IsInst
import HandS.OwnEq
import PyProof.Rows.SetFrom
import PyProof.StrWalks
import PyProof.InstNe
import HandS.Exc
import HandS.Defaults
import HandS.Walk
import PyProof.Rows.StrRev
import HandS.Steps
import PySem.Challenge.RW_crosswalls_k02_plans_refused
import KE.GoesMore
import HandS.TupLe
import HandS.ExcOwn
import HandS.ExcIs
import PyProof.ExcBaseAll.ValueError
import HandS.Iter
import HandS.Conv
import HandS.More
import HandS.WordsExc
import HandS.MakeKw
import HandS.MakeKwOnly
import HandS.Property
import HandS.ClsMeth
import HandS.TupAny
import HandS.Codes
import PyProof.FString5
import HandS.ExcInit
import HandS.Nested
import KE.KExcSuper
import HandS.ExcField
import KE.KExcIs
import HandS.TryMany
import HandS.Lambda
import HandS.DeepEq
import PyProof.NeKinds
import PyProof.ListStr
import HandS.SortInts
import HandS.SortKw
import HandS.Set
import HandS.SetFor
import HandS.Ends
import HandS.EndTab
import KE.KStateDown
import HandS.Head0
import HandS.Head1
import HandS.Head2
import KE.KNestM
set_option Elab.async false
set_option maxRecDepth 100000
set_option maxHeartbeats 4000000
/-! Own words over the hand layer: defs by name, texts as lists of codes. -/
namespace Cw
open PySem PySem.Spec PyProof.Rows L2

/-! ### defs by their module name -/
/-- a def of the module stands as the text has it -/
structure FnAt (K : PySem.W.Frag) (mg : Str → Option Value) (x : Str) (st : Stmt) : Prop where
  ex : ∃ f fd, mg x = some (.ref f) ∧ Fun K x x st f fd
/-- how a def's arguments bind where all are given, and where it stands -/
structure Bd (K : PySem.W.Frag) (f : Addr) (fd : FuncData) (ps : List Str) : Prop where
  b : Binds K fd ps []
  lk : ∃ oc od osl, K.lookup f = some ⟨oc, od, .func fd, osl⟩
theorem funLk {K : PySem.W.Frag} {x qual : Str} {st : Stmt} {f : Addr} {fd : FuncData} (F : Fun K x qual st f fd) : ∃ oc od osl, K.lookup f = some ⟨oc, od, .func fd, osl⟩ := by
  obtain ⟨oc, od, kV, doc, pm, an, cdv, ct, osl, rfl, lk, _⟩ := F.ex
  exact ⟨oc, od, osl, lk⟩
/-- a def of the module keeps a promise -/
structure Def (P : Program) (w : World) (K : PySem.W.Frag) (mg : Str → Option Value) (base : Heap) (CX : CXT) (k : Nat) (x : Str) (ps : List Str) (sp : Sp) : Prop where
  ex : ∃ f fd, mg x = some (.ref f) ∧ PySem.W.keepIn K (.ref f) = true ∧ Bd K f fd ps ∧ FnOk P w K mg base CX k f fd ps sp
section
variable {P : Program} {w : World} {K : PySem.W.Frag} {mg : Str → Option Value} {base : Heap} {CX : CXT} {k : Nat} {x : Str} {ps N : List Str} {sp : Sp} {st : Stmt}
theorem Def.mono {j : Nat} (D : Def P w K mg base CX j x ps sp) (h : j ≤ k) : Def P w K mg base CX k x ps sp := by
  obtain ⟨f, fd, a, b, c, d⟩ := D.ex
  exact ⟨f, fd, a, b, c, d.mono h⟩
theorem Def.imp {sp' : Sp} (D : Def P w K mg base CX k x ps sp) (h : ∀ vs H Q E, sp' vs H Q E → sp vs H Q E) : Def P w K mg base CX k x ps sp' := by
  obtain ⟨f, fd, a, b, c, d⟩ := D.ex
  exact ⟨f, fd, a, b, c, d.imp h⟩
/-- a def that lets no exception out -/
theorem FnAt.ok (F : FnAt K mg x st) (S : FnScope N ps (defScope st))
    (hb : ∀ (kV doc pm : Value) (an : Option Addr) (cdv ct : Value) (us : List Value), us.length = ps.length → bindArgs (PySem.W.fnOf x x (defArgs st) (defBody st) (defScope st) .none kV doc pm an cdv ct) ⟨us, []⟩ = pure (ps.zip us))
    (len : ∀ vs H Q E, sp vs H Q E → vs.length = ps.length)
    (hbody : ∀ (f : Addr) (cdv : Value) (A : Around) (outer : List Env) (s : Shared) (H : Hp) (vs : List V) (Q : VK) (E : XK), Room k (A.deeper (envOfC x (defScope st) s.heap.objs.size f cdv)) → sp vs H Q E →
      ∃ t, PSs (cxOf CX0 P w K mg base N x (defScope st) f cdv A outer s H E).nox (defBody st) t ∧ t { nx := fun _ H' => Q .non H', rt := Q } (start N vs) H) : Def P w K mg base CX0 (k + 1) x ps sp := by
  obtain ⟨f, fd, hm, F⟩ := F.ex
  exact ⟨f, fd, hm, F.kp, ⟨F.binds hb, funLk F⟩, F.ok S len fun cdv A outer s H vs Q E hr h => hbody f cdv A outer s H vs Q E hr h⟩
/-- a def that may raise -/
theorem FnAt.okX (F : FnAt K mg x st) (S : FnScope N ps (defScope st))
    (hb : ∀ (kV doc pm : Value) (an : Option Addr) (cdv ct : Value) (us : List Value), us.length = ps.length → bindArgs (PySem.W.fnOf x x (defArgs st) (defBody st) (defScope st) .none kV doc pm an cdv ct) ⟨us, []⟩ = pure (ps.zip us))
    (len : ∀ vs H Q E, sp vs H Q E → vs.length = ps.length)
    (hbody : ∀ (f : Addr) (cdv : Value) (A : Around) (outer : List Env) (s : Shared) (H : Hp) (vs : List V) (Q : VK) (E : XK), Room k (A.deeper (envOfC x (defScope st) s.heap.objs.size f cdv)) → sp vs H Q E →
      ∃ t, PSs (cxOf (L2.CX P w) P w K mg base N x (defScope st) f cdv A outer s H E) (defBody st) t ∧ t { nx := fun _ H' => Q .non H', rt := Q } (start N vs) H) : Def P w K mg base (L2.CX P w) (k + 1) x ps sp := by
  obtain ⟨f, fd, hm, F⟩ := F.ex
  exact ⟨f, fd, hm, F.kp, ⟨F.binds hb, funLk F⟩, F.okX S len fun cdv A outer s H vs Q E hr h => hbody f cdv A outer s H vs Q E hr h⟩
end
section
variable {X : Cx} {CX : CXT} {k : Nat} {ps : List Str} {sp : Sp} {E : XK} {x : Str} {p pos : PySem.Pos} {e : Expr} {es : List Expr} {t : TA}
/-- f(e, ..) of a def that is known by its name -/
theorem pe_cd (D : Def X.prog X.w X.K X.mg X.base CX k x ps sp) (hr : Room k X.A) (hx : Passes CX X E) (ha : PA X (e :: es) t) (hg : Gl X x := by rfl) (hdb : (x == ("__debug__" : Str)) = false := by decide)
    (he : starEach (e :: es) X.env = (false, eval e X.env) :: starEach es X.env := by rfl) (hpl : (backTo pos (starEach es X.env)).any (·.1) = false := by rfl) : PE X (.Call (.Name x p) (e :: es) [] pos) (tCall sp [] E t) := by
  obtain ⟨f, fd, a, b, c, d⟩ := D.ex
  exact pe_call d hr hg a b c.b .nil hx ha hdb he hpl
end
/-! ### heaps -/
/-- all but the object at p is kept -/
def Keep (p : Addr) (H H' : Hp) : Prop := ∀ b o, H b = some o → b ≠ p → H' b = some o
theorem Keep.refl (p : Addr) (H : Hp) : Keep p H H := fun _ _ h _ => h
theorem Keep.trans {p : Addr} {H H1 H2 : Hp} (a : Keep p H H1) (b : Keep p H1 H2) : Keep p H H2 := fun c o h n => b c o (a c o h n) n
theorem Keep.of {p : Addr} {H H' : Hp} (a : Same H H') : Keep p H H' := fun c o h _ => a c o h
theorem Same.at {H H' : Hp} {a : Addr} {o : HO} (S : Same H H') (h : H a = some o) : H' a = some o := S a o h
theorem Keep.at {p : Addr} {H H' : Hp} {a : Addr} {o : HO} (S : Keep p H H') (h : H a = some o) (n : a ≠ p) : H' a = some o := S a o h n
theorem Same.new {H : Hp} {p : Addr} {o : HO} (h : H p = none) : Same H (upd H p o) := fun a u e => by
  rw [upd_ne (ne_of_none e h)]
  exact e
theorem Keep.put {p : Addr} {H : Hp} {o : HO} : Keep p H (upd H p o) := fun a u e n => by
  rw [upd_ne n]
  exact e
end Cw
set_option Elab.async false
set_option linter.all false
set_option maxRecDepth 100000
set_option maxHeartbeats 4000000
namespace Cw
open PySem PySem.Spec L2
/-! ### texts as lists of codes -/
abbrev tx (l : List Nat) : Str := ⟨l.toArray⟩
theorem tx_len (l : List Nat) : (tx l).length = l.length := by
  show (l.toArray).size = l.length
  simp
theorem tx_app (a b : List Nat) : tx a ++ tx b = tx (a ++ b) := by
  show (⟨a.toArray ++ b.toArray⟩ : Str) = ⟨(a ++ b).toArray⟩
  simp
theorem tx_eq {z : Str} : z = tx z.cps.toList := by
  cases z
  simp [tx]
theorem tx_inj {a b : List Nat} : tx a = tx b ↔ a = b := by
  constructor
  · intro h
    have := congrArg (fun z : Str => z.cps.toList) h
    simpa using this
  · intro h
    rw [h]
/-! ### stepping: expressions -/
section
variable {σ : St} {H : Hp} {Q : VK} {i : Nat} {v x y : V} {ta tb te : TE} {r : R2} {D : Ends} {K : PySem.W.Frag}
theorem e_c (q : Q v H) : tC v σ H Q := q
theorem e_op (q : ta σ H fun x H1 => tb σ H1 fun y H2 => r x y H2 Q) : tOp r ta tb σ H Q := q
theorem e_un {r : V → Hp → VK → Prop} (q : ta σ H fun x H1 => r x H1 Q) : tUn r ta σ H Q := q
theorem v_I0 {g : Int → Int → V} {a b : Int} (q : Q (g a b) H) : rI0 g (.int a) (.int b) H Q := ⟨a, b, rfl, rfl, q⟩
theorem v_I {C : Int → Int → Prop} {g : Int → Int → V} {a b : Int} (c : C a b) (q : Q (g a b) H) : rI C g (.int a) (.int b) H Q := ⟨a, b, rfl, rfl, c, q⟩
theorem v_eq (c : scal x y = true) (q : Q (.bl (decide (x = y))) H) : rEq x y H Q := ⟨c, q⟩
theorem v_ne (c : scal x y = true) (q : Q (.bl (!decide (x = y))) H) : rNe x y H Q := ⟨c, q⟩
theorem v_bl {P : Bool → Prop} {b : Bool} (q : P b) : ∃ k, V.bl b = V.bl k ∧ P k := ⟨b, rfl, q⟩
theorem v_int {P : Int → Prop} {b : Int} (q : P b) : ∃ k, V.int b = V.int k ∧ P k := ⟨b, rfl, q⟩
theorem v_str {P : Str → Prop} {b : Str} (q : P b) : ∃ k, V.str b = V.str k ∧ P k := ⟨b, rfl, q⟩
theorem e_andV (q : ta σ H fun x H1 => ∃ c, x = .bl c ∧ if c = true then tb σ H1 Q else Q (.bl false) H1) : tAndV ta tb σ H Q := q
theorem e_orV (q : ta σ H fun x H1 => ∃ c, x = .bl c ∧ if c = true then Q (.bl true) H1 else tb σ H1 Q) : tOrV ta tb σ H Q := q
theorem e_notV (q : ta σ H fun x H1 => ∃ c, x = .bl c ∧ Q (.bl (!c)) H1) : tNotV ta σ H Q := q
theorem e_if {t : TT} (q : t σ H fun c H1 => if c = true then ta σ H1 Q else tb σ H1 Q) : tIf t ta tb σ H Q := q
theorem e_nil {Q : List V → Hp → Prop} (q : Q [] H) : tNil σ H Q := q
theorem e_cons {tr : TA} {Q : List V → Hp → Prop} (q : ta σ H fun x H1 => tr σ H1 fun xs H2 => Q (x :: xs) H2) : tCons ta tr σ H Q := q
theorem e_cb {r : List V → Hp → VK → Prop} {t : TA} (q : t σ H fun vs H1 => r vs H1 Q) : tCB r t σ H Q := q
theorem e_call {sp : Sp} {E : XK} {t : TA} (q : t σ H fun vs H1 => sp vs H1 Q E) : tCall sp [] E t σ H Q := by
  show t σ H fun vs H1 => sp (vs ++ []) H1 Q E
  simpa using q
theorem e_fld {f : Str} (q : ta σ H fun x H1 => ∃ a C dx fs v, x = .ref a ∧ H1 a = some (.ins C dx fs) ∧ Cls K C ∧ NoAttr K C f ∧ fs.lookup f = some v ∧ Q v H1) : tFld K ta f σ H Q := q
theorem e_dget (q : ta σ H fun x H1 => tb σ H1 fun y H2 => ∃ a v, x = .ref a ∧ DGet H2 a y (some v) ∧ Q v H2) : tDGet ta tb σ H Q := q
theorem v_dget {P : V → Prop} {a : Addr} (h : DGet H a y (some v)) (q : P v) : ∃ a' v, V.ref a = .ref a' ∧ DGet H a' y (some v) ∧ P v := ⟨a, v, rfl, h, q⟩
theorem e_lst {t : TA} (q : t σ H fun xs H1 => xs.length ≤ sizeLine ∧ ∀ p H2, H1 p = none → H2 = upd H1 p (.lst xs) → Q (.ref p) H2) : tLst t σ H Q := by
  have e : (fun (xs : List V) (H1 : Hp) => xs.length ≤ sizeLine ∧ ∀ p H2, H1 p = none → H2 = upd H1 p (.lst xs) → Q (.ref p) H2) = (fun xs H1 => xs.length ≤ sizeLine ∧ ∀ p, H1 p = none → Q (.ref p) (upd H1 p (.lst xs))) := by
    funext xs H1
    exact propext ⟨fun h => ⟨h.1, fun p hp => h.2 p _ hp rfl⟩, fun h => ⟨h.1, fun p H2 hp e => e ▸ h.2 p hp⟩⟩
  rw [e] at q
  exact q
theorem e_tup {t : TA} (q : t σ H fun xs H1 => xs.length ≤ sizeLine ∧ ∀ p H2, H1 p = none → H2 = upd H1 p (.tup xs) → Q (.ref p) H2) : tTup t σ H Q := by
  have e : (fun (xs : List V) (H1 : Hp) => xs.length ≤ sizeLine ∧ ∀ p H2, H1 p = none → H2 = upd H1 p (.tup xs) → Q (.ref p) H2) = (fun xs H1 => xs.length ≤ sizeLine ∧ ∀ p, H1 p = none → Q (.ref p) (upd H1 p (.tup xs))) := by
    funext xs H1
    exact propext ⟨fun h => ⟨h.1, fun p hp => h.2 p _ hp rfl⟩, fun h => ⟨h.1, fun p H2 hp e => e ▸ h.2 p hp⟩⟩
  rw [e] at q
  exact q
theorem e_dnew (q : ∀ p H', H p = none → Same H H' → H' p = some (.dK []) → Q (.ref p) H') : tDNewK σ H Q := fun p h => q p _ h (Same.new h) upd_same
theorem szl {n : Nat} (h : n ≤ 1000000) : n ≤ sizeLine := Nat.le_trans h (by decide)
theorem szlt {n : Nat} (h : n < 1000000) : n < sizeLine := Nat.lt_of_lt_of_le h (by decide)
theorem v_lst {xs : List V} {P : Addr → Hp → Prop} (h : xs.length ≤ 1000000) (q : ∀ p H', H p = none → Same H H' → H' p = some (.lst xs) → P p H') : xs.length ≤ sizeLine ∧ ∀ p H2, H p = none → H2 = upd H p (.lst xs) → P p H2 := ⟨szl h, fun p H2 hp e => q p H2 hp (e ▸ Same.new hp) (e ▸ upd_same)⟩
theorem v_tup {xs : List V} {P : Addr → Hp → Prop} (h : xs.length ≤ 1000000) (q : ∀ p H', H p = none → Same H H' → H' p = some (.tup xs) → P p H') : xs.length ≤ sizeLine ∧ ∀ p H2, H p = none → H2 = upd H p (.tup xs) → P p H2 := ⟨szl h, fun p H2 hp e => q p H2 hp (e ▸ Same.new hp) (e ▸ upd_same)⟩
theorem v_ixL {p : Addr} {xs : List V} {a : Int} (h : H p = some (.lst xs)) (c : atI xs a = some v) (q : Q v H) : rIxL K (.ref p) (.int a) H Q := ⟨p, xs, a, v, rfl, rfl, SqL.of h, c, q⟩
theorem v_ixS {l : List Nat} {a : Int} {c : Nat} (h : l.length ≤ 1000000) (e : atI l a = some c) (q : Q (.str (tx [c])) H) : rIxS (.str (tx l)) (.int a) H Q := ⟨tx l, a, c, rfl, rfl, by rw [tx_len]; exact szl h, by simpa using e, q⟩
end
/-! ### named relations of built-in calls -/
def rInt : List V → Hp → VK → Prop := fun xs H Q => (∃ i, xs = [.int i] ∧ Q (.int i) H) ∨ ∃ k, xs = [.bl k] ∧ Q (.int (if k then 1 else 0)) H
theorem c_int {X : Cx} : CallR X (.type "int") rInt := call_int1
def rLen (K : PySem.W.Frag) : List V → Hp → VK → Prop := fun xs H Q => ∃ p ys, xs = [.ref p] ∧ (SqL K H p ys ∨ SqT K H p ys) ∧ Q (.int ys.length) H
theorem c_len {X : Cx} : CallR X (.builtin "len") (rLen X.K) := call_len_seq
def rLenS : List V → Hp → VK → Prop := fun xs H Q => ∃ x, xs = [.str x] ∧ x.length ≤ sizeLine ∧ Q (.int x.length) H
theorem c_lenS {X : Cx} : CallR X (.builtin "len") rLenS := call_len_str
section
variable {σ : St} {H : Hp} {Q : VK} {i : Nat} {v x y : V} {K : PySem.W.Frag}
theorem v_inti {a : Int} (q : Q (.int a) H) : rInt [.int a] H Q := .inl ⟨a, rfl, q⟩
theorem v_intb {k : Bool} (q : Q (.int (if k then 1 else 0)) H) : rInt [.bl k] H Q := .inr ⟨k, rfl, q⟩
theorem v_len {p : Addr} {ys : List V} (h : H p = some (.lst ys)) (q : Q (.int ys.length) H) : rLen K [.ref p] H Q := ⟨p, ys, rfl, .inl (SqL.of h), q⟩
theorem v_lenS {l : List Nat} (h : l.length ≤ 1000000) (q : Q (.int l.length) H) : rLenS [.str (tx l)] H Q := ⟨tx l, rfl, by rw [tx_len]; exact szl h, by rw [tx_len]; exact q⟩
end
/-! ### stepping: statements -/
section
variable {σ : St} {H : Hp} {i : Nat} {v : V} {te : TE} {tt u : TT} {t1 t2 : TS} {D : Ends}
theorem s_start {N : List Str} {vs : List V} {t : TS} (s0 : St) (h : start N vs = s0) (q : t D s0 H) : t D (start N vs) H := by rw [h]; exact q
theorem s_seq (q : t1 { D with nx := t2 D } σ H) : tSeq t1 t2 D σ H := q
theorem s_next (q : D.nx σ H) : tNext D σ H := q
theorem s_set (q : te σ H fun v H1 => D.nx (σ.set i (some v)) H1) : tAsg te (gName i) D σ H := q
theorem s_drop (q : te σ H fun _ H1 => D.nx σ H1) : tDrop te D σ H := q
theorem s_ret (q : te σ H D.rt) : tRet te D σ H := q
theorem s_if (q : tt σ H fun b H1 => if b = true then t1 D σ H1 else t2 D σ H1) : tIfS tt t1 t2 D σ H := q
theorem t_test {Q : Bool → Hp → Prop} (q : te σ H fun x H' => ∃ k, x = .bl k ∧ Q k H') : tTest te σ H Q := q
theorem t_B {Q : Bool → Hp → Prop} (q : te σ H fun x H' => ∃ k, x = .bl k ∧ Q k H') : tB te σ H Q := q
theorem t_and {Q : Bool → Hp → Prop} (q : tt σ H fun c H1 => if c = true then u σ H1 Q else Q false H1) : tAnd tt u σ H Q := q
theorem t_or {Q : Bool → Hp → Prop} (q : tt σ H fun c H1 => if c = true then Q true H1 else u σ H1 Q) : tOr tt u σ H Q := q
theorem t_not {Q : Bool → Hp → Prop} (q : tt σ H fun c H1 => Q (!c) H1) : tNot tt σ H Q := q
theorem s_dput {td ty tv : TE} (q : tv σ H fun v H1 => td σ H1 fun x H2 => ty σ H2 fun y H3 => ∃ a H4, x = .ref a ∧ DPut H3 a y v H4 ∧ D.nx σ H4) : sDPut td ty tv D σ H := q
theorem if_dec {c A B : Prop} [Decidable c] (h1 : c → A) (h2 : ¬ c → B) : if decide c = true then A else B := by
  by_cases h : c
  · rw [decide_eq_true h, if_pos rfl]; exact h1 h
  · rw [decide_eq_false h, if_neg Bool.false_ne_true]; exact h2 h
theorem if_ndec {c A B : Prop} [Decidable c] (h1 : ¬ c → A) (h2 : c → B) : if (!decide c) = true then A else B := by
  by_cases h : c
  · rw [decide_eq_true h]; exact iteF (h2 h)
  · rw [decide_eq_false h]; exact iteT (h1 h)
theorem if_bool {b : Bool} {A B : Prop} (h1 : b = true → A) (h2 : b = false → B) : if b = true then A else B := by
  cases b with
  | true => exact iteT (h1 rfl)
  | false => exact iteF (h2 rfl)
end

/-! ### cuts: what follows is shown once -/
section
variable {X : Cx} {σ : St} {H : Hp} {D : Ends} {t u : TS}
def tCutE (te : TE) : TE := fun σ H Q => ∃ Mid : V → Hp → Prop, te σ H Mid ∧ ∀ v H', Mid v H' → Q v H'
theorem pe_cut {e : Expr} {te : TE} (h : PE X e te) : PE X e (tCutE te) := by
  refine ⟨fun pins s σ H Q I q => ?_⟩
  obtain ⟨Mid, hm, hu⟩ := q
  exact thn (h.run pins s σ H Mid I hm) fun u s1 ⟨x, H1, I1, r1, q1⟩ => ⟨x, H1, I1, r1, hu x H1 q1⟩
theorem e_cut {te : TE} {Q : VK} (Mid : V → Hp → Prop) (h : te σ H Mid) (q : ∀ v H', Mid v H' → Q v H') : tCutE te σ H Q := ⟨Mid, h, q⟩
def tCutS (t u : TS) : TS := fun D σ H => ∃ Mid : St → Hp → Prop, t { D with nx := Mid } σ H ∧ ∀ σ' H', Mid σ' H' → u D σ' H'
theorem pss_cutS {st : Stmt} {rest : List Stmt} (h1 : PS X st t) (h2 : PSs X rest u) : PSs X (st :: rest) (tCutS t u) := by
  refine ⟨fun pins s σ H D I h => ?_⟩
  obtain ⟨Mid, hm, hu⟩ := h
  refine wpAny_execs_cons (thn (h1.run pins s σ H { D with nx := Mid } I hm) fun f s1 q => ?_)
  cases f with
  | next =>
    obtain ⟨σ', H', I', q⟩ := q
    exact h2.run pins s1 σ' H' D I' (hu σ' H' q)
  | ret v => exact q
  | brk => exact q
  | cont => exact q
theorem s_cut (Mid : St → Hp → Prop) (h : t { D with nx := Mid } σ H) (q : ∀ σ' H', Mid σ' H' → u D σ' H') : tCutS t u D σ H := ⟨Mid, h, q⟩
end
section
variable {σ : St} {H : Hp} {v y : V}
theorem v_put {P : Hp → Prop} {a : Addr} {o : HO} (h : DPut H a y v (upd H a o)) (q : ∀ H', Keep a H H' → H' a = some o → P H') : ∃ a' H4, V.ref a = .ref a' ∧ DPut H a' y v H4 ∧ P H4 := ⟨a, _, rfl, h, q _ Keep.put upd_same⟩
end
/-! ### data -/
theorem dp_ints {K : PySem.W.Frag} {H : Hp} : ∀ ns : List Int, DpAll K H (ns.map V.int) (ns.map PyData.int)
  | [] => .nil
  | n :: r => .cons (.int n) (dp_ints r)
theorem lay_ints : ∀ ns : List Int, PyData.canLayAll0 (ns.map PyData.int) = true
  | [] => rfl
  | n :: r => lay_ints r
theorem dep_ints : ∀ ns : List Int, PyData.depthAll (ns.map PyData.int) ≤ 1
  | [] => by decide
  | n :: r => Nat.max_le.mpr ⟨by show PyData.depth (.int n) ≤ 1; simp [PyData.depth], dep_ints r⟩
theorem shaped_ints (ns : List Int) : SeqAt.shaped (.list (ns.map PyData.int)) = true := by
  have h := dep_ints ns
  have h2 : (PyData.list (ns.map PyData.int)).depth ≤ 64 := by simp only [PyData.depth]; omega
  have h3 : (PyData.list (ns.map PyData.int)).canLay0 = true := by simp only [PyData.canLay0]; exact lay_ints ns
  simp [SeqAt.shaped, h2, h3]
theorem shaped_nil : SeqAt.shaped (.list []) = true := shaped_ints []
theorem eqv_nil {ds : List PyData} : PyData.eqv (.list ds) (.list []) = ds.isEmpty := by
  cases ds <;> simp [PyData.eqv, PyData.eqvAll]
section
variable {H : Hp} {Q : VK} {K : PySem.W.Frag} {p q : Addr}
theorem v_neNilI {ns : List Int} (h : H p = some (.lst (ns.map V.int))) (hq : H q = some (.lst [])) (k : Q (.bl (!ns.isEmpty)) H) : rNeD K (.ref p) (.ref q) H Q := by
  refine ⟨.list (ns.map PyData.int), .list [], .lst (SqL.of h) (dp_ints ns), .lst (SqL.of hq) .nil, shaped_ints ns, shaped_nil, ?_⟩
  rw [eqv_nil, List.isEmpty_map]
  exact k
end
theorem wdiv {i m : Int} (h : 0 < m) (h2 : m < 1000000) : CDivW i m := wide_div (b := 20) h (by omega) (by decide) (by decide)
end Cw
set_option Elab.async false
set_option linter.all false
set_option maxRecDepth 100000
set_option maxHeartbeats 4000000
/-! set(text), len(set(..)): a set of texts out of anything that is walked. -/
namespace Cw
open PySem PySem.Spec L2
/-- the different ones, in the order in which they are met -/
def metAdd (l : List Str) (z : Str) : List Str := if z ∈ l then l else l ++ [z]
def metOf (l : List Str) : List Str := l.foldl metAdd []
theorem metAdd_mem {l : List Str} {z y : Str} : y ∈ metAdd l z ↔ y ∈ l ∨ y = z := by
  unfold metAdd
  by_cases h : z ∈ l
  · rw [if_pos h]
    exact ⟨Or.inl, fun k => k.elim id fun e => e ▸ h⟩
  · rw [if_neg h, List.mem_append, List.mem_singleton]
theorem metOf_snoc (l : List Str) (z : Str) : metOf (l ++ [z]) = metAdd (metOf l) z := by
  unfold metOf
  rw [List.foldl_append]
  rfl
theorem metAdd_len (l : List Str) (z : Str) : (metAdd l z).length = if z ∈ l then l.length else l.length + 1 := by
  unfold metAdd
  split <;> simp
theorem metFold_len : ∀ (l acc : List Str), (l.foldl metAdd acc).length ≤ acc.length + l.length
  | [], acc => Nat.le_refl _
  | z :: r, acc => by
    have h1 := metFold_len r (metAdd acc z)
    have h2 := metAdd_len acc z
    rw [List.foldl_cons, List.length_cons]
    split at h2 <;> omega
theorem metOf_len (l : List Str) : (metOf l).length ≤ l.length := by
  have h := metFold_len l []
  simp only [List.length_nil, Nat.zero_add] at h
  exact h
theorem metFold_nodup : ∀ (l acc : List Str), (acc ++ l).Nodup → l.foldl metAdd acc = acc ++ l
  | [], acc, _ => by simp
  | z :: r, acc, h => by
    have hz : ¬ z ∈ acc := fun m => by
      have := (List.nodup_append.mp h).2.2 z m z (List.mem_cons_self ..)
      exact this rfl
    have e : metAdd acc z = acc ++ [z] := by unfold metAdd; rw [if_neg hz]
    rw [List.foldl_cons, e, metFold_nodup r (acc ++ [z]) (by simpa using h)]
    simp
theorem metOf_nodup {l : List Str} (h : l.Nodup) : metOf l = l := by
  unfold metOf
  rw [metFold_nodup l [] (by simpa using h)]
  rfl
/-- fewer, where one comes twice -/
theorem metFold_lt : ∀ (l acc : List Str), acc.Nodup → (¬ l.Nodup ∨ ∃ z, z ∈ l ∧ z ∈ acc) → (l.foldl metAdd acc).length < acc.length + l.length
  | [], acc, _, h => by
    rcases h with h | ⟨z, h, _⟩
    · exact absurd List.nodup_nil h
    · cases h
  | z :: r, acc, ha, h => by
    rw [List.foldl_cons, List.length_cons]
    have hl := metAdd_len acc z
    by_cases hz : z ∈ acc
    · rw [if_pos hz] at hl
      have h1 := metFold_len r (metAdd acc z)
      omega
    · rw [if_neg hz] at hl
      have e : metAdd acc z = acc ++ [z] := by unfold metAdd; rw [if_neg hz]
      have nd : (metAdd acc z).Nodup := by
        rw [e]
        exact nd_snoc ha hz
      have k : ¬ r.Nodup ∨ ∃ y, y ∈ r ∧ y ∈ metAdd acc z := by
        rcases h with h | ⟨y, h1, h2⟩
        · rw [List.nodup_cons] at h
          by_cases hr : z ∈ r
          · exact Or.inr ⟨z, hr, by rw [e]; simp⟩
          · exact Or.inl fun n => h ⟨hr, n⟩
        · rcases List.mem_cons.mp h1 with q | q
          · exact absurd (q ▸ h2) hz
          · exact Or.inr ⟨y, q, by rw [e]; simp [h2]⟩
      have h1 := metFold_lt r (metAdd acc z) nd k
      omega
theorem metOf_lt {l : List Str} (h : ¬ l.Nodup) : (metOf l).length < l.length := by
  have k := metFold_lt l [] List.nodup_nil (Or.inl h)
  simp only [List.length_nil, Nat.zero_add] at k
  exact k
/-- the set at a holds just the texts of l -/
abbrev SetIs (P : Program) (w : World) (h : Heap) (a : Addr) (l : List Str) : Prop := h.SetOf (PySem.strKind P w) a (fun z => decide (z ∈ l)) l.length
theorem SetIs.at {P : Program} {w : World} {h h' : Heap} {a : Addr} {l : List Str} (R : SetIs P w h a l) (k : ∀ o, h.get? a = some o → h'.get? a = some o) : SetIs P w h' a l := by
  obtain ⟨o, es, ep, t, ho, r⟩ := R
  exact ⟨o, es, ep, t, k o ho, r⟩
section
variable {P : Program} {w : World} {A : Around} {R : Result → Shared → Prop} {J : Addr} {fp wr : List Addr} {n : Nat} {Y : Nat → Value → Prop} {St : Nat → Heap → Prop}
theorem set_loop (W : Walks P w A.in1 J fp wr n Y St) (S : Addr) (hS : S ∉ fp) (xs : List Str) (hn : xs.length = n) (hy : ∀ i v, Y i v → ∃ x t, xs[i]? = some x ∧ v = .str x t) (hb : n + 1 < scanBound) :
    ∀ (k i : Nat) (s : Shared), n - i = k → i ≤ n → St i s.heap → SetIs P w s.heap S (metOf (xs.take i)) →
      (∀ h' tk, (∀ b o, b ∉ S :: wr → s.heap.get? b = some o → h'.get? b = some o) → SetIs P w h' S (metOf xs) → R (.ok (.ret .none)) { s with heap := h', toks := tk }) →
      codeAny (model P w) A (.builtin "set.update.loop" ⟨[.ref S, .ref J], []⟩) R s := by
  have hw : S ∉ wr := fun h => hS (W.sub _ h)
  intro k
  induction k with
  | zero =>
    intro i s hk hi st hset q
    have e : i = n := by omega
    subst e
    refine codeAny_builtin PyProof.Rows.F.entry_set_update_loop ?_
    rw [Around.under_plainId PyProof.Rows.F.plain_set_update_loop _]
    show wpAny _ A.in1 (pyNext (.ref J) >>= _) _ _ s
    refine wpAny_bind (W.done s _ _ st fun h' tk kp => ?_)
    show wpAny _ A.in1 (ret Value.none) _ _ _
    refine wpAny_pure (q h' tk (fun b o nb eb => kp b o (fun z => nb (List.mem_cons_of_mem _ z)) eb) ?_)
    rw [List.take_of_length_le (by omega)] at hset
    exact hset.at fun o eo => kp S o hw eo
  | succ k ih =>
    intro i s hk hi st hset q
    have hlt : i < n := by omega
    refine codeAny_builtin PyProof.Rows.F.entry_set_update_loop ?_
    rw [Around.under_plainId PyProof.Rows.F.plain_set_update_loop _]
    show wpAny _ A.in1 (pyNext (.ref J) >>= _) _ _ s
    refine wpAny_bind (W.item i s _ _ hlt st fun v h1 tk hv st1 kp => ?_)
    obtain ⟨x, t, hx, rfl⟩ := hy i v hv
    have hset1 := hset.at (h' := h1) fun o eo => kp S o hw eo
    show wpAny _ A.in1 (holding [Value.str x t] (setAdd S (.str x t)) >>= _) _ _ _
    refine wpAny_bind (wpAny_holding ?_)
    unfold setAdd
    refine wpAny_holding (wpAny_bind ((PySem.strKind P w).pyHash (k := x) (strKind_is _ _ _ _) ?_))
    have hroom : (metOf (xs.take i)).length + 1 < scanBound := by
      have h2 := metOf_len (xs.take i)
      rw [List.length_take] at h2
      omega
    refine wpAny_setAddHashed_of (knd := PySem.strKind P w) (s := { heap := h1, gens := s.gens, drawn := s.drawn, toks := tk + 1, os := s.os }) (strKind_is _ _ _ _) rfl hset1 hroom fun h2 sb hset2 => ?_
    have e1 : xs.take (i + 1) = xs.take i ++ [x] := by
      rw [List.take_add_one, hx]
      rfl
    have hset3 : SetIs P w h2 S (metOf (xs.take (i + 1))) := by
      refine PyProof.Rows.SetOf_congr hset2 (fun z => ?_) ?_
      · rw [e1, metOf_snoc, Bool.eq_iff_iff]
        simp only [Bool.or_eq_true, decide_eq_true_eq]
        exact metAdd_mem.symm
      · rw [e1, metOf_snoc, metAdd_len]
        simp only [decide_eq_true_eq]
    refine wpAny_pure ⟨plainId_quiet PyProof.Rows.F.plain_set_update_loop _, ih (i + 1) _ (by omega) hlt (W.frame _ _ _ st1 fun b hb o eo => ?_) hset3 fun h3 tk3 kp3 hs3 => ?_⟩
    · rw [sb.2 b fun z => hS (z ▸ hb)]
      exact eo
    · refine q h3 tk3 (fun b o nb eb => kp3 b o nb ?_) hs3
      show h2.get? b = some o
      rw [sb.2 b fun z => nb (z ▸ List.mem_cons_self ..)]
      exact kp b o (fun z => nb (List.mem_cons_of_mem _ z)) eb
end

/-! ### the call -/
abbrev freshSet (b : Bool) : Obj := { cls := .type "set", dict := none, data := .set #[] 0 (.fresh 0 0 b) }
section
variable {P : Program} {w : World} {A : Around} {E : Value → Shared → Prop} {s : Shared}
theorem set_of_text {x : Str} {t : Tok} {Q : Value → Shared → Prop} (hh : A.handled = none) (hb : x.cps.size + 1 < scanBound)
    (h : ∀ (h' : Heap) (tk : Nat), SetIs P w h' s.heap.objs.size (metOf (x.cps.toList.map fun c => (⟨#[c]⟩ : Str))) → (∀ b o, b < s.heap.objs.size → s.heap.get? b = some o → h'.get? b = some o) → Q (.ref s.heap.objs.size) { s with heap := h', toks := tk }) :
    wpAny (model P w) A (call (.type "set") [.str x t]) Q E s := by
  obtain ⟨c, tl, hmro⟩ := PySem.F.called_set.mro
  have hmade := PySem.F.called_set.made
  have hsub := PySem.F.called_set.sub
  refine wpAny_call (codeAny_of_tree ?_)
  show wpAny _ _ (callAny (.type "set") _) _ _ _
  refine wpAny_pure ⟨Code.quiet_builtin _ (by decide +kernel), codeAny_builtin PySem.F.entry_type_call ?_⟩
  rw [Around.under_plain (weight_type_call_type "set" [.str x t] []) rfl]
  have h1 := PySem.F.called_set.notType
  have h2 := PySem.F.called_set.canCreate
  have hct := PySem.F.typeCall_set_1 (.str x t)
  repeat (any_goals (first | assumption | wp_step))
  refine codeAny_mono (code_set_new_1 (.str x t) (E := E) (Q₁ := fun obj s1 => ∃ b : Bool, obj = .ref s.heap.objs.size ∧ s1 = { s with heap := s.heap.push (freshSet b) }) fun b => ⟨b, rfl, rfl⟩) fun r s1 hr => ?_
  cases r with
  | error e => exact hr
  | ok fl =>
    cases fl with
    | ret obj =>
      obtain ⟨b, rfl, rfl⟩ := hr
      have hS : (s.heap.push (freshSet b)).get? s.heap.objs.size = some (freshSet b) := Heap.get?_push_size _ rfl
      have hT : Shared.TypeIs { s with heap := s.heap.push (freshSet b) } (.ref s.heap.objs.size) "set" := ⟨_, hS, rfl⟩
      have hli := PySem.F.called_set.init.lookup
      have hbi := PySem.F.called_set.init.bind (.ref s.heap.objs.size)
      repeat (any_goals (first | assumption | wp_step))
      refine codeAny_mono (codeAny_call_builtin (R := wants (fun r s2 => r = .none ∧ ∃ h' tk, s2 = { s with heap := h', toks := tk } ∧ SetIs P w h' s.heap.objs.size (metOf (x.cps.toList.map fun c => (⟨#[c]⟩ : Str))) ∧
          (∀ b o, b < s.heap.objs.size → s.heap.get? b = some o → h'.get? b = some o)) E) PySem.F.called_set.init.plain PySem.F.entry_set_init (check_set_init_1 hT ?_)) fun r2 s2 hr2 => ?_
      · have k1 := F.sub_str_set
        have k2 := F.sub_str_frozenset
        have k3 : (Value.type "str" == Value.type "dict") = false := by decide
        unfold Builtin.«set.__init__» noKeywords Builtin.Frozenset.updateFrom
        generalize hPI : pyIter = PI
        wp_walk
        subst hPI
        refine wpAny_pyIter_str fun ob St hw st => ?_
        refine wpAny_bind (wpAny_runValue ?_)
        have hh3 : A.in1.in1.in1.handled = none := by simp [hh]
        have hne : s.heap.objs.size ∉ [(s.heap.push (freshSet b)).objs.size] := by
          rw [Heap.size_push, List.mem_singleton]
          exact Nat.ne_of_lt (Nat.lt_succ_self _)
        refine set_loop (hw _ hh3) s.heap.objs.size hne (x.cps.toList.map fun c => (⟨#[c]⟩ : Str)) (by simp) (fun i v hv => ?_) hb _ 0 _ rfl (Nat.zero_le _) st ?_ fun h' tk kp hs => ?_
        · obtain ⟨c, u, hc, rfl⟩ := hv
          exact ⟨⟨#[c]⟩, u, by simp [hc], rfl⟩
        · have hg : ((s.heap.push (freshSet b)).push ob).get? s.heap.objs.size = some (freshSet b) := Heap.get?_push_of_some _ hS
          exact PyProof.Rows.SetOf_congr ((PyProof.Rows.setObjOf_fresh (knd := PySem.strKind P w) b).setOf hg (by unfold scanBound; omega)) (fun z => by simp [metOf]) rfl
        · refine wpAny_pure ?_
          show wpAny _ _ (ret Value.none) _ _ _
          refine wpAny_pure ⟨rfl, h', tk, rfl, hs, fun a o ha eo => kp a o ?_ (Heap.get?_push_of_some _ (Heap.get?_push_of_some _ eo))⟩
          rw [Heap.size_push]
          simp only [List.mem_cons, List.not_mem_nil, or_false, not_or]
          exact ⟨Nat.ne_of_lt ha, Nat.ne_of_lt (Nat.lt_succ_of_lt ha)⟩
      · cases r2 with
        | error e => exact hr2
        | ok fl2 =>
          cases fl2 with
          | ret r =>
            obtain ⟨rfl, h', tk, rfl, hs', hk'⟩ := hr2
            repeat (any_goals (first | assumption | wp_step))
            exact h _ _ hs' hk'
          | _ => exact hr2.elim
    | _ => exact hr.elim
end
/-! ### over the layer -/
/-- a set of texts -/
def SetT (P : Program) (w : World) (a : Addr) (l : List Str) : HO := .ext fun h => SetIs P w h a l
theorem setT_new {P : Program} {w : World} {H : Hp} {h : Heap} {a : Addr} {l : List Str} (R : SetIs P w h a l) : ObjOk P w H h a (SetT P w a l) := by
  have ⟨o, _, _, _, ho, _⟩ := R
  exact ⟨R, ⟨o, ho⟩, fun h1 h2 q k => SetIs.at q k⟩
def rSetTx (P : Program) (w : World) : List V → Hp → VK → Prop := fun xs H Q => ∃ l : List Nat, xs = [.str (tx l)] ∧ l.length + 1 < scanBound ∧ ∀ p, H p = none → Q (.ref p) (upd H p (SetT P w p (metOf (l.map fun c => tx [c]))))
def rLenSet (P : Program) (w : World) : List V → Hp → VK → Prop := fun xs H Q => ∃ (p : Addr) (l : List Str), xs = [.ref p] ∧ H p = some (SetT P w p l) ∧ Q (.int l.length) H
section
variable {X : Cx}
theorem c_setS (hc : X.calm = true) : CallR X (.type "set") (rSetTx X.prog X.w) := by
  intro pins s σ H xs us Q I r h
  obtain ⟨l, rfl, hl, q⟩ := h
  obtain ⟨u, rfl, t, rfl⟩ := vals1 r
  refine set_of_text (I.ok.hd hc) (by simpa using hl) fun h' tk hs hk => ?_
  have hp : H s.heap.objs.size = none := I.hok.fresh (Nat.le_refl _)
  refine ⟨.ref s.heap.objs.size, upd H s.heap.objs.size (SetT X.prog X.w s.heap.objs.size (metOf (l.map fun c => tx [c]))), I.laid (h' := h') (t' := tk) (fun b o e => hk b o (Heap.lt_size e) e) (Nat.le_refl _) (setT_new ?_), rfl, q _ hp⟩
  simpa using hs
theorem c_lenSet : CallR X (.builtin "len") (rLenSet X.prog X.w) := by
  intro pins s σ H xs us Q I r h
  obtain ⟨p, l, rfl, hp, q⟩ := h
  obtain ⟨u, rfl, ru⟩ := vals1 r
  cases ru
  have hs : SetIs X.prog X.w s.heap p l := (I.hok p _ hp).1
  obtain ⟨o, es, ep, t, ho, hex, hd, h1, h2, h3, hf, hn⟩ := hs
  refine call_len_set ho hex hd hf ?_ ⟨.int l.length, H, I.tok _, ⟨_, by rw [hn]⟩, q⟩
  have : es.size < scanBound := h3
  unfold scanBound at this
  omega
end
theorem v_setS {P : Program} {w : World} {H : Hp} {Q : VK} {l : List Nat} (h : l.length < 1000) (q : ∀ p H', H p = none → Same H H' → H' p = some (SetT P w p (metOf (l.map fun c => tx [c]))) → Q (.ref p) H') : rSetTx P w [.str (tx l)] H Q :=
  ⟨l, rfl, by unfold scanBound; omega, fun p hp => q p _ hp (Same.new hp) upd_same⟩
theorem v_lenSet {P : Program} {w : World} {H : Hp} {Q : VK} {p : Addr} {l : List Str} (h : H p = some (SetT P w p l)) (q : Q (.int l.length) H) : rLenSet P w [.ref p] H Q := ⟨p, l, rfl, h, q⟩
end Cw
set_option Elab.async false
set_option linter.all false
set_option maxRecDepth 100000
set_option maxHeartbeats 4000000
/-! operators of classes of one's own -/
namespace PySem.W
open PySem PySem.Calls PyProof.Rows Builtin
section
variable {prog : Program} {w : World} {A : Around} {E : Value → Shared → Prop} {s : Shared} {K : Frag} {x C L f : Addr} {h0 : Heap} {m : Str → Option Value} {ox : Obj} {od : Option Obj} {b tb : Value}
end
end PySem.W
set_option Elab.async false
set_option linter.all false
set_option maxRecDepth 100000
set_option maxHeartbeats 4000000
namespace Cw
open PySem PySem.Spec L2
/-! ### methods -/
structure MAt (K : PySem.W.Frag) (C : Addr) (m qual : Str) (st : Stmt) : Prop where
  ex : ∃ f fd, PySem.W.findIn K (.ref C) m = some (some (.ref f)) ∧ PySem.W.isFn K (.ref f) = true ∧ Fun K m qual st f fd
structure MDef (P : Program) (w : World) (K : PySem.W.Frag) (mg : Str → Option Value) (base : Heap) (CX : CXT) (k : Nat) (C : Addr) (m : Str) (ps : List Str) (sp : Sp) : Prop where
  ex : ∃ f fd, PySem.W.findIn K (.ref C) m = some (some (.ref f)) ∧ PySem.W.isFn K (.ref f) = true ∧ PySem.W.keepIn K (.ref f) = true ∧ Bd K f fd ps ∧ FnOk P w K mg base CX k f fd ps sp
section
variable {P : Program} {w : World} {K : PySem.W.Frag} {mg : Str → Option Value} {base : Heap} {CX : CXT} {k : Nat} {C : Addr} {m qual : Str} {ps N : List Str} {sp : Sp} {st : Stmt}
theorem MDef.mono {j : Nat} (D : MDef P w K mg base CX j C m ps sp) (h : j ≤ k) : MDef P w K mg base CX k C m ps sp := by
  obtain ⟨f, fd, a, b, c, d, e⟩ := D.ex
  exact ⟨f, fd, a, b, c, d, e.mono h⟩
theorem MDef.imp {sp' : Sp} (D : MDef P w K mg base CX k C m ps sp) (h : ∀ vs H Q E, sp' vs H Q E → sp vs H Q E) : MDef P w K mg base CX k C m ps sp' := by
  obtain ⟨f, fd, a, b, c, d, e⟩ := D.ex
  exact ⟨f, fd, a, b, c, d, e.imp h⟩
theorem MAt.ok (F : MAt K C m qual st) (S : FnScope N ps (defScope st))
    (hb : ∀ (kV doc pm : Value) (an : Option Addr) (cdv ct : Value) (us : List Value), us.length = ps.length → bindArgs (PySem.W.fnOf m qual (defArgs st) (defBody st) (defScope st) .none kV doc pm an cdv ct) ⟨us, []⟩ = pure (ps.zip us))
    (len : ∀ vs H Q E, sp vs H Q E → vs.length = ps.length)
    (hbody : ∀ (f : Addr) (cdv : Value) (A : Around) (outer : List Env) (s : Shared) (H : Hp) (vs : List V) (Q : VK) (E : XK), Room k (A.deeper (PyProof.Rows.envOfC qual (defScope st) s.heap.objs.size f cdv)) → sp vs H Q E →
      ∃ t, PSs (cxOf CX0 P w K mg base N qual (defScope st) f cdv A outer s H E).nox (defBody st) t ∧ t { nx := fun _ H' => Q .non H', rt := Q } (start N vs) H) : MDef P w K mg base CX0 (k + 1) C m ps sp := by
  obtain ⟨f, fd, h1, h2, F⟩ := F.ex
  exact ⟨f, fd, h1, h2, F.kp, ⟨F.binds hb, funLk F⟩, F.ok S len fun cdv A outer s H vs Q E hr h => hbody f cdv A outer s H vs Q E hr h⟩
theorem MAt.okX (F : MAt K C m qual st) (S : FnScope N ps (defScope st))
    (hb : ∀ (kV doc pm : Value) (an : Option Addr) (cdv ct : Value) (us : List Value), us.length = ps.length → bindArgs (PySem.W.fnOf m qual (defArgs st) (defBody st) (defScope st) .none kV doc pm an cdv ct) ⟨us, []⟩ = pure (ps.zip us))
    (len : ∀ vs H Q E, sp vs H Q E → vs.length = ps.length)
    (hbody : ∀ (f : Addr) (cdv : Value) (A : Around) (outer : List Env) (s : Shared) (H : Hp) (vs : List V) (Q : VK) (E : XK), Room k (A.deeper (PyProof.Rows.envOfC qual (defScope st) s.heap.objs.size f cdv)) → sp vs H Q E →
      ∃ t, PSs (cxOf (L2.CX P w) P w K mg base N qual (defScope st) f cdv A outer s H E) (defBody st) t ∧ t { nx := fun _ H' => Q .non H', rt := Q } (start N vs) H) : MDef P w K mg base (L2.CX P w) (k + 1) C m ps sp := by
  obtain ⟨f, fd, h1, h2, F⟩ := F.ex
  exact ⟨f, fd, h1, h2, F.kp, ⟨F.binds hb, funLk F⟩, F.okX S len fun cdv A outer s H vs Q E hr h => hbody f cdv A outer s H vs Q E hr h⟩
end
section
variable {X : Cx} {CX : CXT} {k : Nat} {C : Addr} {m : Str} {ps : List Str} {sp : Sp} {E : XK} {pos apos : PySem.Pos} {o e : Expr} {es : List Expr} {ta : TE} {t : TA}
theorem pe_md {pl : Sem Bool} (D : MDef X.prog X.w X.K X.mg X.base CX k C m ps sp) (c : Cls X.K C) (hr : Room k X.A) (hx : Passes CX X E) (he : PE X o ta) (ha : PA X (e :: es) t)
    (hst : starEach (e :: es) X.env = (false, eval e X.env) :: starEach es X.env := by rfl) (hpl : (backTo pos (starEach es X.env)).any (·.1) = false := by rfl)
    (ht : eval (.Call (.Attribute o m apos) (e :: es) [] pos) X.env = (do
      let ov ← eval o X.env
      standAt apos.atName
      let (f, first) ← holding [ov] (getMethod ov m pl)
      callWith pos f first (backTo pos (starEach (e :: es) X.env)) (backToKw pos (keywordEach [] X.env))) := by rfl) :
    PE X (.Call (.Attribute o m apos) (e :: es) [] pos) (tMeth C m sp [] E ta t) := by
  obtain ⟨f, fd, a, b, kp, ⟨d, _⟩, g⟩ := D.ex
  exact pe_meth (pl := pl) he c ⟨a, b, kp⟩ g hr d .nil hx ha hst hpl ht
/-- two instances of the class at C, by its own operator -/
def rM2 (C : Addr) (sp : Sp) (E : XK) : R2 := fun x y H Q => ∃ a b dx dy fs gs, x = .ref a ∧ y = .ref b ∧ H a = some (.ins C dx fs) ∧ H b = some (.ins C dy gs) ∧ sp [.ref a, .ref b] H Q E
def rM2n (C : Addr) (sp : Sp) (E : XK) : R2 := fun x y H Q => ∃ a b dx dy fs gs, x = .ref a ∧ y = .ref b ∧ H a = some (.ins C dx fs) ∧ H b = some (.ins C dy gs) ∧ sp [.ref a, .ref b] H (fun v H' => ∃ r, v = .bl r ∧ Q (.bl (!r)) H') E
/-- len(o) -/
def rLenM (C : Addr) (sp : Sp) (E : XK) : List V → Hp → VK → Prop := fun xs H Q => ∃ a dx fs, xs = [.ref a] ∧ H a = some (.ins C dx fs) ∧ sp [.ref a] H (fun v H' => ∃ n : Nat, v = .int n ∧ n < 1000000 ∧ Q (.int n) H') E
end
section
variable {C : Addr} {sp : Sp} {E : XK} {H : Hp} {Q : VK} {a b dx dy : Addr} {fs gs : List (Str × V)}
theorem v_M2 (ha : H a = some (.ins C dx fs)) (hb : H b = some (.ins C dy gs)) (q : sp [.ref a, .ref b] H Q E) : rM2 C sp E (.ref a) (.ref b) H Q := ⟨a, b, dx, dy, fs, gs, rfl, rfl, ha, hb, q⟩
theorem v_M2n (ha : H a = some (.ins C dx fs)) (hb : H b = some (.ins C dy gs)) (q : sp [.ref a, .ref b] H (fun v H' => ∃ r, v = .bl r ∧ Q (.bl (!r)) H') E) : rM2n C sp E (.ref a) (.ref b) H Q := ⟨a, b, dx, dy, fs, gs, rfl, rfl, ha, hb, q⟩
theorem v_lenM (ha : H a = some (.ins C dx fs)) (q : sp [.ref a] H (fun v H' => ∃ n : Nat, v = .int n ∧ n < 1000000 ∧ Q (.int n) H') E) : rLenM C sp E [.ref a] H Q := ⟨a, dx, fs, rfl, ha, q⟩
end
end Cw
set_option Elab.async false
set_option linter.all false
set_option maxRecDepth 100000
set_option maxHeartbeats 4000000
namespace Cw
open PySem PySem.Spec L2
/-! ### texts as lists of codes: operators -/
def rTAdd : R2 := fun x y H Q => ∃ a b : List Nat, x = .str (tx a) ∧ y = .str (tx b) ∧ a.length + b.length ≤ 1000000 ∧ Q (.str (tx (a ++ b))) H
def rTMul : R2 := fun x y H Q => ∃ (a : List Nat) (n : Int), x = .str (tx a) ∧ y = .int n ∧ n < 1000000 ∧ -1000000 < n ∧ a.length * n.toNat ≤ 1000000 ∧ Q (.str (tx (List.replicate n.toNat a).flatten)) H
def rTLt : R2 := fun x y H Q => ∃ a b : List Nat, x = .str (tx a) ∧ y = .str (tx b) ∧ Q (.bl (decide (a < b))) H
theorem rep_cps (x : Array Nat) : ∀ (n : Nat) (acc : Array Nat), (List.replicate n x).foldl (· ++ ·) acc = acc ++ (List.replicate n x.toList).flatten.toArray
  | 0, acc => by simp
  | n + 1, acc => by
    rw [List.replicate_succ, List.foldl_cons, rep_cps x n, List.replicate_succ, List.flatten_cons]
    apply Array.ext'
    simp
section
variable {X : Cx}
theorem op_addS : OpR X (binaryOp .Add) rTAdd := by
  intro pins s σ H x y v u Q I rx ry h
  obtain ⟨a, b, rfl, rfl, hl, q⟩ := h
  refine op_add_str pins s σ H _ _ v u Q I rx ry ⟨tx a, tx b, rfl, rfl, ?_, ?_⟩
  · rw [tx_len, tx_len]; exact szl hl
  · rw [tx_app]; exact q
theorem op_mulS : OpR X (binaryOp .Mult) rTMul := by
  intro pins s σ H x y v u Q I rx ry h
  obtain ⟨a, n, rfl, rfl, h1, h2, h3, q⟩ := h
  obtain ⟨t, rfl⟩ := rx
  obtain ⟨t', rfl⟩ := ry
  have hx : (tx a).length = a.length := tx_len a
  have fin : ∀ (z : Str) (s' : Shared) (tk : Tok), z = tx (List.replicate n.toNat a).flatten → Inv X pins σ H s' → EP X pins σ Q (.str z tk) s' := fun z s' tk e I' => ⟨.str z, H, I', ⟨tk, rfl⟩, by rw [e]; exact q⟩
  have len : (List.replicate n.toNat a).flatten.length = a.length * n.toNat := by simp [Nat.mul_comm]
  refine PySem.P.mul_str ?_ ?_ ?_ ?_
  · have e1 : ¬ n < -(2 ^ 63 : Int) := by omega
    have e2 : ¬ n ≥ 2 ^ 63 := by omega
    rw [decide_eq_false e1, decide_eq_false e2]; rfl
  · intro hn _
    rw [hx]
    have e0 : (a.length : Int) ≤ a.length * n.toNat := by
      have : 1 ≤ n.toNat := by omega
      have := Nat.le_mul_of_pos_right a.length (show 0 < n.toNat by omega)
      omega
    have e1 : (a.length : Int) ≤ 1000000 := by
      have : ((a.length * n.toNat : Nat) : Int) ≤ 1000000 := by omega
      omega
    have e2 : (1000000 : Int) ≤ (2 ^ 63 - 1) / n := by
      rw [Int.le_ediv_iff_mul_le (by omega)]
      omega
    omega
  · intro hn _
    rw [hx]
    unfold Builtin.Str.tooLong
    have : a.length * n.toNat ≤ sizeLine := szl h3
    exact decide_eq_false (by omega)
  · by_cases hn : n < 1
    · rw [if_pos hn]
      have e : n.toNat = 0 := by omega
      refine ⟨by decide, fin _ _ _ ?_ (I.tok _)⟩
      rw [e]; rfl
    · rw [if_neg hn]
      by_cases c : (n == 1 || (tx a).length == 0) = true
      · rw [if_pos c]
        refine fin _ _ _ ?_ I
        rcases Bool.or_eq_true_iff.mp c with c | c
        · have e : n = 1 := eq_of_beq c
          rw [e]
          show tx a = tx (List.replicate 1 a).flatten
          simp
        · have e : a = [] := by
            rw [hx] at c
            exact List.length_eq_zero_iff.mp (eq_of_beq c)
          rw [e]
          simp
      · rw [if_neg c]
        have e : (⟨(List.replicate n.toNat (tx a).cps).foldl (· ++ ·) #[]⟩ : Str) = tx (List.replicate n.toNat a).flatten := by
          rw [rep_cps]
          simp [tx]
        refine ⟨?_, fin _ _ _ e (I.tok _)⟩
        rw [e, tx_len, len]
        exact szl h3
/-- text[::-1] -/
def tRevS (te : TE) : TE := fun σ H Q => te σ H fun x H1 => ∃ l : List Nat, x = .str (tx l) ∧ l.length ≤ 1000000 ∧ Q (.str (tx l.reverse)) H1
end
section
variable {σ : St} {H : Hp} {Q : VK}
theorem v_addS {a b : List Nat} (h : a.length + b.length ≤ 1000000) (q : Q (.str (tx (a ++ b))) H) : rTAdd (.str (tx a)) (.str (tx b)) H Q := ⟨a, b, rfl, rfl, h, q⟩
theorem v_mulS {a : List Nat} {n : Int} (h1 : n < 1000000) (h2 : -1000000 < n) (h : a.length * n.toNat ≤ 1000000) (q : Q (.str (tx (List.replicate n.toNat a).flatten)) H) : rTMul (.str (tx a)) (.int n) H Q := ⟨a, n, rfl, rfl, h1, h2, h, q⟩
theorem v_ltS {a b : List Nat} (q : Q (.bl (decide (a < b))) H) : rTLt (.str (tx a)) (.str (tx b)) H Q := ⟨a, b, rfl, rfl, q⟩
theorem e_revS {te : TE} (q : te σ H fun x H1 => ∃ l : List Nat, x = .str (tx l) ∧ l.length ≤ 1000000 ∧ Q (.str (tx l.reverse)) H1) : tRevS te σ H Q := q
theorem v_revS {l : List Nat} {P : List Nat → Prop} (h : l.length ≤ 1000000) (q : P l) : ∃ l' : List Nat, V.str (tx l) = .str (tx l') ∧ l'.length ≤ 1000000 ∧ P l' := ⟨l, rfl, h, q⟩
end
end Cw
set_option Elab.async false
set_option linter.all false
set_option maxRecDepth 100000
set_option maxHeartbeats 4000000
namespace Cw
open PySem PySem.Spec L2
/-! ### constants and globals -/
section
variable {X : Cx} {x : Str} {pos : PySem.Pos} {j : Nat}
theorem pe_tx {kd : _} (l : List Nat) (h : x = tx l) : PE X (.Constant (.str x) kd pos) (tC (.str (tx l))) := by
  rw [h]
  exact pe_str
theorem pe_globS {z : Str} (h : ∃ t, X.mg x = some (.str z t)) (hg : Gl X x := by rfl) (hd : (x == ("__debug__" : Str)) = false := by decide) : PE X (.Name x pos) (tC (.str z)) := by
  obtain ⟨t, h⟩ := h
  exact pe_glob hg h ⟨t, rfl⟩ hd
theorem pe_globI {z : Int} (h : ∃ t, X.mg x = some (.int z t)) (hg : Gl X x := by rfl) (hd : (x == ("__debug__" : Str)) = false := by decide) : PE X (.Name x pos) (tC (.int z)) := by
  obtain ⟨t, h⟩ := h
  exact pe_glob hg h ⟨t, rfl⟩ hd
/-- a class of one's own as a value -/
theorem pe_globC {C : Addr} (h : X.mg x = some (.ref C)) (hg : Gl X x := by rfl) (hd : (x == ("__debug__" : Str)) = false := by decide) : PE X (.Name x pos) (tC (.ref C)) := pe_glob hg h rfl hd
end
/-! ### slices of texts -/
theorem sl_S {X : Cx} : SlR X rSlS := sl_str
section
variable {σ : St} {H : Hp} {Q : VK} {te : TE} {tl th : TO} {K : PySem.W.Frag}
theorem e_sl {r : V → Option Int → Option Int → Hp → VK → Prop} (q : te σ H fun x H1 => tl σ H1 fun l H2 => th σ H2 fun u H3 => r x l u H3 Q) : tSl r te tl th σ H Q := q
theorem e_nopart {Q : Option Int → Hp → Prop} (q : Q none H) : tNoPart σ H Q := q
theorem e_part {Q : Option Int → Hp → Prop} (q : te σ H fun x H1 => ∃ i, x = .int i ∧ Q (some i) H1) : tPart te σ H Q := q
theorem cut_to (l : List Nat) {n : Int} (h : 0 ≤ n) : cutS (tx l) none (some n) = tx (l.take n.toNat) := by
  unfold cutS
  rw [tx_len]
  show (⟨((l.toArray.toList.drop 0).take ((if n < 0 then _ else min n.toNat l.length) - 0)).toArray⟩ : Str) = _
  rw [if_neg (by omega)]
  simp only [List.drop_zero, Nat.sub_zero]
  rw [← List.take_take]
  simp
theorem cut_from (l : List Nat) {n : Int} (h : 0 ≤ n) : cutS (tx l) (some n) none = tx (l.drop n.toNat) := by
  unfold cutS
  rw [tx_len]
  show (⟨((l.toArray.toList.drop (if n < 0 then _ else min n.toNat l.length)).take (l.length - (if n < 0 then _ else min n.toNat l.length))).toArray⟩ : Str) = _
  rw [if_neg (by omega)]
  have e : (l.drop (min n.toNat l.length)) = l.drop n.toNat := by
    by_cases hl : n.toNat ≤ l.length
    · rw [Nat.min_eq_left hl]
    · rw [Nat.min_eq_right (by omega), List.drop_of_length_le (by omega), List.drop_of_length_le (by omega)]
  simp only
  rw [e, List.take_of_length_le (by rw [List.length_drop]; omega)]
theorem v_slTo {l : List Nat} {n : Int} (hl : l.length ≤ 1000000) (h : 0 ≤ n) (q : Q (.str (tx (l.take n.toNat))) H) : rSlS (.str (tx l)) none (some n) H Q := ⟨tx l, rfl, by rw [tx_len]; exact szl hl, by rw [cut_to l h]; exact q⟩
theorem v_slFrom {l : List Nat} {n : Int} (hl : l.length ≤ 1000000) (h : 0 ≤ n) (q : Q (.str (tx (l.drop n.toNat))) H) : rSlS (.str (tx l)) (some n) none H Q := ⟨tx l, rfl, by rw [tx_len]; exact szl hl, by rw [cut_from l h]; exact q⟩
end
/-! ### join -/
def rJoinT (K : PySem.W.Frag) : V → List V → Hp → VK → Prop := fun x xs H Q => ∃ (p : Addr) (ls : List (List Nat)), x = .str (tx []) ∧ xs = [.ref p] ∧ (SqL K H p (ls.map fun l => V.str (tx l)) ∨ SqT K H p (ls.map fun l => V.str (tx l))) ∧ ls.flatten.length ≤ 1000000 ∧ Q (.str (tx ls.flatten)) H
theorem join_empty (ls : List (List Nat)) : Txt.join (tx []) (ls.map tx) = tx ls.flatten := by
  have e : ∀ ls : List (List Nat), TL.joinL [] ls = ls.flatten := by
    intro ls
    induction ls with
    | nil => rfl
    | cons p r ih =>
      cases r with
      | nil => simp [TL.joinL]
      | cons q r =>
        show p ++ ([] ++ TL.joinL [] (q :: r)) = _
        rw [ih]
        simp
  have h := TL.tl_join (tx []) (ls.map tx)
  have h2 : (Str.join (tx []) (ls.map tx)).cps.toList = ls.flatten := by
    refine Eq.trans h ?_
    show TL.joinL [] ((ls.map tx).map TL.tl) = _
    rw [List.map_map, e]
    congr 1
    have : (TL.tl ∘ tx) = id := by
      funext l
      show (tx l).cps.toList = l
      simp
    rw [this, List.map_id]
  have g : Txt.join (tx []) (ls.map tx) = Str.join (tx []) (ls.map tx) := by
    show Builtin.Str.glued _ _ = _
    rw [StrLaws.glued_eq_join]
  rw [g, tx_eq (z := Str.join (tx []) (ls.map tx)), h2]
section
variable {X : Cx} {o e : Expr} {to te : TE}
theorem mt_joinT : MtR X "str.join" (rJoinT X.K) := by
  intro pins s σ H x xs v us Q I rx rs h
  obtain ⟨p, ls, rfl, rfl, hp, hl, q⟩ := h
  refine mt_join pins s σ H _ _ v us Q I rx rs ⟨tx [], p, ls.map tx, rfl, rfl, ?_, ?_, ?_⟩
  · simpa [List.map_map, Function.comp_def] using hp
  · have e : ((ls.map tx).map (·.length)).sum = ls.flatten.length := by
      rw [List.map_map, List.length_flatten]
      exact congrArg List.sum (List.map_congr_left fun l _ => tx_len l)
    rw [e]
    have e0 : (tx []).length = 0 := rfl
    rw [e0]
    omega
  · rw [join_empty]
    exact q
theorem pe_joinT {apos pos : PySem.Pos} (ho : PE X o to) (he : PE X e te) (hs : starEach [e] X.env = [(false, eval e X.env)] := by rfl) (hbase : attributeBase o "join" X.env (eval o X.env) = eval o X.env := by rfl) (hline : (apos.endLine == pos.line) = true := by rfl) :
    PE X (.Call (.Attribute o "join" apos) [e] [] pos) (tM1 (rJoinT X.K) to te) := pe_m1 F.slot_str_join F.type_str_join mt_joinT ho he hs hbase hline
end
section
variable {σ : St} {H : Hp} {Q : VK} {to te : TE} {K : PySem.W.Frag}
theorem e_m1 {r : V → List V → Hp → VK → Prop} (q : to σ H fun x H1 => (∃ a, x = .str a) ∧ te σ H1 fun y H2 => r x [y] H2 Q) : tM1 r to te σ H Q := q
theorem v_isS {a : Str} {P : Prop} (q : P) : (∃ b, V.str a = .str b) ∧ P := ⟨⟨a, rfl⟩, q⟩
theorem v_join {p : Addr} {ls : List (List Nat)} (h : H p = some (.lst (ls.map fun l => V.str (tx l)))) (hl : ls.flatten.length ≤ 1000000) (q : Q (.str (tx ls.flatten)) H) : rJoinT K (.str (tx [])) [.ref p] H Q := ⟨p, ls, rfl, rfl, .inl (SqL.of h), hl, q⟩
/-! ### membership -/
theorem v_inS {c : Nat} {l : List Nat} (q : Q (.bl (decide (c ∈ l))) H) : rInS (.str (tx [c])) (.str (tx l)) H Q := ⟨c, tx l, rfl, rfl, by simpa using q⟩
theorem v_notInS {c : Nat} {l : List Nat} (q : Q (.bl (!decide (c ∈ l))) H) : rNotInS (.str (tx [c])) (.str (tx l)) H Q := ⟨c, tx l, rfl, rfl, by simpa using q⟩
theorem inV_tx {x : List Nat} : ∀ {ls : List (List Nat)}, inV (.str (tx x)) (ls.map fun l => V.str (tx l)) = decide (x ∈ ls)
  | [] => by simp [inV]
  | l :: r => by
    have ih := inV_tx (x := x) (ls := r)
    unfold inV at ih ⊢
    rw [List.map_cons, List.any_cons, ih]
    by_cases e : l = x
    · subst e
      simp [eqV]
    · have e2 : ¬ tx l = tx x := fun z => e (tx_inj.mp z)
      have e3 : ¬ x = l := fun z => e z.symm
      simp [eqV, e2, e3]
theorem flat_tx (ls : List (List Nat)) : (ls.map fun l => V.str (tx l)).all flatV = true := by
  rw [List.all_map]
  exact List.all_eq_true.mpr fun _ _ => rfl
theorem v_inL {x : List Nat} {ls : List (List Nat)} {p : Addr} (h : H p = some (.lst (ls.map fun l => V.str (tx l)))) (q : Q (.bl (decide (x ∈ ls))) H) : rIn K false (.str (tx x)) (.ref p) H Q :=
  ⟨p, _, rfl, .inl (SqL.of h), rfl, flat_tx ls, by rw [inV_tx]; exact q⟩
theorem v_inT {x : List Nat} {ls : List (List Nat)} {p : Addr} (h : SqT K H p (ls.map fun l => V.str (tx l))) (q : Q (.bl (decide (x ∈ ls))) H) : rIn K false (.str (tx x)) (.ref p) H Q :=
  ⟨p, _, rfl, .inr h, rfl, flat_tx ls, by rw [inV_tx]; exact q⟩
end
/-! ### comprehensions -/
theorem wipe1 {σ : St} {i : Nat} {x : Option V} : wipe ((wipe σ [i]).set i x) [i] = wipe σ [i] := by
  show (((σ.set i none).set i x).set i none) = σ.set i none
  rw [List.set_set, List.set_set]
section
variable {σ : St} {H : Hp} {Q : VK} {wi : TI} {g : TG} {tt : TT} {te t0 : TE} {i : Nat} {K : PySem.W.Frag}
/-- what a comprehension's new list is, item by item: Y tells the turn's items -/
theorem lc_gen {P : Addr → Hp → Prop} {J : It} {n : Nat} {G : Hp → Prop} {it : Nat → V} {b : Nat → Bool} {f : Nat → V} (w : Walk J n G (fun k H x H' => H' = H ∧ x = it k)) (hG : ∀ H', Same H H' → G H') (hn : n ≤ 1000000)
    (ht : ∀ k, k < n → ∀ H1, Same H H1 → ∀ R : Bool → Hp → Prop, (∀ H2, Same H1 H2 → R (b k) H2) → tt ((wipe σ [i]).set i (some (it k))) H1 R)
    (he : ∀ k, k < n → b k = true → ∀ H1, Same H H1 → ∀ R : VK, (∀ H2, Same H1 H2 → R (f k) H2) → te ((wipe σ [i]).set i (some (it k))) H1 R)
    (q : ∀ D H', H D = none → Same H H' → H' D = some (.lst (((List.range n).filter b).map f)) → P D H') :
    ∀ D, H D = none → ∃ W : Nat → Nat → Hp → Prop, (∃ m, W 0 m (upd H D (.lst []))) ∧ ∀ k m H, W k m H →
      (J.stop k H ∧ P D H) ∨ (J.go k H ∧ ∃ Nx : Hp → Prop, (∀ H', Nx H' → ∃ m', m' < m ∧ W (k + 1) m' H') ∧ ∀ x H', J.yld k H x H' → (gName i) x (wipe σ [i]) H' fun s2 H2 => wipe s2 [i] = wipe σ [i] ∧ tt s2 H2 fun c H3 =>
        if c = true then te s2 H3 fun y H4 => ∃ acc, H4 D = some (.lst acc) ∧ acc.length < sizeLine ∧ Nx (upd H4 D (.lst (acc ++ [y]))) else Nx H3) := by
  intro D hD
  refine lc_it w (vs := [i]) (σ := σ) (g := gName i) (tt := tt) (te := te) (Qd := fun H' => P D H') (fun k H' => Same H H' ∧ H' D = some (.lst (((List.range k).filter b).map f)))
    ⟨Same.new hD, upd_same⟩ (fun k H' _ p => hG H' p.1) (fun k x H1 H2 hk p y => ?_) (fun H' p => q D H' hD p.1 p.2)
  obtain ⟨p1, p2⟩ := p
  obtain ⟨rfl, rfl⟩ := y
  refine ⟨wipe1, ht k hk _ p1 _ fun H3 s3 => ?_⟩
  have e1 : (List.range (k + 1)).filter b = (List.range k).filter b ++ (if b k = true then [k] else []) := by
    rw [List.range_succ, List.filter_append]
    congr 1
    by_cases c : b k = true
    · simp [c]
    · simp [c]
  by_cases c : b k = true
  · rw [if_pos c]
    refine he k hk c _ (p1.trans s3) _ fun H4 s4 => ?_
    refine ⟨_, s4 _ _ (s3 _ _ p2), ?_, fun a o ha => ?_, ?_⟩
    · rw [List.length_map]
      have h1 := List.length_filter_le b (List.range k)
      rw [List.length_range] at h1
      exact szlt (by omega)
    · rw [upd_ne (ne_of_none ha hD)]
      exact s4 _ _ (s3 _ _ (p1 _ _ ha))
    · rw [upd_same, e1, if_pos c, List.map_append]
      rfl
  · rw [if_neg c]
    refine ⟨p1.trans s3, ?_⟩
    rw [e1, if_neg c, List.append_nil]
    exact s3 _ _ p2
theorem e_lc {vs : List Nat} (q : wi σ H fun J H1 => ∀ D, H1 D = none → ∃ W : Nat → Nat → Hp → Prop, (∃ m, W 0 m (upd H1 D (.lst []))) ∧ ∀ i m H, W i m H →
    (J.stop i H ∧ Q (.ref D) H) ∨ (J.go i H ∧ ∃ Nx : Hp → Prop, (∀ H', Nx H' → ∃ m', m' < m ∧ W (i + 1) m' H') ∧ ∀ x H', J.yld i H x H' → g x (wipe σ vs) H' fun s2 H2 => wipe s2 vs = wipe σ vs ∧ tt s2 H2 fun b H3 =>
      if b = true then te s2 H3 fun y H4 => ∃ acc, H4 D = some (.lst acc) ∧ acc.length < sizeLine ∧ Nx (upd H4 D (.lst (acc ++ [y]))) else Nx H3)) : tLc wi g tt te vs σ H Q := q
theorem range_map {α : Type} (l : List Nat) (b : Nat → Bool) (f : Nat → α) : ((List.range l.length).filter fun k => b (l.getD k 0)).map (fun k => f (l.getD k 0)) = (l.filter b).map f := by
  have e : l = (List.range l.length).map fun k => l.getD k 0 := by
    apply List.ext_getElem
    · simp
    · intro j h1 h2
      simp [List.getD, h1]
  conv => rhs; rw [e, List.filter_map, List.map_map]
  rfl
/-- [e for c in text if t] -/
theorem v_lcS {P : Addr → Hp → Prop} {l : List Nat} {b : Nat → Bool} {f : Nat → V} (hn : l.length ≤ 1000000)
    (ht : ∀ c, c ∈ l → ∀ H1, Same H H1 → ∀ R : Bool → Hp → Prop, (∀ H2, Same H1 H2 → R (b c) H2) → tt ((wipe σ [i]).set i (some (.str (tx [c])))) H1 R)
    (he : ∀ c, c ∈ l → b c = true → ∀ H1, Same H H1 → ∀ R : VK, (∀ H2, Same H1 H2 → R (f c) H2) → te ((wipe σ [i]).set i (some (.str (tx [c])))) H1 R)
    (q : ∀ D H', H D = none → Same H H' → H' D = some (.lst ((l.filter b).map f)) → P D H') :
    ∀ D, H D = none → ∃ W : Nat → Nat → Hp → Prop, (∃ m, W 0 m (upd H D (.lst []))) ∧ ∀ k m H, W k m H →
      ((Its (tx l)).stop k H ∧ P D H) ∨ ((Its (tx l)).go k H ∧ ∃ Nx : Hp → Prop, (∀ H', Nx H' → ∃ m', m' < m ∧ W (k + 1) m' H') ∧ ∀ x H', (Its (tx l)).yld k H x H' → (gName i) x (wipe σ [i]) H' fun s2 H2 => wipe s2 [i] = wipe σ [i] ∧ tt s2 H2 fun c H3 =>
        if c = true then te s2 H3 fun y H4 => ∃ acc, H4 D = some (.lst acc) ∧ acc.length < sizeLine ∧ Nx (upd H4 D (.lst (acc ++ [y]))) else Nx H3) := by
  have mem : ∀ k, k < l.length → l.getD k 0 ∈ l := fun k hk => by
    rw [List.getD_eq_getElem?_getD, List.getElem?_eq_getElem hk]
    exact List.getElem_mem hk
  have w : Walk (Its (tx l)) l.length (fun _ => True) (fun k H x H' => H' = H ∧ x = .str (tx [l.getD k 0])) := by
    refine ⟨fun k H hk _ => by show k < (tx l).cps.size; simpa using hk, fun H _ => by show (tx l).cps.size ≤ l.length; simp, fun k H x H' hk _ y => ?_⟩
    obtain ⟨e, c, hc, rfl⟩ := y
    refine ⟨e, ?_⟩
    have hc : l[k]? = some c := by simpa using hc
    rw [List.getD_eq_getElem?_getD, hc]
    rfl
  refine lc_gen (b := fun k => b (l.getD k 0)) (f := fun k => f (l.getD k 0)) w (fun _ _ => trivial) hn (fun k hk H1 s1 R r => ht _ (mem k hk) H1 s1 R r) (fun k hk c H1 s1 R r => he _ (mem k hk) c H1 s1 R r) (fun D H' hD s' e => q D H' hD s' ?_)
  rw [e, range_map]
end
end Cw
set_option Elab.async false
set_option linter.all false
set_option maxRecDepth 100000
set_option maxHeartbeats 4000000
namespace Cw
open PySem PySem.Spec L2
/-! ### a comprehension of two fors over texts -/
theorem lc_in {J : It} {n : Nat} {G : Hp → Prop} {Y : Nat → Hp → V → Hp → Prop} (w : Walk J n G Y) {g : TG} {tt : TT} {te : TE} {vs : List Nat} {σ : St} {H1 : Hp} {D : Addr} {Qd : Hp → Prop} (Pv : Nat → Hp → Prop) (h0 : Pv 0 H1) (hG : ∀ i H, i ≤ n → Pv i H → G H)
    (hs : ∀ i x H H', i < n → Pv i H → Y i H x H' → g x (wipe σ vs) H' fun s2 H2 => wipe s2 vs = wipe σ vs ∧ tt s2 H2 fun b H3 =>
      if b = true then te s2 H3 fun y H4 => ∃ acc, H4 D = some (.lst acc) ∧ acc.length < sizeLine ∧ Pv (i + 1) (upd H4 D (.lst (acc ++ [y]))) else Pv (i + 1) H3) (hd : ∀ H, Pv n H → Qd H) :
    ∃ W : Nat → Nat → Hp → Prop, (∃ m, W 0 m H1) ∧ ∀ i m H, W i m H →
      (J.stop i H ∧ Qd H) ∨ (J.go i H ∧ ∃ Nx : Hp → Prop, (∀ H', Nx H' → ∃ m', m' < m ∧ W (i + 1) m' H') ∧ ∀ x H', J.yld i H x H' → g x (wipe σ vs) H' fun s2 H2 => wipe s2 vs = wipe σ vs ∧ tt s2 H2 fun b H3 =>
        if b = true then te s2 H3 fun y H4 => ∃ acc, H4 D = some (.lst acc) ∧ acc.length < sizeLine ∧ Nx (upd H4 D (.lst (acc ++ [y]))) else Nx H3) := by
  refine ⟨fun i m H => m = n - i ∧ i ≤ n ∧ Pv i H, ⟨n, rfl, Nat.zero_le _, h0⟩, ?_⟩
  rintro i m H ⟨rfl, hi, p⟩
  by_cases c : i < n
  · exact Or.inr ⟨w.goes i H c (hG i H hi p), Pv (i + 1), fun H' p' => ⟨_, by omega, rfl, c, p'⟩, fun x H' y => hs i x H H' c p (w.yields i H x H' c (hG i H hi p) y)⟩
  · have e : i = n := by omega
    rw [e] at p ⊢
    exact Or.inl ⟨w.stops H (hG n H (Nat.le_refl _) p), hd H p⟩
theorem walk_tx (l : List Nat) : Walk (Its (tx l)) l.length (fun _ => True) (fun k H x H' => H' = H ∧ x = .str (tx [l.getD k 0])) := by
  refine ⟨fun k H hk _ => by show k < (tx l).cps.size; simpa using hk, fun H _ => by show (tx l).cps.size ≤ l.length; simp, fun k H x H' hk _ y => ?_⟩
  obtain ⟨e, c, hc, rfl⟩ := y
  refine ⟨e, ?_⟩
  have hc : l[k]? = some c := by simpa using hc
  rw [List.getD_eq_getElem?_getD, hc]
  rfl
theorem getD_mem {l : List Nat} {k : Nat} (hk : k < l.length) : l.getD k 0 ∈ l := by
  rw [List.getD_eq_getElem?_getD, List.getElem?_eq_getElem hk]
  exact List.getElem_mem hk
theorem take_getD {l : List Nat} {k : Nat} (hk : k < l.length) : l.take (k + 1) = l.take k ++ [l.getD k 0] := by
  rw [List.take_add_one, List.getD_eq_getElem?_getD, List.getElem?_eq_getElem hk]
  rfl
section
variable {σ : St} {H : Hp} {Q : VK} {tt1 : TT} {te t1 : TE} {i j : Nat}
theorem v_lc2S {la lb : List Nat} {b : Nat → Nat → Bool} {f : Nat → Nat → V} (hij : i ≠ j) (hsz : la.length * lb.length < 1000000)
    (h1 : ∀ c, c ∈ la → ∀ H1, Same H H1 → ∀ R : VK, R (.str (tx lb)) H1 → t1 (((σ.set j none).set i none).set i (some (.str (tx [c])))) H1 R)
    (ht : ∀ c d, c ∈ la → d ∈ lb → ∀ H1, Same H H1 → ∀ R : Bool → Hp → Prop, (∀ H2, Same H1 H2 → R (b c d) H2) → tt1 (((((σ.set j none).set i none).set i (some (.str (tx [c])))).set j none).set j (some (.str (tx [d])))) H1 R)
    (he : ∀ c d, c ∈ la → d ∈ lb → b c d = true → ∀ H1, Same H H1 → ∀ R : VK, (∀ H2, Same H1 H2 → R (f c d) H2) → te (((((σ.set j none).set i none).set i (some (.str (tx [c])))).set j none).set j (some (.str (tx [d])))) H1 R)
    (q : ∀ D H', H D = none → Same H H' → H' D = some (.lst (la.flatMap fun c => (lb.filter (b c)).map (f c))) → Q (.ref D) H') :
    tLc2 (iStr (tC (.str (tx la)))) (gName i) tYes (iStr t1) (gName j) tt1 te [i, j] [j] σ H Q := by
  refine ⟨tx la, rfl, fun D hD => ?_⟩
  have len : ∀ l : List Nat, (l.flatMap fun c => (lb.filter (b c)).map (f c)).length ≤ l.length * lb.length := by
    intro l
    induction l with
    | nil => simp
    | cons c r ih =>
      rw [List.flatMap_cons, List.length_append, List.length_map, List.length_cons, Nat.succ_mul]
      have := List.length_filter_le (b c) lb
      omega
  refine ⟨fun k m H' => m = la.length - k ∧ k ≤ la.length ∧ Same H H' ∧ H' D = some (.lst ((la.take k).flatMap fun c => (lb.filter (b c)).map (f c))), ⟨_, rfl, Nat.zero_le _, Same.new hD, upd_same⟩, ?_⟩
  rintro k m H1 ⟨rfl, hk, s1, e1⟩
  have w := walk_tx la
  by_cases c : k < la.length
  · refine Or.inr ⟨w.goes k H1 c trivial, fun H' => Same H H' ∧ H' D = some (.lst ((la.take (k + 1)).flatMap fun c => (lb.filter (b c)).map (f c))), fun H' p => ⟨_, by omega, rfl, c, p.1, p.2⟩, fun x H2 y => ?_⟩
    obtain ⟨rfl, rfl⟩ := w.yields k H1 x H2 c trivial y
    have hm := getD_mem c
    refine ⟨?_, ?_⟩
    · show ((((σ.set j none).set i none).set i _).set j none).set i none = (σ.set j none).set i none
      rw [List.set_comm _ _ hij.symm, List.set_set, List.set_set, List.set_comm _ _ hij, List.set_set]
    · unfold tYes
      refine iteT ?_
      refine h1 _ hm _ s1 _ ⟨tx lb, rfl, ?_⟩
      refine lc_in (walk_tx lb) (fun z H' => Same H H' ∧ H' D = some (.lst (((la.take k).flatMap fun c => (lb.filter (b c)).map (f c)) ++ ((lb.take z).filter (b (la.getD k 0))).map (f (la.getD k 0))))) ⟨s1, by simpa using e1⟩ (fun _ _ _ _ => trivial) ?_ ?_
      · rintro z x H3 H4 hz ⟨s3, e3⟩ ⟨rfl, rfl⟩
        have hm2 := getD_mem hz
        have et := take_getD hz
        refine ⟨?_, ht _ _ hm hm2 _ s3 _ fun H5 s5 => ?_⟩
        · exact wipe1
        · show (if b (la.getD k 0) (lb.getD z 0) = true then _ else _)
          by_cases cb : b (la.getD k 0) (lb.getD z 0) = true
          · rw [if_pos cb]
            refine he _ _ hm hm2 cb _ (s3.trans s5) _ fun H6 s6 => ⟨_, s6 _ _ (s5 _ _ e3), ?_, fun a o ha => ?_, ?_⟩
            · have n1 := len (la.take k)
              have n2 : ((lb.take z).filter (b (la.getD k 0))).length ≤ z := by
                have := List.length_filter_le (b (la.getD k 0)) (lb.take z)
                rw [List.length_take] at this
                omega
              rw [List.length_append, List.length_map]
              rw [List.length_take, Nat.min_eq_left (by omega)] at n1
              have n3 : k * lb.length + lb.length ≤ la.length * lb.length := by
                rw [← Nat.succ_mul]
                exact Nat.mul_le_mul_right _ c
              exact szlt (by omega)
            · rw [upd_ne (ne_of_none ha hD)]
              exact s6 _ _ (s5 _ _ (s3 _ _ ha))
            · rw [upd_same, et, List.filter_append, List.map_append, List.append_assoc, List.filter_cons, if_pos cb]
              rfl
          · rw [if_neg cb]
            refine ⟨s3.trans s5, ?_⟩
            rw [s5 _ _ e3, et, List.filter_append, List.filter_cons, if_neg cb, List.filter_nil, List.append_nil]
      · rintro H' ⟨s', e'⟩
        refine ⟨s', ?_⟩
        rw [e', take_getD c, List.flatMap_append, List.take_of_length_le (Nat.le_refl _)]
        simp
  · have e : k = la.length := by omega
    subst e
    refine Or.inl ⟨w.stops H1 trivial, q D H1 hD s1 ?_⟩
    rw [e1, List.take_of_length_le (Nat.le_refl _)]
end
end Cw
set_option Elab.async false
set_option linter.all false
set_option maxRecDepth 100000
set_option maxHeartbeats 4000000
/-! plain words about plans -/
namespace Cw
open PySem L2
def LET : List Nat := [97, 98, 99, 100, 101, 102, 103, 104, 105, 106, 107, 108, 109, 110, 111, 112, 113, 114, 115, 116, 117, 118, 119, 120, 121, 122]
def ascOf (l : List Nat) : List Nat := LET.filter fun c => decide (c ∈ l)
def pairsOf (found : List (List Nat)) : List (List Nat) := LET.flatMap fun a => (LET.filter fun b => decide ([a, b] ∈ found)).map fun b => [a, b]
def crossOf (ks : List Nat) (ps : List (List Nat)) (k : Nat) : List Nat := ks.filter fun o => decide ([k, o] ∈ ps) || decide ([o, k] ∈ ps)
/-- the pairs that a plan may be told by: two different kinds each -/
def PairsIn (ks : List Nat) (ps : List (List Nat)) : Prop := ∀ p ∈ ps, ∃ a b, p = [a, b] ∧ a ≠ b ∧ a ∈ ks ∧ b ∈ ks
def crossKV (ks : List Nat) (ps : List (List Nat)) (l : List Nat) : List (Key × V) := l.map fun k => (Sum.inr (tx [k]), V.str (tx (crossOf ks ps k)))
/-- a list of texts as values -/
abbrev strsV (ls : List (List Nat)) : List V := ls.map fun l => V.str (tx l)
theorem LET_lt {c : Nat} (h : c ∈ LET) : 97 ≤ c ∧ c < 123 := by
  unfold LET at h
  simp only [List.mem_cons, List.not_mem_nil, or_false] at h
  omega
theorem ascOf_mem {l : List Nat} {c : Nat} : c ∈ ascOf l ↔ c ∈ LET ∧ c ∈ l := by
  unfold ascOf
  rw [List.mem_filter, decide_eq_true_iff]
theorem ascOf_len (l : List Nat) : (ascOf l).length ≤ 26 := List.length_filter_le _ _
theorem LET_nodup : LET.Nodup := by decide
theorem ascOf_nodup (l : List Nat) : (ascOf l).Nodup := LET_nodup.filter _
theorem pairsOf_mem {f : List (List Nat)} {p : List Nat} : p ∈ pairsOf f ↔ ∃ a b, p = [a, b] ∧ a ∈ LET ∧ b ∈ LET ∧ [a, b] ∈ f := by
  unfold pairsOf
  simp only [List.mem_flatMap, List.mem_map, List.mem_filter, decide_eq_true_iff]
  constructor
  · rintro ⟨a, ha, b, ⟨hb, hf⟩, rfl⟩
    exact ⟨a, b, rfl, ha, hb, hf⟩
  · rintro ⟨a, b, rfl, ha, hb, hf⟩
    exact ⟨a, ha, b, ⟨hb, hf⟩, rfl⟩
theorem filter_yes {α : Type} (l : List α) : l.filter (fun _ => true) = l := List.filter_eq_self.mpr fun _ _ => rfl
theorem flat_ones (l : List Nat) : (l.map fun c => [c]).flatten = l := by
  induction l with
  | nil => rfl
  | cons c r ih => rw [List.map_cons, List.flatten_cons, ih]; rfl
theorem strs_ones (l : List Nat) : (l.map fun c => V.str (tx [c])) = strsV (l.map fun c => [c]) := by
  unfold strsV
  rw [List.map_map]
  rfl
theorem nodup_ones {l : List Nat} : (l.map fun c => tx [c]).Nodup ↔ l.Nodup := by
  induction l with
  | nil => simp
  | cons c r ih =>
    rw [List.map_cons, List.nodup_cons, List.nodup_cons, ih]
    refine and_congr_left fun _ => not_congr ?_
    rw [List.mem_map]
    constructor
    · rintro ⟨d, hd, e⟩
      have : [d] = [c] := tx_inj.mp e
      injection this with e _
      exact e ▸ hd
    · intro h
      exact ⟨c, h, rfl⟩
theorem metOf_ones (l : List Nat) : ((metOf (l.map fun c => tx [c])).length = l.length) ↔ l.Nodup := by
  by_cases h : l.Nodup
  · rw [metOf_nodup (nodup_ones.mpr h), List.length_map]
    exact ⟨fun _ => h, fun _ => rfl⟩
  · have := metOf_lt (fun n => h (nodup_ones.mp n))
    rw [List.length_map] at this
    exact ⟨fun e => by omega, fun n => absurd n h⟩
theorem crossOf_len (ks : List Nat) (ps : List (List Nat)) (k : Nat) : (crossOf ks ps k).length ≤ ks.length := List.length_filter_le _ _
section
variable {σ : L2.St} {H : Hp} {Q : VK} {te : TE} {K : PySem.W.Frag}
theorem e_iStr {R : It → Hp → Prop} (q : te σ H fun v H1 => ∃ x, v = .str x ∧ R (Its x) H1) : iStr te σ H R := q
theorem e_iL {R : It → Hp → Prop} (q : te σ H fun x H1 => ∃ a, x = .ref a ∧ (∃ xs, SqL K H1 a xs) ∧ R (Itl K a) H1) : iList K te σ H R := q
theorem v_iL {P : Addr → Prop} {a : Addr} {xs : List V} (h : H a = some (.lst xs)) (q : P a) : ∃ a', V.ref a = .ref a' ∧ (∃ xs, SqL K H a' xs) ∧ P a' := ⟨a, rfl, ⟨xs, SqL.of h⟩, q⟩
theorem e_iR1 {ta : TA} {R : It → Hp → Prop} (q : ta σ H fun vs H1 => ∃ j : Int, vs = [.int j] ∧ -(2 ^ 62) ≤ j ∧ j < 2 ^ 62 ∧ R (Itr 0 j.toNat) H1) : iRng1 ta σ H R := q
theorem v_iR1 {P : Int → Prop} {j : Int} (h1 : -1000000 ≤ j) (h2 : j < 1000000) (q : P j) : ∃ j' : Int, [V.int j] = [.int j'] ∧ -(2 ^ 62) ≤ j' ∧ j' < 2 ^ 62 ∧ P j' := ⟨j, rfl, by omega, by omega, q⟩
theorem e_iR2 {ta : TA} {R : It → Hp → Prop} (q : ta σ H fun vs H1 => ∃ i j : Int, vs = [.int i, .int j] ∧ (-(2 ^ 62) ≤ i ∧ i < 2 ^ 62 ∧ -(2 ^ 62) ≤ j ∧ j < 2 ^ 62) ∧ R (Itr i (j - i).toNat) H1) : iRng2 ta σ H R := q
theorem v_iR2 {P : Int → Int → Prop} {i j : Int} (h1 : -1000000 ≤ i ∧ i < 1000000 ∧ -1000000 ≤ j ∧ j < 1000000) (q : P i j) : ∃ i' j' : Int, [V.int i, V.int j] = [.int i', .int j'] ∧ (-(2 ^ 62) ≤ i' ∧ i' < 2 ^ 62 ∧ -(2 ^ 62) ≤ j' ∧ j' < 2 ^ 62) ∧ P i' j' := ⟨i, j, rfl, by omega, q⟩
theorem e_for {wi : TI} {g : TG} {tb : TS} {D : Ends} (q : wi σ H fun J H1 => ∃ W : Nat → Nat → L2.St → Hp → Prop, (∃ m, W 0 m σ H1) ∧ ∀ i m σ H, W i m σ H →
    (J.stop i H ∧ D.nx σ H) ∨ (J.go i H ∧ ∃ N : L2.St → Hp → Prop, (∀ σ' H', N σ' H' → ∃ m', m' < m ∧ W (i + 1) m' σ' H') ∧ ∀ x H', J.yld i H x H' → g x σ H' fun s2 H2 => tb { D with nx := N, ct := N, bk := D.nx } s2 H2)) : tFor wi g tb D σ H := q
theorem iteNT {A B : Prop} (h : B) : if (!true) = true then A else B := by
  rw [if_neg (by decide)]
  exact h
theorem iteNF {A B : Prop} (h : A) : if (!false) = true then A else B := by
  rw [if_pos (by decide)]
  exact h
theorem e_yes {Q : Bool → Hp → Prop} (q : Q true H) : tYes σ H Q := q
theorem v_isiS {x : Str} (q : Q (.bl true) H) : rIsi K [.str x, .ty "str"] H Q := ⟨.str x, .ty "str", .type "str", .type "str", true, rfl, .ty "str", .base (.str x), kit_ty (by decide +kernel), q⟩
theorem v_all {p : Addr} {bs : List Bool} (h : H p = some (.lst (bs.map V.bl))) (q : Q (.bl (bs.all id)) H) : rAll K [.ref p] H Q := ⟨p, bs, rfl, SqL.of h, q⟩
theorem v_fld {P : V → Prop} {a C dx : Addr} {fs : List (Str × V)} {f : Str} {v : V} (h : H a = some (.ins C dx fs)) (c : Cls K C) (n : NoAttr K C f) (l : fs.lookup f = some v) (q : P v) : ∃ a' C dx fs v, V.ref a = .ref a' ∧ H a' = some (.ins C dx fs) ∧ Cls K C ∧ NoAttr K C f ∧ fs.lookup f = some v ∧ P v := ⟨a, C, dx, fs, v, rfl, h, c, n, l, q⟩
theorem e_sfld {ta tv : TE} {f : Str} {D : Ends} (q : tv σ H fun y H1 => ta σ H1 fun x H2 => ∃ a C dx fs, x = .ref a ∧ H2 a = some (.ins C dx fs) ∧ Cls K C ∧ NoAttr K C f ∧ fs.length < 1000 ∧ D.nx σ (upd H2 a (.ins C dx (putF f y fs)))) : sFld K ta tv f D σ H := q
theorem v_sfld {P : Hp → Prop} {a C dx : Addr} {fs : List (Str × V)} {f : Str} {y : V} (h : H a = some (.ins C dx fs)) (c : Cls K C) (n : NoAttr K C f) (l : fs.length < 1000) (q : ∀ H', Keep a H H' → H' a = some (.ins C dx (putF f y fs)) → P H') :
    ∃ a' C dx fs, V.ref a = .ref a' ∧ H a' = some (.ins C dx fs) ∧ Cls K C ∧ NoAttr K C f ∧ fs.length < 1000 ∧ P (upd H a' (.ins C dx (putF f y fs))) := ⟨a, C, dx, fs, rfl, h, c, n, l, q _ Keep.put upd_same⟩
/-- a class of the text -/
structure ClsF (K : PySem.W.Frag) (mg : Str → Option Value) (x : Str) (C : Addr) : Prop where
  «at» : mg x = some (.ref C)
  cl : Cls K C
  mks : PySem.W.makesIn K C = true
  kp : PySem.W.keepIn K (.ref C) = true
  ha : PySem.W.findIn K (.ref C) "__class__" = some (some (.builtin "object.__class__"))
  hn : PySem.W.specialIn K (.builtin "object.__class__") "__get__" = some (some (.builtin "getset_descriptor.__get__"))
  ht : PySem.W.takesIn K (.builtin "object.__class__") = some true
  hm : PySem.W.mroIn K C (.type "object") = some true
  ob : PySem.W.subIn K (.ref C) (.type "object") = some true
  ne : PySem.W.findIn K (.ref C) "__ne__" = some (some (.builtin "object.__ne__"))
theorem kit_same {C : Addr} : PySem.W.kitOne K (.ref C) (.ref C) = some true := by
  unfold PySem.W.kitOne
  rw [if_pos (by simp)]
theorem v_isiC {mg : Str → Option Value} {x : Str} {a C dx : Addr} {fs : List (Str × V)} (F : ClsF K mg x C) (h : H a = some (.ins C dx fs)) (q : Q (.bl true) H) : rIsi K [.ref a, .ref C] H Q :=
  ⟨.ref a, .ref C, .ref C, .ref C, true, rfl, .own C, .base (.ins h F.cl F.ha F.hn F.ht F.hm), kit_same, q⟩
theorem v_isiL {p t : Addr} {xs : List V} (h : H p = some (.lst xs)) (ht : H t = some (.tup [.ty "list", .ty "tuple"])) (q : Q (.bl true) H) : rIsiT K [.ref p, .ref t] H Q :=
  ⟨.ref p, t, _, .type "list", [.type "list", .type "tuple"], true, rfl, ht, .cons (.ty _) (.cons (.ty _) .nil), .base (.lst h), kitAny_cons (b := true) (kit_ty (by decide +kernel)) (fun z => nomatch z) (fun _ => rfl), q⟩
end
def rTuple (K : PySem.W.Frag) : List V → Hp → VK → Prop := fun xs H Q => ∃ p ys, xs = [.ref p] ∧ ((SqL K H p ys ∧ ∀ l, H l = none → Q (.ref l) (upd H l (.tup ys))) ∨ (SqT K H p ys ∧ Q (.ref p) H))
theorem c_tuple {X : Cx} : CallR X (.type "tuple") (rTuple X.K) := call_tuple_of
theorem v_tuple {K : PySem.W.Frag} {H : Hp} {Q : VK} {p : Addr} {ys : List V} (h : H p = some (.lst ys)) (q : ∀ l H', H l = none → Same H H' → H' l = some (.tup ys) → Q (.ref l) H') : rTuple K [.ref p] H Q :=
  ⟨p, ys, rfl, .inl ⟨SqL.of h, fun l hl => q l _ hl (Same.new hl) upd_same⟩⟩
def rList (K : PySem.W.Frag) : List V → Hp → VK → Prop := fun xs H Q => ∃ p ys, xs = [.ref p] ∧ (SqL K H p ys ∨ SqT K H p ys) ∧ ∀ l, H l = none → Q (.ref l) (upd H l (.lst ys))
theorem c_list {X : Cx} : CallR X (.type "list") (rList X.K) := call_list_of
theorem v_list {K : PySem.W.Frag} {H : Hp} {Q : VK} {p : Addr} {ys : List V} (h : SqL K H p ys) (q : ∀ l H', H l = none → Same H H' → H' l = some (.lst ys) → Q (.ref l) H') : rList K [.ref p] H Q :=
  ⟨p, ys, rfl, .inl h, fun l hl => q l _ hl (Same.new hl) upd_same⟩
section
variable {σ : L2.St} {H : Hp} {Q : VK} {K : PySem.W.Frag}
theorem e_bm {T : String} {r : V → List V → Hp → VK → Prop} {to : TE} {t : TA} (q : to σ H fun x H1 => tyV K T x H1 ∧ t σ H1 fun xs H2 => r x xs H2 Q) : tBM K T r to t σ H Q := q
theorem e_bm0 {T : String} {r : V → List V → Hp → VK → Prop} {to : TE} (q : to σ H fun x H1 => tyV K T x H1 ∧ r x [] H1 Q) : tBM0 K T r to σ H Q := q
theorem v_tyL {P : Prop} {p : Addr} {xs : List V} (h : H p = some (.lst xs)) (q : P) : tyV K "list" (.ref p) H ∧ P := ⟨.inl ⟨rfl, _, SqL.of h⟩, q⟩
theorem v_app {p : Addr} {xs : List V} {y : V} (h : H p = some (.lst xs)) (hl : xs.length < 1000000) (q : ∀ H', Keep p H H' → H' p = some (.lst (xs ++ [y])) → Q .non H') : rAppend (.ref p) [y] H Q :=
  ⟨p, xs, y, rfl, rfl, h, szlt hl, q _ Keep.put upd_same⟩
end
/-! ### rules with the written part named (in a comprehension's block too) -/
section
variable {X : Cx} {K : PySem.W.Frag}
theorem op_inLK (h : X.K = K) : OpR X (compareOp .In) (rIn K false) := h ▸ op_in_seq
theorem op_notInLK (h : X.K = K) : OpR X (compareOp .NotIn) (rIn K true) := h ▸ op_notIn_seq
theorem ix_LK (h : X.K = K) : IxR X (rIxL K) := h ▸ ix_list
theorem ix_TK (h : X.K = K) : IxR X (rIxT K) := h ▸ ix_tup
theorem pe_flK {e : Expr} {f : Str} {pos : PySem.Pos} {ta : TE} (h : X.K = K) (he : PE X e ta) (hb : attributeBase e f X.env (eval e X.env) = eval e X.env) : PE X (.Attribute e f pos) (tFld K ta f) := h ▸ pe_fld he hb
theorem ps_flK {o value : Expr} {f : Str} {pos pos' : PySem.Pos} {ta tv : TE} (h : X.K = K) (ha : PE X o ta) (hv : PE X value tv) (hs : swapsWith value (some (.Attribute o f pos')) pos.line X.env = pure false) : PS X (.Assign [.Attribute o f pos'] value pos) (sFld K ta tv f) := h ▸ ps_fld ha hv hs
theorem pe_joinK {o e : Expr} {to te : TE} {apos pos : PySem.Pos} (h : X.K = K) (ho : PE X o to) (he : PE X e te) (hs : starEach [e] X.env = [(false, eval e X.env)] := by rfl) (hbase : attributeBase o "join" X.env (eval o X.env) = eval o X.env := by rfl) (hline : (apos.endLine == pos.line) = true := by rfl) :
    PE X (.Call (.Attribute o "join" apos) [e] [] pos) (tM1 (rJoinT K) to te) := h ▸ pe_joinT ho he hs hbase hline
theorem c_lenK (h : X.K = K) : CallR X (.builtin "len") (rLen K) := h ▸ c_len
theorem c_isiK (h : X.K = K) : CallR X (.builtin "isinstance") (rIsi K) := h ▸ call_isi
theorem c_isiTK (h : X.K = K) : CallR X (.builtin "isinstance") (rIsiT K) := h ▸ call_isiT
theorem c_listK (h : X.K = K) : CallR X (.type "list") (rList K) := h ▸ c_list
theorem c_tupleK (h : X.K = K) : CallR X (.type "tuple") (rTuple K) := h ▸ c_tuple
theorem c_allK (h : X.K = K) (hc : X.calm = true) : CallR X (.builtin "all") (rAll K) := h ▸ cr_all hc
theorem sl_LK (h : X.K = K) : SlR X (rSlL K) := h ▸ sl_list
theorem op_eqDK (h : X.K = K) (hu : X.A.units + 64 < cLine) : OpR X (compareOp .Eq) (rEqD K) := h ▸ op_eqD hu
theorem op_neDK (h : X.K = K) (hu : X.A.units + 64 < cLine) : OpR X (compareOp .NotEq) (rNeD K) := h ▸ op_neD hu
theorem pi_listK {tg e : Expr} {te : TE} (h : X.K = K) (he : PE X e te) : PI X tg e (iList K te) := h ▸ pi_list he
theorem pi_tupK {tg e : Expr} {te : TE} (h : X.K = K) (he : PE X e te) : PI X tg e (iTup K te) := h ▸ pi_tup he
theorem pe_appK {o e : Expr} {to te : TE} {apos cpos : PySem.Pos} (h : X.K = K) (ho : PE X o to) (he : PE X e te) (hbase : attributeBase o "append" X.env (eval o X.env) = eval o X.env := by rfl)
    (hfew : ((backTo cpos (starEach [e] X.env)).all (fun x => !x.1) && (backToKw cpos (keywordEach [] X.env)).all (fun x => x.1.isSome) && decide ([e].length + ([] : List Keyword).length + (if ([] : List Keyword).isEmpty then 0 else 1) < 30)) = true := by rfl)
    (hline : (apos.endLine == cpos.line) = true := by rfl) (hs : starEach [e] X.env = (false, eval e X.env) :: starEach [] X.env := by rfl) (hplain : (backTo cpos (starEach [] X.env)).any (·.1) = false := by rfl) :
    PE X (.Call (.Attribute o "append" apos) [e] [] cpos) (tBM K "list" rAppend to (tCons te tNil)) := h ▸ pe_bm PySem.F.plainAttrs_list PySem.F.slot_list_append PySem.F.type_list_append mt_append ho (pa_cons he pa_nil hs) hbase hfew hline hs hplain
end
/-- two readings of one walk -/
def iOr (a b : TI) : TI := fun σ H R => a σ H R ∨ b σ H R
theorem pi_or {X : Cx} {tg e : Expr} {a b : TI} (h1 : PI X tg e a) (h2 : PI X tg e b) : PI X tg e (iOr a b) :=
  ⟨fun pos s σ H R I h => h.elim (h1.run pos s σ H R I) (h2.run pos s σ H R I)⟩
/-- a list or a tuple, or the empty tuple of the top -/
def SeqO (K : PySem.W.Frag) (H : Hp) (p : Addr) (xs : List V) : Prop := H p = some (.lst xs) ∨ H p = some (.tup xs) ∨ (xs = [] ∧ ∃ o n, K.lookup p = some o ∧ o.cls = .type "tuple" ∧ o.data = .seq #[] n)
section
variable {K : PySem.W.Frag} {H H' : Hp} {p x : Addr} {xs : List V}
theorem SeqO.go (h : SeqO K H p xs) (s : ∀ o, H p = some o → H' p = some o) : SeqO K H' p xs := h.imp (s _) (fun z => z.imp (s _) id)
theorem SeqO.same (h : SeqO K H p xs) (s : Same H H') : SeqO K H' p xs := h.go (s _)
theorem SeqO.keepI {C dx : Addr} {fs : List (Str × V)} (h : SeqO K H p xs) (s : Keep x H H') (hx : H x = some (.ins C dx fs)) : SeqO K H' p xs := by
  rcases h with h | h | h
  · exact .inl (s _ _ h (ne_of h hx (by intro z; cases z)))
  · exact .inr (.inl (s _ _ h (ne_of h hx (by intro z; cases z))))
  · exact .inr (.inr h)
theorem v_isiQ {Q : VK} {t : Addr} (h : SeqO K H p xs) (ht : H t = some (.tup [.ty "list", .ty "tuple"])) (q : Q (.bl true) H) : rIsiT K [.ref p, .ref t] H Q := by
  have key : TyX K H (.ref p) (.type "tuple") → rIsiT K [.ref p, .ref t] H Q := fun ty => ⟨.ref p, t, _, .type "tuple", [.type "list", .type "tuple"], true, rfl, ht, .cons (.ty _) (.cons (.ty _) .nil), ty, kitAny_cons (b := false) (kit_ty (by decide +kernel)) (fun _ => kitAny_cons (b := true) (kit_ty (by decide +kernel)) (fun z => nomatch z) (fun _ => rfl)) (fun z => nomatch z), q⟩
  rcases h with h | h | ⟨_, o, n, h, c, _⟩
  · exact v_isiL h ht q
  · exact key (.base (.tup h))
  · exact key (.kTuple h c)
/-- a for over a list or a tuple -/
theorem e_forSeq {te : TE} {g : TG} {tb : TS} {D : Ends} {σ : L2.St} {H0 : Hp} (hp : SeqO K H0 p xs) (s0 : Same H0 H) (ht : ∀ Q : VK, Q (.ref p) H → te σ H Q) (Pv : Nat → L2.St → Hp → Prop) (h0 : Pv 0 σ H) (hG : ∀ i σ' H', Pv i σ' H' → Same H0 H')
    (hs : ∀ i x σ H H', i < xs.length → Pv i σ H → YAt xs i H x H' → g x σ H' fun σ2 H2 => tb { D with nx := Pv (i + 1), ct := Pv (i + 1), bk := D.nx } σ2 H2) (hd : ∀ σ H, Pv xs.length σ H → D.nx σ H) : tFor (iOr (iList K te) (iTup K te)) g tb D σ H := by
  rcases hp with hp | hp | ⟨rfl, o, n, h, c, e⟩
  · exact Or.inl (ht _ ⟨p, rfl, ⟨xs, SqL.of (s0 _ _ hp)⟩, for_it walk_list Pv h0 (fun i σ' H' _ z => SqL.of (hG i σ' H' z _ _ hp)) hs hd⟩)
  · exact Or.inr (ht _ ⟨p, rfl, ⟨xs, SqT.of (s0 _ _ hp)⟩, for_it walk_tup Pv h0 (fun i σ' H' _ z => SqT.of (hG i σ' H' z _ _ hp)) hs hd⟩)
  · have k : ∀ H', SqT K H' p [] := fun H' => .inr ⟨o, #[], n, h, c, e, by decide, .nil⟩
    exact Or.inr (ht _ ⟨p, rfl, ⟨[], k _⟩, for_it walk_tup Pv h0 (fun i σ' H' _ z => k _) hs hd⟩)
end
theorem DPut.cross {H : Hp} {a : Addr} {kvs : List (Key × V)} {l : List Nat} {v : V} (e : H a = some (.dK kvs)) (hn : valV kvs (Sum.inr (tx l)) = none) (hl : kvs.length < 1000000) : DPut H a (.str (tx l)) v (upd H a (.dK (kvs ++ [(Sum.inr (tx l), v)]))) := by
  have h := DPut.k (k := Sum.inr (tx l)) (v := v) e (szlt hl)
  rw [putK_new v hn] at h
  exact h
theorem key_tx {a b : List Nat} : (Sum.inr (tx a) : Key) = Sum.inr (tx b) ↔ a = b := by
  constructor
  · intro h
    injection h with h
    exact tx_inj.mp h
  · intro h
    rw [h]
/-- a dict by letters -/
theorem letV_none {g : Nat → V} {k : Nat} : ∀ {l : List Nat}, ¬ k ∈ l → valV (l.map fun c => ((Sum.inr (tx [c]) : Key), g c)) (Sum.inr (tx [k])) = none
  | [], _ => rfl
  | c :: r, h => by
    rw [List.map_cons, valV_neg, letV_none fun z => h (List.mem_cons_of_mem _ z)]
    intro e
    have := key_tx.mp e
    injection this with e _
    exact h (e ▸ List.mem_cons_self ..)
theorem letV_some {g : Nat → V} {k : Nat} : ∀ {l : List Nat}, k ∈ l → valV (l.map fun c => ((Sum.inr (tx [c]) : Key), g c)) (Sum.inr (tx [k])) = some (g k)
  | [], h => by cases h
  | c :: r, h => by
    by_cases e : c = k
    · subst e
      rw [List.map_cons, valV_pos rfl]
    · rw [List.map_cons, valV_neg, letV_some ((List.mem_cons.mp h).resolve_left fun z => e z.symm)]
      intro z
      have := key_tx.mp z
      injection this with z _
      exact e z
theorem dget_let {H : Hp} {d : Addr} {g : Nat → V} {k : Nat} {l : List Nat} (h : H d = some (.dK (l.map fun c => ((Sum.inr (tx [c]) : Key), g c)))) (hk : k ∈ l) : DGet H d (.str (tx [k])) (some (g k)) := by
  have e := DGet.k (k := Sum.inr (tx [k])) h
  rw [letV_some hk] at e
  exact e
theorem take_notin {l : List Nat} (h : l.Nodup) {i : Nat} (hi : i < l.length) : ¬ l.getD i 0 ∈ l.take i := by
  intro m
  obtain ⟨j, hj, e⟩ := List.mem_iff_getElem.mp m
  rw [List.length_take] at hj
  rw [List.getElem_take, List.getD_eq_getElem?_getD, List.getElem?_eq_getElem hi] at e
  have := (List.getElem_inj h).mp e
  omega
end Cw
set_option Elab.async false
set_option linter.all false
set_option maxRecDepth 100000
set_option maxHeartbeats 4000000
/-! the same steps, what is to be found asked behind the match -/
namespace Cw
open PySem PySem.Spec L2
section
variable {σ : St} {H : Hp} {Q : VK} {i : Nat} {y : V} {K : PySem.W.Frag}
theorem e_varG (q : ∃ v, σ[i]? = some (some v) ∧ Q v H) : tVar i σ H Q := q
theorem v_lenG {p : Addr} (q : ∃ ys, H p = some (.lst ys) ∧ Q (.int (ys.length : Nat)) H) : rLen K [.ref p] H Q := by
  obtain ⟨ys, h, q⟩ := q
  exact v_len h q
theorem v_inLG {x : List Nat} {p : Addr} (q : ∃ ls : List (List Nat), H p = some (.lst (ls.map fun l => V.str (tx l))) ∧ Q (.bl (decide (x ∈ ls))) H) : rIn K false (.str (tx x)) (.ref p) H Q := by
  obtain ⟨ys, h, q⟩ := q
  exact v_inL h q
theorem v_lenSetG {P : Program} {w : World} {p : Addr} (q : ∃ l : List Str, H p = some (SetT P w p l) ∧ Q (.int (l.length : Nat)) H) : rLenSet P w [.ref p] H Q := by
  obtain ⟨ys, h, q⟩ := q
  exact v_lenSet h q
theorem v_tyLG {P : Prop} {p : Addr} (q : ∃ xs, H p = some (.lst xs) ∧ P) : tyV K "list" (.ref p) H ∧ P := by
  obtain ⟨ys, h, q⟩ := q
  exact v_tyL h q
theorem v_iLG {P : Addr → Prop} {a : Addr} (q : ∃ xs, H a = some (.lst xs) ∧ P a) : ∃ a', V.ref a = .ref a' ∧ (∃ xs, SqL K H a' xs) ∧ P a' := by
  obtain ⟨ys, h, q⟩ := q
  exact v_iL h q
theorem v_dgetG {P : V → Prop} {a : Addr} (q : ∃ v, DGet H a y (some v) ∧ P v) : ∃ a' v, V.ref a = .ref a' ∧ DGet H a' y (some v) ∧ P v := by
  obtain ⟨v, h, q⟩ := q
  exact v_dget h q
end
end Cw
set_option Elab.async false
set_option linter.all false
set_option maxRecDepth 100000
set_option maxHeartbeats 4000000
/-! C(..) as a call with a promise of its own -/
namespace Cw
open PySem PySem.Spec L2
/-- from what a caller wants of C(..) to what __init__ promises -/
def Conv (C : Addr) (sp0 sp : Sp) : Prop := ∀ vs H Q E, sp vs H Q E → ∀ x dx, H x = none → H dx = none → dx ≠ x → sp0 (.ref x :: vs) (upd (upd H dx (.own x)) x (.ins C dx [])) (fun v H2 => v = .non ∧ Q (.ref x) H2) E
structure CDef (P : Program) (w : World) (K : PySem.W.Frag) (mg : Str → Option Value) (base : Heap) (CX : CXT) (k : Nat) (x : Str) (C : Addr) (sp : Sp) : Prop where
  ex : ∃ f fd ps sp0, mg x = some (.ref C) ∧ Mk K C f ∧ Binds K fd ps [] ∧ FnOk P w K mg base CX k f fd ps sp0 ∧ Conv C sp0 sp
section
variable {X : Cx} {CX : CXT} {k : Nat} {sp : Sp} {E : XK} {x : Str} {C : Addr} {p pos : PySem.Pos} {e : Expr} {es : List Expr} {t : TA}
theorem pe_mk (D : CDef X.prog X.w X.K X.mg X.base CX k x C sp) (hr : Room (k + 1) X.A) (hx : Passes CX X E) (ha : PA X (e :: es) t) (hg : Gl X x := by rfl) (hdb : (x == ("__debug__" : Str)) = false := by decide)
    (he : starEach (e :: es) X.env = (false, eval e X.env) :: starEach es X.env := by rfl) (hpl : (backTo pos (starEach es X.env)).any (·.1) = false := by rfl) : PE X (.Call (.Name x p) (e :: es) [] pos) (tCall sp [] E t) := by
  obtain ⟨f, fd, ps, sp0, hm, M, hb, F, cv⟩ := D.ex
  refine ⟨fun pins s σ H Q I h => ?_⟩
  refine wpAny_Call_Name_kw (ld_glob I hg hm ?_ hdb)
  refine PySem.W.callWith_K (h₀ := X.base) I.ok.mod.kin M.kp (thn (ha.run pos pins s σ H _ I h) fun us s1 ⟨vs, H1, I1, r, q⟩ => ⟨I1.kIn, ?_⟩) he hpl
  refine run_make M F hr hb .nil hx I1 r fun a da n1 n2 n3 => ?_
  have q : sp (vs ++ []) H1 Q E := q
  rw [List.append_nil] at q ⊢
  exact cv vs H1 Q E q a da n1 n2 n3
end
/-- a method with defaults, all parameters given -/
structure MAtD (K : PySem.W.Frag) (C : Addr) (m qual : Str) (st : Stmt) (dvs : List V) : Prop where
  ex : ∃ f fd, PySem.W.findIn K (.ref C) m = some (some (.ref f)) ∧ PySem.W.isFn K (.ref f) = true ∧ FunD K m qual (defArgs st) (defBody st) (defScope st) dvs [] f fd
section
variable {P : Program} {w : World} {K : PySem.W.Frag} {mg : Str → Option Value} {base : Heap} {CX : CXT} {k : Nat} {C : Addr} {x qual : Str} {ps N : List Str} {sp sp0 : Sp} {st : Stmt} {dvs : List V}
/-- C(..) by its __init__ -/
structure CMk (P : Program) (w : World) (K : PySem.W.Frag) (mg : Str → Option Value) (base : Heap) (CX : CXT) (k : Nat) (x : Str) (C : Addr) (sp : Sp) (ps : List Str) (qual : Str) (st : Stmt) (dvs : List V) : Prop where
  ex : ∃ f fd sp0, mg x = some (.ref C) ∧ Mk K C f ∧ Binds K fd ps [] ∧ FnOk P w K mg base CX k f fd ps sp0 ∧ Conv C sp0 sp ∧ FunD K "__init__" qual (defArgs st) (defBody st) (defScope st) dvs [] f fd
theorem CMk.cdef (D : CMk P w K mg base CX k x C sp ps qual st dvs) : CDef P w K mg base CX k x C sp := by
  obtain ⟨f, fd, sp0, a, b, c, d, e, _⟩ := D.ex
  exact ⟨f, fd, ps, sp0, a, b, c, d, e⟩
/-- C(..) by its __init__, that lets nothing out; h: how the arguments bind where all are given -/
theorem MAtD.make (F : MAtD K C "__init__" qual st dvs) (cf : ClsF K mg x C) (S : FnScope N ps (defScope st)) (hd : dvs ≠ [])
    (hb : ∀ (T : Addr) (kV doc pm : Value) (an : Option Addr) (cdv ct : Value) (us its : List Value), us.length = ps.length → its.length = dvs.length →
      ∃ k, bindArgs (PySem.W.fnOf "__init__" qual (defArgs st) (defBody st) (defScope st) (.ref T) kV doc pm an cdv ct) ⟨us, []⟩ = seqItems? (.ref T) >>= k ∧ k (some its.toArray) = pure (ps.zip (us ++ its.drop dvs.length)))
    (len : ∀ vs H Q E, sp0 vs H Q E → vs.length = ps.length) (cv : Conv C sp0 sp)
    (hbody : ∀ (f : Addr) (cdv : Value) (A : Around) (outer : List Env) (s : Shared) (H : Hp) (vs : List V) (Q : VK) (E : XK), Room k (A.deeper (PyProof.Rows.envOfC qual (defScope st) s.heap.objs.size f cdv)) → sp0 vs H Q E →
      ∃ t, PSs (cxOf CX0 P w K mg base N qual (defScope st) f cdv A outer s H E).nox (defBody st) t ∧ t { nx := fun _ H' => Q .non H', rt := Q } (start N vs) H) : CMk P w K mg base CX0 (k + 1) x C sp ps qual st dvs := by
  obtain ⟨f, fd, h1, h2, F⟩ := F.ex
  have B : Binds K fd ps [] := by
    obtain ⟨ds, r, b⟩ := F.binds1 (ps := ps) ps.length dvs.length hd (by omega) fun T kV doc pm an cdv ct us its l1 l2 => hb T kV doc pm an cdv ct us its l1 l2
    rw [List.drop_of_length_le (Nat.le_refl _)] at r
    cases r
    exact b
  refine ⟨f, fd, sp0, cf.at, ⟨cf.mks, h1, h2, cf.kp⟩, B, F.ok S len fun cdv A outer s H vs Q E hr h => ?_, cv, F⟩
  obtain ⟨t, a, b⟩ := hbody f cdv A outer s H vs Q E hr h
  exact ⟨t, a.nox, b⟩
theorem CDef.mono {j : Nat} (D : CDef P w K mg base CX j x C sp) (h : j ≤ k) : CDef P w K mg base CX k x C sp := by
  obtain ⟨f, fd, ps, sp0, a, b, c, d, e⟩ := D.ex
  exact ⟨f, fd, ps, sp0, a, b, c, d.mono h, e⟩
end
end Cw
set_option Elab.async false
set_option linter.all false
set_option maxRecDepth 100000
set_option maxHeartbeats 4000000
/-! enumerate(text) -/
namespace Cw
open PySem PySem.Spec L2
def Itx (l : List Nat) : It := ⟨fun i _ => i < l.length, fun i H v H' => ∃ T c, v = .ref T ∧ H T = none ∧ H' = upd H T (.tup [.int (i : Nat), .str (tx [c])]) ∧ l[i]? = some c, fun i _ => l.length ≤ i⟩
def iEnumS (ta : TA) : TI := fun σ H R => ta σ H fun vs H1 => ∃ l : List Nat, vs = [.str (tx l)] ∧ R (Itx l) H1
section
variable {σ : St} {H : Hp}
theorem e_iEnumS {ta : TA} {R : It → Hp → Prop} (q : ta σ H fun vs H1 => ∃ l : List Nat, vs = [.str (tx l)] ∧ R (Itx l) H1) : iEnumS ta σ H R := q
theorem v_iEnumS {P : List Nat → Prop} {l : List Nat} (q : P l) : ∃ l' : List Nat, [V.str (tx l)] = [.str (tx l')] ∧ P l' := ⟨l, rfl, q⟩
end
end Cw
set_option Elab.async false
set_option linter.all false
set_option maxRecDepth 100000
set_option maxHeartbeats 4000000
/-! pairs of a number and a text, compared -/
namespace Cw
open PySem PySem.Spec L2
section
variable {X : Cx} {op : CmpOp} {ri : Int → Int → Bool} {rs : List Nat → List Nat → Bool} {z : Bool}
end
end Cw
set_option Elab.async false
set_option linter.all false
set_option maxRecDepth 100000
set_option maxHeartbeats 4000000
/-! names: one step, as a plain function -/
namespace Cw
open PySem PySem.Spec L2
/-! ### letters at their places -/
section
variable {σ : St} {H : Hp} {tb : TS} {D : Ends} {tt : TT}
theorem g_nm {i : Nat} {v : V} {Q : St → Hp → Prop} (q : Q (σ.set i (some v)) H) : gName i v σ H Q := q
end
section
variable {H : Hp} {Q : VK} {K : PySem.W.Frag} {p q : Addr}
end
end Cw
set_option Elab.async false
set_option linter.all false
set_option maxRecDepth 100000
set_option maxHeartbeats 4000000
/-! errors of one's own without values -/
namespace Cw
open PySem PySem.Spec L2
/-- an error class of the text, down from ValueError, without an __init__ -/
structure ExcF (K : PySem.W.Frag) (mg : Str → Option Value) (x : Str) (C : Addr) : Prop where
  «at» : mg x = some (.ref C)
  exc : PySem.W.excIn K C [.type "ValueError", .type "Exception", .type "BaseException", .type "object"] "ValueError.__new__" = true
  kp : PySem.W.keepIn K (.ref C) = true
  ty : PySem.W.typeIn K (.ref C) = some (.type "type")
  ec : ExcC K C
section
variable {X : Cx} {C : Addr} {x : Str} {p pos : PySem.Pos}
end
theorem v_gTup2 {K : PySem.W.Frag} {n i j : Nat} {σ : St} {H : Hp} {Q : St → Hp → Prop} {p : Addr} {a b : V} (hn : n = 2) (h : H p = some (.tup [a, b])) (q : Q ((σ.set i (some a)).set j (some b)) H) : gTup K n (gCons (gName i) (gCons (gName j) gNil)) (.ref p) σ H Q :=
  ⟨p, _, rfl, SqT.of h, hn.symm, a, [b], rfl, b, [], rfl, rfl, q⟩
theorem e_md {C : Addr} {m : Str} {sp : Sp} {E : XK} {ta : TE} {t : TA} {σ : St} {H : Hp} {Q : VK} (q : ta σ H fun x H1 => ∃ a dx fs, x = .ref a ∧ H1 a = some (.ins C dx fs) ∧ fs.lookup m = none ∧ t σ H1 fun vs H2 => sp (x :: vs) H2 Q E) : tMeth C m sp [] E ta t σ H Q := by
  have e : tMeth C m sp [] E ta t = fun σ H Q => ta σ H fun x H1 => ∃ a dx fs, x = .ref a ∧ H1 a = some (.ins C dx fs) ∧ fs.lookup m = none ∧ t σ H1 fun vs H2 => sp (x :: vs) H2 Q E := by
    unfold tMeth
    simp only [List.append_nil]
  rw [e]
  exact q
/-- a suite that is walked only where q holds -/
theorem pss_given {X : Cx} {b : List Stmt} {t : TS} {q : Prop} (h : q → PSs X b t) : PSs X b (fun D σ H => q ∧ t D σ H) := by
  by_cases e : q
  · exact ⟨fun pins s σ H D I z => (h e).run pins s σ H D I z.2⟩
  · exact ⟨fun pins s σ H D I z => absurd z.1 e⟩
end Cw
set_option Elab.async false
set_option linter.all false
set_option maxRecDepth 100000
set_option maxHeartbeats 4000000
/-! what the laws' own helpers need: copies of dicts, pop, several names at once, walks over dicts -/
namespace Cw
open PySem PySem.Spec L2
section
variable {σ : St} {H : Hp} {Q : VK} {D : Ends} {K : PySem.W.Frag} {X : Cx}
theorem e_par {i j : Nat} {ta : TA} (q : ta σ H fun vs H1 => ∃ v w, vs = [v, w] ∧ D.nx ((σ.set i (some v)).set j (some w)) H1) : tPar i j ta D σ H := q
theorem v_par {v w : V} {P : V → V → Prop} (q : P v w) : ∃ v' w', [v, w] = [v', w'] ∧ P v' w' := ⟨v, w, rfl, q⟩
theorem e_par3 {i j l : Nat} {ta : TA} (q : ta σ H fun vs H1 => ∃ u v w, vs = [u, v, w] ∧ D.nx (((σ.set i (some u)).set j (some v)).set l (some w)) H1) : tPar3 i j l ta D σ H := q
theorem v_par3 {u v w : V} {P : V → V → V → Prop} (q : P u v w) : ∃ u' v' w', [u, v, w] = [u', v', w'] ∧ P u' v' w' := ⟨u, v, w, rfl, q⟩
theorem e_iK {td : TE} {R : It → Hp → Prop} (q : td σ H fun x H1 => ∃ d o, x = .ref d ∧ ((∃ kvs, H1 d = some (.frz o (.dK kvs)) ∧ R (Itk d o kvs) H1) ∨ ∃ kvs, H1 d = some (.frz o (.dT kvs)) ∧ R (Itkt d o kvs) H1)) : iKeys td σ H R := q
theorem e_dnotin {ty td : TE} (q : ty σ H fun y H1 => td σ H1 fun x H2 => ∃ a o, x = .ref a ∧ DGet H2 a y o ∧ Q (.bl (!o.isSome)) H2) : tDNotIn ty td σ H Q := q
end
/-! ### tables by letters -/
structure Tab (ls : List Nat) (f : Nat → List Nat) : Prop where
  nd : ls.Nodup
  lt : ∀ c ∈ ls, c ∈ LET
  len : ls.length ≤ 8
  sub : ∀ a ∈ ls, ∀ b ∈ f a, b ∈ ls ∧ b ≠ a ∧ a ∈ f b
  gl : ∀ a ∈ ls, (f a).length ≤ 8
end Cw
set_option Elab.async false
set_option linter.all false
set_option maxRecDepth 100000
set_option maxHeartbeats 4000000
/-! the drawn tables, in plain words -/
namespace Cw
open PySem PySem.Spec L2
def ABC : List (List Nat) := [[97, 98, 99, 100, 101, 102, 103, 104], [98, 100, 102, 104, 106, 108, 110, 112], [115, 116, 117, 118, 119, 120, 121, 122]]
def addRel (rel : Nat → Nat → Bool) (x y : Nat) : Nat → Nat → Bool := fun a b => rel a b || (a == x && b == y) || (a == y && b == x)
/-- which kinds cross: both ways, never with itself, kinds alone -/
structure RelOk (ls : List Nat) (rel : Nat → Nat → Bool) : Prop where
  sym : ∀ a b, rel a b = rel b a
  «in» : ∀ a b, rel a b = true → a ∈ ls ∧ b ∈ ls ∧ a ≠ b
/-- only pairs up to here -/
def Upto (ls : List Nat) (rel : Nat → Nat → Bool) (i j : Nat) : Prop := ∀ i1 j1, i1 < j1 → j1 < ls.length → rel (ls.getD i1 0) (ls.getD j1 0) = true → i1 < i ∨ (i1 = i ∧ j1 < j)
def crossBy (ls : List Nat) (rel : Nat → Nat → Bool) (c : Nat) : List Nat := ls.filter (rel c)
theorem getD_inj {ls : List Nat} (h : ls.Nodup) {i j : Nat} (hi : i < ls.length) (hj : j < ls.length) (e : ls.getD i 0 = ls.getD j 0) : i = j := by
  rw [List.getD_eq_getElem?_getD, List.getD_eq_getElem?_getD, List.getElem?_eq_getElem hi, List.getElem?_eq_getElem hj] at e
  exact (List.getElem_inj h).mp e
section
variable {ls : List Nat} {rel : Nat → Nat → Bool} {i j : Nat}
theorem RelOk.add (ok : RelOk ls rel) {x y : Nat} (hx : x ∈ ls) (hy : y ∈ ls) (ne : x ≠ y) : RelOk ls (addRel rel x y) where
  sym a b := by
    unfold addRel
    rw [ok.sym a b, Bool.or_assoc, Bool.or_assoc]
    congr 1
    rw [Bool.or_comm, Bool.and_comm, Bool.and_comm (a == x)]
  «in» a b h := by
    unfold addRel at h
    simp only [Bool.or_eq_true, Bool.and_eq_true, beq_iff_eq] at h
    rcases h with (h | ⟨rfl, rfl⟩) | ⟨rfl, rfl⟩
    · exact ok.in a b h
    · exact ⟨hx, hy, ne⟩
    · exact ⟨hy, hx, ne.symm⟩
theorem Upto.add (hn : ls.Nodup) (hij : i < j) (hj : j < ls.length) (up : Upto ls rel i j) : Upto ls (addRel rel (ls.getD i 0) (ls.getD j 0)) i (j + 1) := by
  intro i1 j1 h1 h2 h3
  unfold addRel at h3
  simp only [Bool.or_eq_true, Bool.and_eq_true, beq_iff_eq] at h3
  rcases h3 with (h | ⟨h4, h5⟩) | ⟨h4, h5⟩
  · have := up i1 j1 h1 h2 h
    omega
  · have a := getD_inj hn (by omega) (by omega) h4
    have b := getD_inj hn h2 hj h5
    omega
  · have a := getD_inj hn (by omega) hj h4
    have b := getD_inj hn h2 (by omega) h5
    omega
theorem Upto.more (up : Upto ls rel i j) : Upto ls rel i (j + 1) := fun i1 j1 h1 h2 h3 => by
  have := up i1 j1 h1 h2 h3
  omega
end
theorem walk_rI {lo : Int} {n : Nat} (f : Nat → Int) (h : ∀ k : Nat, lo + (k : Int) = f k) : Walk (Itr lo n) n (fun _ => True) (YFn fun k => .int (f k)) :=
  walk_range.mono (fun _ h => h) fun i H x H' _ _ y => ⟨y.1, by show x = V.int (f i); rw [← h i]; exact y.2⟩
theorem at_getD {ls : List Nat} {i : Nat} (h : i < ls.length) : atI ls ((i : Nat) : Int) = some (ls.getD i 0) := by
  refine atI_nat ?_
  rw [List.getD_eq_getElem?_getD, List.getElem?_eq_getElem h]
  rfl
theorem ascOf_congr {a b : List Nat} (h : ∀ c, c ∈ a ↔ c ∈ b) : ascOf a = ascOf b := by
  unfold ascOf
  exact List.filter_congr fun c _ => decide_eq_decide.mpr (h c)
/-- a drawn table: a beginning of one of the three texts -/
structure Flr (num : Nat) (ls : List Nat) (rel : Nat → Nat → Bool) : Prop where
  cut : ∃ t ∈ ABC, ∃ m, 1 ≤ m ∧ m ≤ num ∧ ls = t.take m
  ok : RelOk ls rel
theorem abc_ok : ∀ t ∈ ABC, t.Nodup ∧ (∀ c ∈ t, c ∈ LET) ∧ t.length = 8 ∧ t.Pairwise (· < ·) := by decide +kernel
section
variable {num : Nat} {ls : List Nat} {rel : Nat → Nat → Bool}
theorem cut_nd (h : ∃ t ∈ ABC, ∃ m, 1 ≤ m ∧ m ≤ num ∧ ls = t.take m) : ls.Nodup := by
  obtain ⟨t, ht, m, h1, h2, rfl⟩ := h
  exact (List.take_sublist m t).nodup (abc_ok t ht).1
theorem cut_lt (h : ∃ t ∈ ABC, ∃ m, 1 ≤ m ∧ m ≤ num ∧ ls = t.take m) : ∀ c ∈ ls, c ∈ LET := by
  obtain ⟨t, ht, m, h1, h2, rfl⟩ := h
  exact fun c hc => (abc_ok t ht).2.1 c ((List.take_sublist m t).subset hc)
theorem cut_len (h : ∃ t ∈ ABC, ∃ m, 1 ≤ m ∧ m ≤ num ∧ ls = t.take m) : ls.length ≤ 8 ∧ ls.length ≤ num ∧ 1 ≤ ls.length := by
  obtain ⟨t, ht, m, h1, h2, rfl⟩ := h
  have := (abc_ok t ht).2.2.1
  rw [List.length_take]
  omega
theorem cut_lt' (h : ∃ t ∈ ABC, ∃ m, 1 ≤ m ∧ m ≤ num ∧ ls = t.take m) : ls.Pairwise (· < ·) := by
  obtain ⟨t, ht, m, h1, h2, rfl⟩ := h
  exact List.Pairwise.sublist (List.take_sublist m t) (abc_ok t ht).2.2.2
theorem Flr.tab (h : Flr num ls rel) : Tab ls (crossBy ls rel) where
  nd := cut_nd h.cut
  lt := cut_lt h.cut
  len := (cut_len h.cut).1
  sub a ha b hb := by
    obtain ⟨h1, h2⟩ := List.mem_filter.mp hb
    refine ⟨h1, (h.ok.in a b h2).2.2.symm, List.mem_filter.mpr ⟨ha, ?_⟩⟩
    rw [h.ok.sym]
    exact h2
  gl a ha := Nat.le_trans (List.length_filter_le _ _) (cut_len h.cut).1
end
end Cw
set_option Elab.async false
set_option linter.all false
set_option maxRecDepth 100000
set_option maxHeartbeats 4000000
/-! calls within a try; calls that raise nothing after all -/
namespace Cw
open PySem PySem.Spec L2
section
variable {P : Program} {w : World} {K : PySem.W.Frag} {mg : Str → Option Value} {base : Heap} {k : Nat} {f : Addr} {fd : FuncData} {ps : List Str} {sp : Sp}
/-- a promise whose wishes for errors are none -/
def calmOf (sp : Sp) : Sp := fun vs H Q _ => sp vs H Q fun _ _ _ => False
theorem calm_fn (F : FnOk P w K mg base (L2.CX P w) k f fd ps sp) : FnOk P w K mg base CX0 k f fd ps (calmOf sp) := by
  refine ⟨fun vs H Q E h => F.len _ _ _ _ h, fun A outer s H args us vs Q E hr e0 hb hv h => ?_⟩
  refine codeAny_mono (F.run A outer s H args us vs Q (fun _ _ _ => False) hr e0 hb hv h) fun r s' q => ?_
  cases r with
  | ok fl => cases fl <;> exact q
  | error e =>
    obtain ⟨a, B, H', cls, d, _, _, _, _, _, _, _, z⟩ := q
    exact z.elim
theorem Def.calm {x : Str} (D : Def P w K mg base (L2.CX P w) k x ps sp) : Def P w K mg base CX0 k x ps (calmOf sp) := by
  obtain ⟨f, fd, a, b, c, d⟩ := D.ex
  exact ⟨f, fd, a, b, c, calm_fn d⟩
theorem MDef.calm {C : Addr} {m : Str} (D : MDef P w K mg base (L2.CX P w) k C m ps sp) : MDef P w K mg base CX0 k C m ps (calmOf sp) := by
  obtain ⟨f, fd, a, b, c, d, e⟩ := D.ex
  exact ⟨f, fd, a, b, c, d, calm_fn e⟩
end
section
variable {X : Cx} {CX : CXT} {k : Nat} {C : Addr} {x m : Str} {ps : List Str} {sp : Sp} {E : St → XK} {p pos apos : PySem.Pos} {o e : Expr} {es : List Expr} {ta : TE} {t : TA}
def tMethS (C : Addr) (m : Str) (sp : Sp) (E : St → XK) (ta : TE) (t : TA) : TE := fun σ H Q => ta σ H fun x H1 => ∃ a dx fs, x = .ref a ∧ H1 a = some (.ins C dx fs) ∧ fs.lookup m = none ∧ t σ H1 fun vs H2 => sp (x :: vs) H2 Q (E σ)
end
/-- a try with one clause, its reading by name -/
def tTryA (K : PySem.W.Frag) (c : Value) (i : Nat) (ts : Addr → Value → Option Addr → TS) (Wout : WX) (tb : WX → TS) : TS := fun D σ H => tb (wAs K c i ts Wout D) D σ H
theorem e_tryA {K : PySem.W.Frag} {c : Value} {i : Nat} {ts : Addr → Value → Option Addr → TS} {Wout : WX} {tb : WX → TS} {D : Ends} {σ : St} {H : Hp} (q : tb (wAs K c i ts Wout D) D σ H) : tTryA K c i ts Wout tb D σ H := q
section
variable {σ : St} {H : Hp} {Q : VK} {C : Addr} {m : Str} {sp : Sp} {E : St → XK} {ta : TE} {t : TA}
theorem e_callS (q : t σ H fun vs H1 => sp vs H1 Q (E σ)) : tCallS sp E t σ H Q := q
theorem e_mdS (q : ta σ H fun x H1 => ∃ a dx fs, x = .ref a ∧ H1 a = some (.ins C dx fs) ∧ fs.lookup m = none ∧ t σ H1 fun vs H2 => sp (x :: vs) H2 Q (E σ)) : tMethS C m sp E ta t σ H Q := q
end
theorem s_asgT {te : TE} {K : PySem.W.Frag} {n : Nat} {t : TGs} {D : Ends} {σ : St} {H : Hp} (q : te σ H fun v H1 => gTup K n t v σ H1 fun σ' H' => D.nx σ' H') : tAsg te (gTup K n t) D σ H := q
theorem e_pr {tk tv : TE} {r : List (TE × TE)} {σ : St} {H : Hp} {Q : List (V × V) → Hp → Prop} (q : tk σ H fun x H1 => tv σ H1 fun y H2 => tPairs r σ H2 fun ps H3 => Q ((x, y) :: ps) H3) : tPairs ((tk, tv) :: r) σ H Q := q
theorem e_pr0 {σ : St} {H : Hp} {Q : List (V × V) → Hp → Prop} (q : Q [] H) : tPairs [] σ H Q := q
theorem e_disp {trs : List (TE × TE)} {σ : St} {H : Hp} {Q : VK} (q : ∀ p, H p = none → tPairs trs σ (upd H p (.dK [])) fun ps H2 => H2 p = some (.dK []) ∧ ∃ kvs : List (Key × V), ps = kvs.map (fun kv => (kV kv.1, kv.2)) ∧ kvs.length ≤ 15 ∧ Q (.ref p) (upd H2 p (.dK (mergeK [] kvs)))) : tDisp trs σ H Q := q
theorem sqL_same {K : PySem.W.Frag} {H H' : Hp} {a : Addr} {xs : List V} (h : SqL K H a xs) (s : Same H H') : SqL K H' a xs := by
  rcases h with (h | ⟨o, h⟩) | h
  · exact .inl (.inl (s _ _ h))
  · exact .inl (.inr ⟨o, s _ _ h⟩)
  · exact .inr h
theorem v_slL {K : PySem.W.Frag} {H : Hp} {Q : VK} {a : Addr} {xs : List V} {lo hi : Option Int} (h : SqL K H a xs) (q : ∀ p H', H p = none → Same H H' → H' p = some (.lst (cutV xs lo hi)) → Q (.ref p) H') : rSlL K (.ref a) lo hi H Q := ⟨a, xs, rfl, h, fun p hp => q p _ hp (Same.new hp) upd_same⟩
end Cw
set_option Elab.async false
set_option linter.all false
set_option maxRecDepth 100000
set_option maxHeartbeats 4000000
/-! plans that are not equal, in plain words -/
namespace Cw
open PySem PySem.Spec L2
/-- the end of a body, by a name: smaller goals -/
theorem s_hide {t : TS} {D0 : Ends} {σ : St} {H : Hp} (h : ∀ D : Ends, (∀ σ H, D0.nx σ H → D.nx σ H) → t D σ H) : t D0 σ H := h D0 fun _ _ z => z
theorem pairsOf_nodup (f : List (List Nat)) : (pairsOf f).Nodup := by
  have h : ∀ l : List Nat, l.Nodup → (l.flatMap fun a => (LET.filter fun b => decide ([a, b] ∈ f)).map fun b => [a, b]).Nodup := by
    intro l
    induction l with
    | nil => intro _; exact List.nodup_nil
    | cons c r ih =>
      intro hn
      rw [List.nodup_cons] at hn
      rw [List.flatMap_cons, List.nodup_append]
      refine ⟨?_, ih hn.2, ?_⟩
      · have : (LET.filter fun b => decide ([c, b] ∈ f)).Nodup := (LET_nodup.filter fun b => decide ([c, b] ∈ f))
        generalize LET.filter (fun b => decide ([c, b] ∈ f)) = m at this ⊢
        induction m with
        | nil => exact List.nodup_nil
        | cons x y ih2 =>
          rw [List.nodup_cons] at this
          rw [List.map_cons, List.nodup_cons]
          refine ⟨?_, ih2 this.2⟩
          intro z
          obtain ⟨w, hw, e⟩ := List.mem_map.mp z
          injection e with _ e
          injection e with e
          exact this.1 (e ▸ hw)
      · intro p hp q hq e
        subst e
        obtain ⟨b, _, e1⟩ := List.mem_map.mp hp
        obtain ⟨a, ha, hm⟩ := List.mem_flatMap.mp hq
        obtain ⟨b', _, e2⟩ := List.mem_map.mp hm
        have e3 := e1.trans e2.symm
        injection e3 with e3
        exact hn.1 (e3 ▸ ha)
  exact h LET LET_nodup
section
variable {K : PySem.W.Frag} {H : Hp} {Q : VK} {p q : Addr} {n m : Int} {a b : List Nat}
end
end Cw
set_option Elab.async false
set_option linter.all false
set_option maxRecDepth 100000
set_option maxHeartbeats 4000000
/-! calls with keywords and with defaults, by where each parameter comes from -/
namespace Cw
open PySem PySem.Spec L2
/-- a parameter's value: the i-th that is given, a default, a keyword's -/
inductive Src where
  | pos (i : Nat)
  | dfl (i : Nat)
  | kw (i : Nat)
def Src.up : Src → Src
  | .pos i => .pos (i + 1)
  | .dfl i => .dfl i
  | .kw i => .kw i
def getS {α : Type} (us its ws : List α) : Src → Option α
  | .pos i => us[i]?
  | .dfl i => its[i]?
  | .kw i => ws[i]?
def gS (ss : List Src) {α : Type} (us its ws : List α) : List α := ss.filterMap (getS us its ws)
theorem vals_get : ∀ {vs : List V} {us : List Value}, Vals vs us → ∀ i : Nat, (vs[i]? = none ∧ us[i]? = none) ∨ ∃ v u, vs[i]? = some v ∧ us[i]? = some u ∧ RelV v u
  | _, _, .nil, i => .inl ⟨rfl, rfl⟩
  | _, _, .cons r t, 0 => .inr ⟨_, _, rfl, rfl, r⟩
  | _, _, .cons r t, i + 1 => by
    have := vals_get t i
    simpa using this
theorem gS_rel {vs ds zs : List V} {us its ws : List Value} (r1 : Vals vs us) (r2 : Vals ds its) (r3 : Vals zs ws) : ∀ ss : List Src, Vals (gS ss vs ds zs) (gS ss us its ws)
  | [] => .nil
  | s :: ss => by
    have ih := gS_rel r1 r2 r3 ss
    have key : (getS vs ds zs s = none ∧ getS us its ws s = none) ∨ ∃ v u, getS vs ds zs s = some v ∧ getS us its ws s = some u ∧ RelV v u := by
      cases s with
      | pos i => exact vals_get r1 i
      | dfl i => exact vals_get r2 i
      | kw i => exact vals_get r3 i
    unfold gS at ih ⊢
    rcases key with ⟨a, b⟩ | ⟨v, u, a, b, r⟩
    · rw [List.filterMap_cons_none a, List.filterMap_cons_none b]
      exact ih
    · rw [List.filterMap_cons_some a, List.filterMap_cons_some b]
      exact .cons r ih
theorem gS_up {α : Type} {x : α} {vs ds zs : List α} : ∀ ss : List Src, gS (.pos 0 :: ss.map Src.up) (x :: vs) ds zs = x :: gS ss vs ds zs := by
  intro ss
  unfold gS
  rw [List.filterMap_cons_some (show getS (x :: vs) ds zs (.pos 0) = some x from rfl), List.filterMap_map]
  congr 1
  congr 1
  funext s
  cases s <;> rfl
/-- how a call binds its n values and its keywords ks -/
abbrev KB (K : PySem.W.Frag) (fd : FuncData) (ps : List Str) (n : Nat) (ks : List Str) (ss : List Src) (dvs : List V) : Prop := ∃ g, KBn K fd ps n ks g (fun vs zs => gS ss vs dvs zs)
section
variable {K : PySem.W.Frag} {x qual : Str} {params : Arguments} {body : List Stmt} {scope : Scope} {dvs : List V} {f : Addr} {fd : FuncData} {ps : List Str}
theorem FunD.kb (F : FunD K x qual params body scope dvs [] f fd) (n : Nat) (ks : List Str) (ss : List Src) (hd : dvs ≠ [])
    (h : ∀ (T : Addr) (kV doc pm : Value) (an : Option Addr) (cdv ct : Value) (us its ws : List Value), us.length = n → its.length = dvs.length → ws.length = ks.length →
      ∃ k, bindArgs (PySem.W.fnOf x qual params body scope (.ref T) kV doc pm an cdv ct) ⟨us, ks.zip ws⟩ = seqItems? (.ref T) >>= k ∧ k (some its.toArray) = pure (ps.zip (gS ss us its ws))) : KB K fd ps n ks ss dvs := by
  obtain ⟨its, b⟩ := F.kbindsD (ps := ps) n ks (fun {_} vs ds zs => gS ss vs ds zs) hd (fun r1 r2 r3 => gS_rel r1 r2 r3 ss) h
  exact ⟨_, b⟩
end
/-- C(..) by n values and the keywords ks -/
structure CDefN (P : Program) (w : World) (K : PySem.W.Frag) (mg : Str → Option Value) (base : Heap) (CX : CXT) (k : Nat) (x : Str) (C : Addr) (sp : Sp) (n : Nat) (ks : List Str) (ss : List Src) (dvs : List V) : Prop where
  ex : ∃ f fd ps sp0, mg x = some (.ref C) ∧ Mk K C f ∧ KB K fd ps (n + 1) ks (.pos 0 :: ss.map Src.up) dvs ∧ FnOk P w K mg base CX k f fd ps sp0 ∧ Conv C sp0 sp
/-- the reading of such a call -/
def tCN (sp : Sp) (n m : Nat) (ss : List Src) (dvs : List V) (E : XK) (t tk : TA) : TE := fun σ H Q => t σ H fun vs H1 => tk σ H1 fun zs H2 => vs.length = n ∧ zs.length = m ∧ sp (gS ss vs dvs zs) H2 Q E
section
variable {P : Program} {w : World} {K : PySem.W.Frag} {mg : Str → Option Value} {base : Heap} {CX : CXT} {k : Nat} {C : Addr} {x qual : Str} {sp : Sp} {st : Stmt} {dvs : List V} {n : Nat} {ks : List Str} {ss : List Src}
theorem CDefN.mono {j : Nat} (D : CDefN P w K mg base CX j x C sp n ks ss dvs) (h : j ≤ k) : CDefN P w K mg base CX k x C sp n ks ss dvs := by
  obtain ⟨f, fd, ps, sp0, a, b, c, d, e⟩ := D.ex
  exact ⟨f, fd, ps, sp0, a, b, c, d.mono h, e⟩
theorem CMk.kw {ps : List Str} (D : CMk P w K mg base CX k x C sp ps qual st dvs) (n : Nat) (ks : List Str) (ss : List Src) (hd : dvs ≠ [])
    (h : ∀ (T : Addr) (kV doc pm : Value) (an : Option Addr) (cdv ct : Value) (us its ws : List Value), us.length = n + 1 → its.length = dvs.length → ws.length = ks.length →
      ∃ k, bindArgs (PySem.W.fnOf "__init__" qual (defArgs st) (defBody st) (defScope st) (.ref T) kV doc pm an cdv ct) ⟨us, ks.zip ws⟩ = seqItems? (.ref T) >>= k ∧ k (some its.toArray) = pure (ps.zip (gS (.pos 0 :: ss.map Src.up) us its ws))) : CDefN P w K mg base CX k x C sp n ks ss dvs := by
  obtain ⟨f, fd, sp0, a, b, c, d, e, G⟩ := D.ex
  exact ⟨f, fd, ps, sp0, a, b, FunD.kb G (n + 1) ks _ hd h, d, e⟩
end
section
variable {X : Cx} {CX : CXT} {k n : Nat} {sp : Sp} {E : XK} {x : Str} {C : Addr} {p pos : PySem.Pos} {e : Expr} {es : List Expr} {kws : List Keyword} {t tk : TA} {ks : List Str} {ss : List Src} {dvs : List V}
theorem run_mkN {pins : List (Addr × Obj)} {σ : St} {H : Hp} {s : Shared} {Q : VK} {us ws : List Value} {vs zs : List V} {f : Addr} {fd : FuncData} {ps : List Str} {sp0 : Sp} {g : List Value → List Value → List Value} (M : Mk X.K C f) (F : FnOk X.prog X.w X.K X.mg X.base CX k f fd ps sp0) (cv : Conv C sp0 sp) (hr : Room (k + 1) X.A) (hb : KBn X.K fd ps (n + 1) ks g (fun vs zs => gS (.pos 0 :: ss.map Src.up) vs dvs zs))
    (hx : Passes CX X E) (I : Inv X pins σ H s) (r : Vals vs us) (rz : Vals zs ws) (l1 : vs.length = n) (l2 : zs.length = ks.length) (h : sp (gS ss vs dvs zs) H Q E) :
    wpAny (model X.prog X.w) X.A (call (.ref C) us (ks.zip ws)) (EP X pins σ Q) X.xe s := by
  refine run_makeN M F hr hb hx I r rz l1 l2 fun a da n1 n2 n3 => ?_
  rw [gS_up]
  exact cv _ H Q E h a da n1 n2 n3
theorem pe_mkN (D : CDefN X.prog X.w X.K X.mg X.base CX k x C sp n ks ss dvs) (hr : Room (k + 1) X.A) (hx : Passes CX X E) (ha : PA X (e :: es) t) (hkw : PK X kws tk) (hg : Gl X x := by rfl)
    (hall : (backToKw pos (keywordEach kws X.env)).all (·.1.isSome) = true := by rfl) (hks : (backToKw pos (keywordEach kws X.env)).filterMap (·.1) = ks := by rfl)
    (hdb : (x == ("__debug__" : Str)) = false := by decide) (he : starEach (e :: es) X.env = (false, eval e X.env) :: starEach es X.env := by rfl)
    (hpl : ((backTo pos (starEach (e :: es) X.env)).any (·.1) || (backToKw pos (keywordEach kws X.env)).any (·.1.isNone)) = false := by rfl) :
    PE X (.Call (.Name x p) (e :: es) kws pos) (tCN sp n ks.length ss dvs E t tk) := by
  obtain ⟨f, fd, ps, sp0, a, M, ⟨g, kb⟩, F, cv⟩ := D.ex
  refine ⟨fun pins s σ H Q I h => ?_⟩
  refine wpAny_Call_Name_kw (ld_glob I hg a ?_ hdb)
  refine PySem.W.callWith_KW (h₀ := X.base) I.ok.mod.kin M.kp hall (thn (ha.run pos pins s σ H _ I h) fun us s1 ⟨vs, H1, I1, r, q⟩ => ?_) hpl he
  refine thn (hkw.run pos pins s1 σ H1 _ I1 q) fun ws s2 ⟨zs, H2, I2, rz, l1, l2, q2⟩ => ⟨I2.kIn, ?_⟩
  rw [hks]
  exact run_mkN M F cv hr kb hx I2 r rz l1 l2 q2
end
/-! ### defs and methods by keywords -/
structure DefN (P : Program) (w : World) (K : PySem.W.Frag) (mg : Str → Option Value) (base : Heap) (CX : CXT) (k : Nat) (x : Str) (sp : Sp) (n : Nat) (ks : List Str) (ss : List Src) (dvs : List V) : Prop where
  ex : ∃ f fd ps, mg x = some (.ref f) ∧ PySem.W.keepIn K (.ref f) = true ∧ KB K fd ps n ks ss dvs ∧ FnOk P w K mg base CX k f fd ps sp
structure MDefN (P : Program) (w : World) (K : PySem.W.Frag) (mg : Str → Option Value) (base : Heap) (CX : CXT) (k : Nat) (C : Addr) (m : Str) (sp : Sp) (n : Nat) (ks : List Str) (ss : List Src) (dvs : List V) : Prop where
  ex : ∃ f fd ps, PySem.W.findIn K (.ref C) m = some (some (.ref f)) ∧ PySem.W.isFn K (.ref f) = true ∧ PySem.W.keepIn K (.ref f) = true ∧ KB K fd ps (n + 1) ks (.pos 0 :: ss.map Src.up) dvs ∧ FnOk P w K mg base CX k f fd ps sp
section
variable {P : Program} {w : World} {K : PySem.W.Frag} {mg : Str → Option Value} {base : Heap} {CX : CXT} {k : Nat} {C : Addr} {x m qual : Str} {sp : Sp} {st : Stmt} {dvs : List V} {n : Nat} {ks ps : List Str} {ss : List Src}
theorem DefN.mono {j : Nat} (D : DefN P w K mg base CX j x sp n ks ss dvs) (h : j ≤ k) : DefN P w K mg base CX k x sp n ks ss dvs := by
  obtain ⟨f, fd, ps, a, b, c, d⟩ := D.ex
  exact ⟨f, fd, ps, a, b, c, d.mono h⟩
theorem MDefN.mono {j : Nat} (D : MDefN P w K mg base CX j C m sp n ks ss dvs) (h : j ≤ k) : MDefN P w K mg base CX k C m sp n ks ss dvs := by
  obtain ⟨f, fd, ps, a, b, c, d, e⟩ := D.ex
  exact ⟨f, fd, ps, a, b, c, d, e.mono h⟩
theorem kb_of {fd : FuncData} (h : ∀ us ws : List Value, us.length = n → ws.length = ks.length → bindArgs fd ⟨us, ks.zip ws⟩ = pure (ps.zip (gS ss us [] ws))) : KB K fd ps n ks ss [] :=
  ⟨fun us ws => gS ss us [] ws, ⟨fun s us ws _ l1 l2 => .of_eq (h us ws l1 l2), fun r1 r2 => gS_rel r1 .nil r2 ss⟩⟩
theorem fd_eq {f : Addr} {fd fd' : FuncData} (h : ∃ oc od osl, K.lookup f = some ⟨oc, od, .func fd, osl⟩) (h' : ∃ oc od osl, K.lookup f = some ⟨oc, od, .func fd', osl⟩) : fd = fd' := by
  obtain ⟨_, _, _, h⟩ := h
  obtain ⟨_, _, _, h'⟩ := h'
  rw [h] at h'
  injection h' with h'
  injection h' with _ _ h' _
  injection h'
theorem Def.kw (D : Def P w K mg base CX k x ps sp) (F : FnAt K mg x st) (n : Nat) (ks : List Str) (ss : List Src)
    (h : ∀ (kV doc pm : Value) (an : Option Addr) (cdv ct : Value) (us ws : List Value), us.length = n → ws.length = ks.length → bindArgs (PySem.W.fnOf x x (defArgs st) (defBody st) (defScope st) .none kV doc pm an cdv ct) ⟨us, ks.zip ws⟩ = pure (ps.zip (gS ss us [] ws))) : DefN P w K mg base CX k x sp n ks ss [] := by
  obtain ⟨f, fd, a, b, c, d⟩ := D.ex
  obtain ⟨f', fd', a', G⟩ := F.ex
  rw [a] at a'
  injection a' with a'
  injection a' with a'
  subst a'
  have e := fd_eq c.lk (funLk G)
  subst e
  refine ⟨f, fd, ps, a, b, ?_, d⟩
  obtain ⟨oc, od, kV, doc, pm, an, cdv, ct, osl, rfl, _⟩ := G.ex
  exact kb_of (h kV doc pm an cdv ct)
theorem MDef.kw (D : MDef P w K mg base CX k C m ps sp) (F : MAt K C m qual st) (n : Nat) (ks : List Str) (ss : List Src)
    (h : ∀ (kV doc pm : Value) (an : Option Addr) (cdv ct : Value) (us ws : List Value), us.length = n + 1 → ws.length = ks.length → bindArgs (PySem.W.fnOf m qual (defArgs st) (defBody st) (defScope st) .none kV doc pm an cdv ct) ⟨us, ks.zip ws⟩ = pure (ps.zip (gS (.pos 0 :: ss.map Src.up) us [] ws))) : MDefN P w K mg base CX k C m sp n ks ss [] := by
  obtain ⟨f, fd, a, b, kp, c, d⟩ := D.ex
  obtain ⟨f', fd', a', b', G⟩ := F.ex
  rw [a] at a'
  injection a' with a'
  injection a' with a'
  injection a' with a'
  subst a'
  have e := fd_eq c.lk (funLk G)
  subst e
  refine ⟨f, fd, ps, a, b, kp, ?_, d⟩
  obtain ⟨oc, od, kV, doc, pm, an, cdv, ct, osl, rfl, _⟩ := G.ex
  exact kb_of (h kV doc pm an cdv ct)
end
section
variable {X : Cx} {CX : CXT} {k n : Nat} {sp : Sp} {E : XK} {x m : Str} {C : Addr} {p pos apos : PySem.Pos} {o e : Expr} {es : List Expr} {kws : List Keyword} {ta : TE} {t tk : TA} {ks : List Str} {ss : List Src} {dvs : List V}
end
section
variable {X : Cx} {CX : CXT} {k : Nat} {C : Addr} {m : Str} {ps : List Str} {sp : Sp} {E : XK} {pos apos : PySem.Pos} {o : Expr} {ta : TE}
end
section
variable {σ : St} {H : Hp} {Q : VK}
theorem e_CN {sp : Sp} {n m : Nat} {ss : List Src} {dvs : List V} {E : XK} {t tk : TA} (q : t σ H fun vs H1 => tk σ H1 fun zs H2 => vs.length = n ∧ zs.length = m ∧ sp (gS ss vs dvs zs) H2 Q E) : tCN sp n m ss dvs E t tk σ H Q := q
end
end Cw
set_option Elab.async false
set_option linter.all false
set_option maxRecDepth 100000
set_option maxHeartbeats 4000000
/-! names in plain words: no letter stands behind a greater or an equal one that it could be exchanged back to -/
namespace Cw
structure CrOk (cr : Nat → List Nat) : Prop where
  sym : ∀ a b, a ∈ cr b → b ∈ cr a
  irr : ∀ a, ¬ a ∈ cr a
/-- s may stand behind the letters of the list (the nearest first) -/
def okAt (cr : Nat → List Nat) (s : Nat) : List Nat → Prop
  | [] => True
  | t :: r => t ≠ s ∧ (t ∈ cr s → t < s ∧ okAt cr s r)
/-- a name, its last letter first -/
def NFr (cr : Nat → List Nat) : List Nat → Prop
  | [] => True
  | s :: r => okAt cr s r ∧ NFr cr r
def NF (cr : Nat → List Nat) (w : List Nat) : Prop := NFr cr w.reverse
section
variable {cr : Nat → List Nat} {s k x : Nat} {d e : List Nat}
theorem okAt_app : ∀ {q : List Nat}, okAt cr s (q ++ e) → (∀ y ∈ q, y ∈ cr s) → okAt cr s e
  | [], h, _ => h
  | y :: q, h, hq => okAt_app (q := q) (h.2 (hq y (List.mem_cons_self ..))).2 fun z hz => hq z (List.mem_cons_of_mem _ hz)
theorem NFr_right : ∀ {a b : List Nat}, NFr cr (a ++ b) → NFr cr b
  | [], _, h => h
  | _ :: a, b, h => NFr_right (a := a) h.2
/-! ### what a step does -/
end
/-! ### ways -/
section
variable {cr : Nat → List Nat}
/-- the same by any two letters -/
theorem NF.two {w : List Nat} (h : NF cr w) {p q r : List Nat} {t s : Nat} (e : w = p ++ t :: (q ++ s :: r)) (hq : ∀ y ∈ q, y ∈ cr s) : t ≠ s ∧ (t ∈ cr s → t < s) := by
  unfold NF at h
  have e2 : w.reverse = r.reverse ++ s :: (q.reverse ++ t :: p.reverse) := by rw [e]; simp
  rw [e2] at h
  have h1 := (NFr_right h).1
  have h2 := okAt_app h1 fun y hy => hq y (List.mem_reverse.mp hy)
  exact ⟨h2.1, fun z => (h2.2 z).1⟩
end
end Cw
set_option Elab.async false
set_option linter.all false
set_option maxRecDepth 100000
set_option maxHeartbeats 4000000
/-! the vectors of the laws, in plain words -/
namespace Cw
/-- one coordinate of the marks, behind the door d -/
def thr (cr : Nat → List Nat) (d : Nat) (f : Nat → Int) : Nat → Int := fun e => if e = d then - f d else if e ∈ cr d then f e else f e + 2 * f d
/-- the first letter of the list is the last door -/
def act (cr : Nat → List Nat) (w : List Nat) (f : Nat → Int) : Nat → Int := w.foldr (thr cr) f
def unit (x : Nat) : Nat → Int := fun e => if e = x then 1 else 0
section
variable {cr : Nat → List Nat} {a b d e k : Nat} {f : Nat → Int} {w : List Nat}
/-! ### doors that lead back -/
def desc (cr : Nat → List Nat) (s : Nat) : List Nat → Prop
  | [] => False
  | t :: r => t = s ∨ (t ∈ cr s ∧ desc cr s r)
end
/-- all coordinates are at least nought, one is above -/
def Pos (ls : List Nat) (v : Nat → Int) : Prop := (∀ x ∈ ls, 0 ≤ v x) ∧ ∃ x ∈ ls, 0 < v x
theorem Pos.congr {ls : List Nat} {u v : Nat → Int} (hu : Pos ls u) (h : ∀ x ∈ ls, v x = u x) : Pos ls v := by
  refine ⟨fun x hx => h x hx ▸ hu.1 x hx, ?_⟩
  obtain ⟨x, hx, p⟩ := hu.2
  exact ⟨x, hx, h x hx ▸ p⟩
/-- the mark of the door e behind the way w, coordinate by coordinate -/
def mark (cr : Nat → List Nat) (w : List Nat) (e : Nat) : Nat → Int := fun x => act cr w (unit x) e
section
variable {cr : Nat → List Nat} {ls : List Nat}
/-! ### names by marks -/
theorem NF.tail {c : Nat} {r : List Nat} (h : NF cr (c :: r)) : NF cr r := by
  unfold NF at h ⊢
  rw [List.reverse_cons] at h
  have key : ∀ {a b : List Nat}, NFr cr (a ++ b) → NFr cr a := by
    intro a b
    induction a with
    | nil => intro _; trivial
    | cons s a ih =>
      intro h
      refine ⟨?_, ih h.2⟩
      have h1 := h.1
      clear h ih
      induction a with
      | nil => trivial
      | cons t a ih => exact ⟨h1.1, fun z => ⟨(h1.2 z).1, ih (h1.2 z).2⟩⟩
  exact key h
end
end Cw
set_option Elab.async false
set_option linter.all false
set_option maxRecDepth 100000
set_option maxHeartbeats 4000000
/-! a drawn floor, in plain words -/
namespace Cw
/-- the letters of a drawn floor and which cross -/
structure Fl (ls : List Nat) (f : Nat → List Nat) : Prop where
  tab : Tab ls f
  ok : CrOk f
  asc : ls.Pairwise (· < ·)
  pos : 0 < ls.length
theorem Flr.fl {num : Nat} {ls : List Nat} {rel : Nat → Nat → Bool} (h : Flr num ls rel) : Fl ls (crossBy ls rel) where
  tab := h.tab
  asc := cut_lt' h.cut
  pos := (cut_len h.cut).2.2
  ok := by
    refine ⟨fun a b hab => ?_, fun a ha => ?_⟩
    · obtain ⟨h1, h2⟩ := List.mem_filter.mp hab
      have h3 := h.ok.in b a h2
      refine List.mem_filter.mpr ⟨h3.1, ?_⟩
      rw [h.ok.sym]
      exact h2
    · obtain ⟨h1, h2⟩ := List.mem_filter.mp ha
      exact (h.ok.in a a h2).2.2 rfl
theorem Fl.plain {ls : List Nat} {f : Nat → List Nat} (h : Fl ls f) : Fl ls (fun _ => []) where
  tab := ⟨h.tab.nd, h.tab.lt, h.tab.len, fun _ _ _ z => (nomatch z), fun _ _ => by simp⟩
  ok := ⟨fun _ _ z => (nomatch z), fun _ z => (nomatch z)⟩
  asc := h.asc
  pos := h.pos
section
variable {ls : List Nat} {f : Nat → List Nat}
end
end Cw
set_option Elab.async false
set_option linter.all false
set_option maxRecDepth 100000
set_option maxHeartbeats 4000000
/-! more operators of classes of one's own: o + text, o[text], o == text -/
namespace PySem.W
open PySem PySem.Calls PyProof.Rows Builtin
section
variable {prog : Program} {w : World} {A : Around} {E : Value → Shared → Prop} {s : Shared} {K : Frag} {x C L f : Addr} {h0 : Heap} {m : Str → Option Value} {ox : Obj} {od : Option Obj}
end
end PySem.W
namespace Cw
open PySem PySem.Spec L2
section
variable {X : Cx} {CX : CXT} {k : Nat} {C : Addr} {m : Str} {ps : List Str} {sp : Sp} {E : XK}
/-- o op text, by the class's own method -/
def rMS (C : Addr) (sp : Sp) (E : XK) : R2 := fun x y H Q => ∃ a dx fs z, x = .ref a ∧ y = .str z ∧ H a = some (.ins C dx fs) ∧ sp [.ref a, .str z] H Q E
end
section
variable {σ : St} {H : Hp} {Q : VK} {K : PySem.W.Frag}
theorem v_MS {C : Addr} {sp : Sp} {E : XK} {a dx : Addr} {fs : List (Str × V)} {z : Str} (h : H a = some (.ins C dx fs)) (q : sp [.ref a, .str z] H Q E) : rMS C sp E (.ref a) (.str z) H Q := ⟨a, dx, fs, z, rfl, rfl, h, q⟩
end
end Cw
set_option Elab.async false
set_option linter.all false
set_option maxRecDepth 100000
set_option maxHeartbeats 4000000
/-! tables of vectors -/
namespace Cw
open PySem PySem.Spec L2
def marksKV (ls : List Nat) (A : Nat → Addr) : List (Key × V) := ls.map fun c => ((Sum.inr (tx [c]) : Key), V.ref (A c))
def vecV (ls : List Nat) (v : Nat → Int) : List V := ls.map fun x => V.int (v x)
structure MarksAt (H : Hp) (m : Addr) (ls : List Nat) (M : Nat → Nat → Int) : Prop where
  ex : ∃ A : Nat → Addr, H m = some (.dK (marksKV ls A)) ∧ ∀ c ∈ ls, H (A c) = some (.tup (vecV ls (M c)))
theorem MarksAt.same {H H' : Hp} {m : Addr} {ls : List Nat} {M : Nat → Nat → Int} (h : MarksAt H m ls M) (s : Same H H') : MarksAt H' m ls M := by
  obtain ⟨A, a, b⟩ := h.ex
  exact ⟨A, s _ _ a, fun c hc => s _ _ (b c hc)⟩
theorem MarksAt.congr {H : Hp} {m : Addr} {ls : List Nat} {M M' : Nat → Nat → Int} (h : MarksAt H m ls M) (e : ∀ c ∈ ls, ∀ x ∈ ls, M c x = M' c x) : MarksAt H m ls M' := by
  obtain ⟨A, a, b⟩ := h.ex
  refine ⟨A, a, fun c hc => ?_⟩
  rw [b c hc]
  congr 2
  exact List.map_congr_left fun x hx => by rw [e c hc x hx]
section
variable {K : PySem.W.Frag} {a : Addr} {ls : List Nat} {f : Nat → V}
end
section
variable {σ : St} {H : Hp} {Q : VK} {te : TE} {K : PySem.W.Frag}
theorem e_iT {R : It → Hp → Prop} (q : te σ H fun x H1 => ∃ a, x = .ref a ∧ (∃ xs, SqT K H1 a xs) ∧ R (Itt K a) H1) : iTup K te σ H R := q
theorem v_ixT {p : Addr} {xs : List V} {a : Int} {v : V} (h : H p = some (.tup xs)) (c : atI xs a = some v) (q : Q v H) : rIxT K (.ref p) (.int a) H Q := ⟨p, xs, a, v, rfl, rfl, SqT.of h, c, q⟩
end
end Cw
namespace Cw
open PySem PySem.Spec L2
end Cw
set_option Elab.async false
set_option linter.all false
set_option maxRecDepth 100000
set_option maxHeartbeats 4000000
/-! ways turned back; the doors that lead nearer -/
namespace Cw
section
variable {cr f : Nat → List Nat} {ls : List Nat}
/-! ### odd and even -/
/-! ### doors nearer -/
instance descDec (cr : Nat → List Nat) (s : Nat) : (w : List Nat) → Decidable (desc cr s w)
  | [] => isFalse id
  | t :: r => by
    have := descDec cr s r
    exact inferInstanceAs (Decidable (t = s ∨ (t ∈ cr s ∧ desc cr s r)))
/-- letters of a way that all before them cross -/
def frees (f : Nat → List Nat) (ks : List Nat) (p : List Nat) : List Nat := p.foldl (fun free k => free.filter fun o => decide (o ∈ f k)) ks
end
end Cw
set_option Elab.async false
set_option linter.all false
set_option maxRecDepth 100000
set_option maxHeartbeats 4000000
/-! parts: groups of kinds that every other kind crosses; a name, part by part -/
namespace Cw
section
variable {f : Nat → List Nat} {ls : List Nat}
theorem okAt_of {s : Nat} : ∀ {e : List Nat}, (∀ q t r, e = q ++ t :: r → (∀ y ∈ q, y ∈ f s) → t ≠ s ∧ (t ∈ f s → t < s)) → okAt f s e
  | [], _ => trivial
  | t :: r, h => by
    have h0 := h [] t r rfl (fun _ z => nomatch z)
    refine ⟨h0.1, fun z => ⟨h0.2 z, okAt_of fun q u r' e hq => h (t :: q) u r' (by rw [e]; rfl) fun y hy => ?_⟩⟩
    rcases List.mem_cons.mp hy with rfl | hy
    · exact z
    · exact hq y hy
/-- the other way about of NF.two -/
theorem NF.of_two {w : List Nat} (h : ∀ p q r t s, w = p ++ t :: (q ++ s :: r) → (∀ y ∈ q, y ∈ f s) → t ≠ s ∧ (t ∈ f s → t < s)) : NF f w := by
  have key : ∀ v : List Nat, (∀ a s b, v = a ++ s :: b → okAt f s b) → NFr f v := by
    intro v
    induction v with
    | nil => intro _; trivial
    | cons s r ih => intro g; exact ⟨g [] s r rfl, ih fun a s' b e => g (s :: a) s' b (by rw [e]; rfl)⟩
  refine key _ fun a s b e => okAt_of fun q t r e2 hq => ?_
  refine h r.reverse q.reverse a.reverse t s ?_ fun y hy => hq y (List.mem_reverse.mp hy)
  have e3 := congrArg List.reverse e
  rw [List.reverse_reverse, e2] at e3
  rw [e3]
  simp
/-- a group of kinds: each kind beside it crosses each of it -/
structure Grp (f : Nat → List Nat) (ls G : List Nat) : Prop where
  sub : ∀ c ∈ G, c ∈ ls
  out : ∀ c ∈ ls, ¬ c ∈ G → ∀ d ∈ G, c ∈ f d
def cutG (G w : List Nat) : List Nat := w.filter fun c => decide (c ∈ G)
theorem cutG_mem {G w : List Nat} {c : Nat} : c ∈ cutG G w ↔ c ∈ w ∧ c ∈ G := by
  unfold cutG
  rw [List.mem_filter, decide_eq_true_iff]
/-! ### the parts of a floor -/
inductive Conn (f : Nat → List Nat) (ls : List Nat) (c : Nat) : Nat → Prop
  | base : Conn f ls c c
  | step {a b : Nat} : Conn f ls c a → b ∈ ls → ¬ b ∈ f a → Conn f ls c b
theorem Conn.in {c x : Nat} (h : Conn f ls c x) (hc : c ∈ ls) : x ∈ ls := by
  cases h with
  | base => exact hc
  | step _ h _ => exact h
theorem Conn.trans {a b c : Nat} (h : Conn f ls a b) (h2 : Conn f ls b c) : Conn f ls a c := by
  induction h2 with
  | base => exact h
  | step _ h1 h2 ih => exact .step ih h1 h2
theorem Conn.symm (ok : CrOk f) {a b : Nat} (ha : a ∈ ls) (h : Conn f ls a b) : Conn f ls b a := by
  induction h with
  | base => exact .base
  | @step x y h1 h2 h3 ih => exact (Conn.step .base (h1.in ha) (fun z => h3 (ok.sym _ _ z))).trans ih
/-- the groups of what is left, in order -/
inductive PartsOf (f : Nat → List Nat) (ls : List Nat) : List Nat → List (List Nat) → Prop
  | nil : PartsOf f ls [] []
  | cons {c : Nat} {r G : List Nat} {Gs : List (List Nat)} : cutG G ls = G → (∀ x ∈ ls, x ∈ G ↔ Conn f ls c x) → PartsOf f ls ((c :: r).filter fun x => !decide (x ∈ G)) Gs → PartsOf f ls (c :: r) (G :: Gs)
theorem PartsOf.head {c : Nat} {r G : List Nat} {Gs : List (List Nat)} (h : PartsOf f ls (c :: r) (G :: Gs)) : cutG G ls = G ∧ (∀ x ∈ ls, x ∈ G ↔ Conn f ls c x) ∧ PartsOf f ls ((c :: r).filter fun x => !decide (x ∈ G)) Gs := by
  cases h with
  | cons h1 h2 h3 => exact ⟨h1, h2, h3⟩
structure Parted (f : Nat → List Nat) (ls left : List Nat) (Gs : List (List Nat)) : Prop where
  all : ∀ x ∈ left, ∃ G ∈ Gs, x ∈ G
  sub : ∀ G ∈ Gs, ∀ x ∈ G, x ∈ left
  grp : ∀ G ∈ Gs, Grp f ls G
  cut : ∀ G ∈ Gs, cutG G ls = G
  dis : Gs.Pairwise fun G G' => ∀ x, x ∈ G → ¬ x ∈ G'
  ne : ∀ G ∈ Gs, G ≠ []
theorem parted (ok : CrOk f) {left : List Nat} {Gs : List (List Nat)} (h : PartsOf f ls left Gs) : (∀ c ∈ left, c ∈ ls) → (∀ x ∈ left, ∀ y, Conn f ls x y → y ∈ left) → Parted f ls left Gs := by
  induction h with
  | nil => exact fun _ _ => ⟨fun _ z => (nomatch z), fun _ z => (nomatch z), fun _ z => (nomatch z), fun _ z => (nomatch z), .nil, fun _ z => (nomatch z)⟩
  | @cons c r G Gs h1 h2 h3 ih =>
    intro hl hc
    have hcl := hl c (List.mem_cons_self ..)
    have memG : ∀ x, x ∈ G → x ∈ ls := fun x hx => (cutG_mem.mp (h1.symm ▸ hx : x ∈ cutG G ls)).1
    have fm : ∀ x, (x ∈ (c :: r).filter fun x => !decide (x ∈ G)) ↔ x ∈ c :: r ∧ ¬ x ∈ G := fun x => by
      rw [List.mem_filter]
      simp
    have p := ih (fun x hx => hl x ((fm x).mp hx).1) (fun x hx y hy => by
      obtain ⟨m, n⟩ := (fm x).mp hx
      refine (fm y).mpr ⟨hc x m y hy, fun z => n ?_⟩
      have hxl := hl x m
      exact (h2 x hxl).mpr (((h2 y (memG y z)).mp z).trans (hy.symm ok hxl)))
    refine ⟨fun x hx => ?_, fun G' hG x hx => ?_, fun G' hG => ?_, fun G' hG => ?_, ?_, fun G' hG => ?_⟩
    · by_cases z : x ∈ G
      · exact ⟨G, List.mem_cons_self .., z⟩
      · obtain ⟨G', m, n⟩ := p.all x ((fm x).mpr ⟨hx, z⟩)
        exact ⟨G', List.mem_cons_of_mem _ m, n⟩
    · rcases List.mem_cons.mp hG with rfl | m
      · exact hc c (List.mem_cons_self ..) x ((h2 x (memG x hx)).mp hx)
      · exact ((fm x).mp (p.sub G' m x hx)).1
    · rcases List.mem_cons.mp hG with rfl | m
      · refine ⟨memG, fun x hx n d hd => ?_⟩
        refine Classical.byContradiction fun z => n ?_
        exact (h2 x hx).mpr (.step ((h2 d (memG d hd)).mp hd) hx z)
      · exact p.grp G' m
    · rcases List.mem_cons.mp hG with rfl | m
      · exact h1
      · exact p.cut G' m
    · exact List.pairwise_cons.mpr ⟨fun G' m x hx hx' => ((fm x).mp (p.sub G' m x hx')).2 hx, p.dis⟩
    · rcases List.mem_cons.mp hG with rfl | m
      · intro z
        have := (h2 c hcl).mpr .base
        rw [z] at this
        cases this
      · exact p.ne G' m
theorem PartsOf.parted (ok : CrOk f) {Gs : List (List Nat)} (h : PartsOf f ls ls Gs) : Parted f ls ls Gs := Cw.parted ok h (fun _ z => z) (fun x hx y hy => hy.in hx)
/-! ### what is put together of its parts -/
theorem len_parts {Gs : List (List Nat)} (dis : Gs.Pairwise fun G G' => ∀ x, x ∈ G → ¬ x ∈ G') : ∀ {N : List Nat}, (∀ c ∈ N, ∃ G ∈ Gs, c ∈ G) → (Gs.map fun G => (cutG G N).length).sum = N.length
  | [], _ => by
    induction Gs with
    | nil => rfl
    | cons G Gs ih =>
      rw [List.map_cons, List.sum_cons, ih (List.pairwise_cons.mp dis).2 (fun _ z => nomatch z)]
      rfl
  | c :: N, h => by
    have ih := len_parts dis (N := N) fun d hd => h d (List.mem_cons_of_mem _ hd)
    have key : ∀ {Gs : List (List Nat)}, (Gs.Pairwise fun G G' => ∀ x, x ∈ G → ¬ x ∈ G') → (∃ G ∈ Gs, c ∈ G) → (Gs.map fun G => (cutG G (c :: N)).length).sum = (Gs.map fun G => (cutG G N).length).sum + 1 := by
      intro Gs
      induction Gs with
      | nil => rintro _ ⟨_, z, _⟩; cases z
      | cons A Gs ih =>
        intro dis ⟨G, hG, hc⟩
        obtain ⟨h1, h2⟩ := List.pairwise_cons.mp dis
        rw [List.map_cons, List.sum_cons, List.map_cons, List.sum_cons]
        by_cases z : c ∈ A
        · have e1 : cutG A (c :: N) = c :: cutG A N := List.filter_cons_of_pos (by simpa using z)
          have e2 : (Gs.map fun G => (cutG G (c :: N)).length) = Gs.map fun G => (cutG G N).length := List.map_congr_left fun G hG => by
            rw [show cutG G (c :: N) = cutG G N from List.filter_cons_of_neg (by simpa using h1 G hG c z)]
          rw [e1, e2, List.length_cons]
          omega
        · rw [show cutG A (c :: N) = cutG A N from List.filter_cons_of_neg (by simpa using z)]
          have hG : G ∈ Gs := (List.mem_cons.mp hG).resolve_left fun e => z (e ▸ hc)
          have := ih h2 ⟨G, hG, hc⟩
          omega
    rw [key dis (h c (List.mem_cons_self ..)), ih, List.length_cons]
theorem sum_ge {F : List Nat → Nat} : ∀ {Gs : List (List Nat)}, (∀ G ∈ Gs, 1 ≤ F G) → Gs.length ≤ (Gs.map F).sum
  | [], _ => Nat.le_refl _
  | G :: Gs, h => by
    have h1 := h G (List.mem_cons_self ..)
    have h2 := sum_ge (F := F) (Gs := Gs) fun A hA => h A (List.mem_cons_of_mem _ hA)
    rw [List.map_cons, List.sum_cons, List.length_cons]
    omega
theorem PartsOf.len (ok : CrOk f) {Gs : List (List Nat)} (h : PartsOf f ls ls Gs) : Gs.length ≤ ls.length := by
  have p := h.parted ok
  have e := len_parts p.dis (N := ls) p.all
  rw [← e]
  refine sum_ge fun G hG => ?_
  rw [p.cut G hG]
  have := p.ne G hG
  cases G with
  | nil => exact absurd rfl this
  | cons _ _ => simp
/-! ### how the groups are found -/
/-- the program's way: all kinds that do not cross one of the group -/
def loose (f : Nat → List Nat) (ls g : List Nat) : List Nat := ls.filter fun k => g.any fun o => !decide (k ∈ f o)
end
end Cw
set_option Elab.async false
set_option linter.all false
set_option maxRecDepth 100000
set_option maxHeartbeats 4000000
/-! x + y, x * y of two objects of one own class -/
namespace PySem.W
open PySem PySem.Calls PyProof.Rows Builtin
section
variable {prog : Program} {w : World} {A : Around} {E : Value → Shared → Prop} {s : Shared} {K : Frag} {x y C L f : Addr} {h0 : Heap} {m : Str → Option Value} {ox oy : Obj} {od ody : Option Obj}
theorem binop_same (op : Operator) (nm : String) (hop : (op = .Add ∧ nm = "add") ∨ (op = .Mult ∧ nm = "mul")) {Q : Value → Shared → Prop} (F : Fr h0 L s.heap m) (X0 : K.In h0) (I : InstAt s.heap x ox C od) (J : InstAt s.heap y oy C ody) (hc : selfFirst K C = true)
    (hs : findIn K (.ref C) (PySem.dunder nm) = some (some (.ref f))) (hf : isFn K (.ref f) = true)
    (h : wpAny (model prog w) A (call (.ref f) [.ref x, .ref y]) (CmpBack Q) E s) : wpAny (model prog w) A (binaryOp op (.ref x) (.ref y)) Q E s := by
  have X := X0.keeps F.keep
  obtain ⟨cd, hcd, hm⟩ := any_some hc
  obtain ⟨rest, hm⟩ : ∃ rest, cd.mro = .ref C :: rest := by
    cases q : cd.mro with
    | nil => rw [q] at hm; cases hm
    | cons a r => rw [q] at hm; exact ⟨r, by rw [List.head?_cons] at hm; cases (beq_iff_eq.mp hm); rfl⟩
  have ne : (Value.ref C == Value.ref C) = true := by simp
  rcases hop with ⟨rfl, rfl⟩ | ⟨rfl, rfl⟩
  all_goals
    unfold binaryOp
    refine wpAny_holding (wpAny_bind ?_)
    unfold binaryOp1
    refine wpAny_bind (I.type.here (wpAny_bind (J.type.here (wpAny_bind ((fills_K X hcd hm hs).here ?_)))))
    simp only [ne, if_true]
    refine wpAny_bind (wpAny_pure ?_)
    simp only [Bool.and_false, Bool.false_eq_true, if_false, Bool.false_and]
    refine wpAny_bind (wpAny_pure ?_)
    simp only [Bool.false_eq_true, if_false, if_true]
    refine wpAny_bind (m := tryMethod (.ref x) _ (.ref y)) ?_
    unfold tryMethod
    refine wpAny_bind (special_fn X I hs (beq_iff_eq.mp hf) (wpAny_mono h (fun v s' hv => ?_) fun _ _ e => e))
    cases v <;> first | exact hv.elim | exact wpAny_pure (wpAny_pure (wpAny_pure hv))
end
end PySem.W
namespace Cw
open PySem PySem.Spec L2
section
variable {X : Cx} {CX : CXT} {k : Nat} {C : Addr} {m : Str} {ps : List Str} {sp : Sp} {E : XK}
/-- o op p, of one class, by the class's own method -/
def rMP (C : Addr) (sp : Sp) (E : XK) : R2 := fun x y H Q => ∃ a dx fs b dy gs, x = .ref a ∧ y = .ref b ∧ H a = some (.ins C dx fs) ∧ H b = some (.ins C dy gs) ∧ sp [.ref a, .ref b] H Q E
theorem op_sameM (op : Operator) (nm : String) (hop : (op = .Add ∧ nm = "add") ∨ (op = .Mult ∧ nm = "mul")) (D : MDef X.prog X.w X.K X.mg X.base CX k C (PySem.dunder nm) ps sp) (hc : PySem.W.selfFirst X.K C = true) (hr : Room k X.A) (hx : Passes CX X E) : OpR X (binaryOp op) (rMP C sp E) := by
  obtain ⟨f, fd, h1, h2, kp, ⟨hb, _⟩, F⟩ := D.ex
  intro pins s σ H x y v u Q I rx ry h
  obtain ⟨a, dx, fs, b, dy, gs, rfl, rfl, ha, hb', hq⟩ := h
  cases rx
  cases ry
  obtain ⟨mA, J, _⟩ := ins_get I.hok ha
  obtain ⟨od, J, _⟩ := J.look
  obtain ⟨mB, J2, _⟩ := ins_get I.hok hb'
  obtain ⟨od2, J2, _⟩ := J2.look
  obtain ⟨mm, hF⟩ := I.fr
  refine PySem.W.binop_same op nm hop hF I.ok.mod.kin J J2 hc h1 h2 ?_
  have z := run_fn (us := [.ref a, .ref b]) (vs := [.ref a, .ref b]) (dvs := []) F hr hb .nil hx I (.cons rfl (.cons rfl .nil)) hq
  refine wpAny_mono z (fun v s' q => ?_) fun _ _ q => q
  obtain ⟨y, H', I', r, q⟩ := q
  have k : EP X pins σ Q v s' := ⟨y, H', I', r, q⟩
  cases v <;> first | exact k | (exfalso; cases y <;> first | (obtain ⟨_, r⟩ := r; cases r) | cases r)
theorem op_addP (D : MDef X.prog X.w X.K X.mg X.base CX k C "__add__" ps sp) (hc : PySem.W.selfFirst X.K C = true) (hr : Room k X.A) (hx : Passes CX X E) : OpR X (binaryOp .Add) (rMP C sp E) := op_sameM .Add "add" (.inl ⟨rfl, rfl⟩) D hc hr hx
theorem op_mulP (D : MDef X.prog X.w X.K X.mg X.base CX k C "__mul__" ps sp) (hc : PySem.W.selfFirst X.K C = true) (hr : Room k X.A) (hx : Passes CX X E) : OpR X (binaryOp .Mult) (rMP C sp E) := op_sameM .Mult "mul" (.inr ⟨rfl, rfl⟩) D hc hr hx
theorem v_MP {H : Hp} {Q : VK} {a b dx dy : Addr} {fs gs : List (Str × V)} (h : H a = some (.ins C dx fs)) (h2 : H b = some (.ins C dy gs)) (q : sp [.ref a, .ref b] H Q E) : rMP C sp E (.ref a) (.ref b) H Q := ⟨a, dx, fs, b, dy, gs, rfl, rfl, h, h2, q⟩
end
end Cw
set_option Elab.async false
set_option linter.all false
set_option maxRecDepth 100000
set_option maxHeartbeats 4000000
/-! C.f(..), f a static method; o.f, f a property -/
namespace Cw
open PySem PySem.Spec L2
/-- the static method f of the class at C -/
structure StAt (K : PySem.W.Frag) (C : Addr) (f qual : Str) (st : Stmt) : Prop where
  ex : ∃ (mc : Value) (p g : Addr) (rest : List Value) (fd : FuncData), ClX.CRead K C mc ∧ PySem.W.findCls K (.ref C) mc f = some (.get (.builtin "staticmethod.__get__") (.ref p) .none (.ref C)) ∧ PySem.W.recIn K p "staticmethod" = some (.ref g :: rest) ∧ Fun K f qual st g fd
structure StDef (P : Program) (w : World) (K : PySem.W.Frag) (mg : Str → Option Value) (base : Heap) (CX : CXT) (k : Nat) (C : Addr) (f : Str) (sp : Sp) : Prop where
  ex : ∃ (mc : Value) (p g : Addr) (rest : List Value) (fd : FuncData) (ps : List Str), ClX.CRead K C mc ∧ PySem.W.findCls K (.ref C) mc f = some (.get (.builtin "staticmethod.__get__") (.ref p) .none (.ref C)) ∧ PySem.W.recIn K p "staticmethod" = some (.ref g :: rest) ∧ PySem.W.keepIn K (.ref g) = true ∧ Binds K fd ps [] ∧ FnOk P w K mg base CX k g fd ps sp
/-- the property f of the class at C -/
structure PrAt (K : PySem.W.Frag) (C : Addr) (f qual : Str) (st : Stmt) : Prop where
  ex : ∃ (p g : Addr) (fd : FuncData), PropOf K C f p g ∧ Fun K f qual st g fd
structure PrDef (P : Program) (w : World) (K : PySem.W.Frag) (mg : Str → Option Value) (base : Heap) (CX : CXT) (k : Nat) (C : Addr) (f : Str) (sp : Sp) : Prop where
  ex : ∃ (p g : Addr) (fd : FuncData) (ps : List Str), PropOf K C f p g ∧ Binds K fd ps [] ∧ FnOk P w K mg base CX k g fd ps sp
section
variable {P : Program} {w : World} {K : PySem.W.Frag} {mg : Str → Option Value} {base : Heap} {CX : CXT} {j k : Nat} {C : Addr} {f qual : Str} {ps N : List Str} {sp : Sp} {st : Stmt}
theorem StDef.mono (D : StDef P w K mg base CX j C f sp) (h : j ≤ k) : StDef P w K mg base CX k C f sp := by
  obtain ⟨mc, p, g, rest, fd, ps, a, b, c, d, e, F⟩ := D.ex
  exact ⟨mc, p, g, rest, fd, ps, a, b, c, d, e, F.mono h⟩
theorem PrDef.mono (D : PrDef P w K mg base CX j C f sp) (h : j ≤ k) : PrDef P w K mg base CX k C f sp := by
  obtain ⟨p, g, fd, ps, a, b, F⟩ := D.ex
  exact ⟨p, g, fd, ps, a, b, F.mono h⟩
theorem StAt.ok (F : StAt K C f qual st) (S : FnScope N ps (defScope st))
    (hb : ∀ (kV doc pm : Value) (an : Option Addr) (cdv ct : Value) (us : List Value), us.length = ps.length → bindArgs (PySem.W.fnOf f qual (defArgs st) (defBody st) (defScope st) .none kV doc pm an cdv ct) ⟨us, []⟩ = pure (ps.zip us))
    (len : ∀ vs H Q E, sp vs H Q E → vs.length = ps.length)
    (hbody : ∀ (f : Addr) (cdv : Value) (A : Around) (outer : List Env) (s : Shared) (H : Hp) (vs : List V) (Q : VK) (E : XK), Room k (A.deeper (PyProof.Rows.envOfC qual (defScope st) s.heap.objs.size f cdv)) → sp vs H Q E →
      ∃ t, PSs (cxOf CX0 P w K mg base N qual (defScope st) f cdv A outer s H E).nox (defBody st) t ∧ t { nx := fun _ H' => Q .non H', rt := Q } (start N vs) H) : StDef P w K mg base CX0 (k + 1) C f sp := by
  obtain ⟨mc, p, g, rest, fd, a, b, c, G⟩ := F.ex
  exact ⟨mc, p, g, rest, fd, ps, a, b, c, G.kp, G.binds hb, G.ok S len fun cdv A outer s H vs Q E hr h => hbody g cdv A outer s H vs Q E hr h⟩
theorem PrAt.ok (F : PrAt K C f qual st) (S : FnScope N ps (defScope st))
    (hb : ∀ (kV doc pm : Value) (an : Option Addr) (cdv ct : Value) (us : List Value), us.length = ps.length → bindArgs (PySem.W.fnOf f qual (defArgs st) (defBody st) (defScope st) .none kV doc pm an cdv ct) ⟨us, []⟩ = pure (ps.zip us))
    (len : ∀ vs H Q E, sp vs H Q E → vs.length = ps.length)
    (hbody : ∀ (f : Addr) (cdv : Value) (A : Around) (outer : List Env) (s : Shared) (H : Hp) (vs : List V) (Q : VK) (E : XK), Room k (A.deeper (PyProof.Rows.envOfC qual (defScope st) s.heap.objs.size f cdv)) → sp vs H Q E →
      ∃ t, PSs (cxOf CX0 P w K mg base N qual (defScope st) f cdv A outer s H E).nox (defBody st) t ∧ t { nx := fun _ H' => Q .non H', rt := Q } (start N vs) H) : PrDef P w K mg base CX0 (k + 1) C f sp := by
  obtain ⟨p, g, fd, a, G⟩ := F.ex
  exact ⟨p, g, fd, ps, a, G.binds hb, G.ok S len fun cdv A outer s H vs Q E hr h => hbody g cdv A outer s H vs Q E hr h⟩
end
section
variable {X : Cx} {CX : CXT} {k : Nat} {C : Addr} {x f : Str} {sp : Sp} {E : XK} {e o : Expr} {es : List Expr} {p apos pos : PySem.Pos} {t : TA} {ta : TE} {pl : Sem Bool}
theorem pe_stc (D : StDef X.prog X.w X.K X.mg X.base CX k C f sp) (hm : X.mg x = some (.ref C)) (hr : Room k X.A) (hx : Passes CX X E) (ha : PA X (e :: es) t) (hg : Gl X x := by rfl) (hdb : (x == ("__debug__" : Str)) = false := by decide)
    (hst : starEach (e :: es) X.env = (false, eval e X.env) :: starEach es X.env := by rfl) (hpl : (backTo pos (starEach es X.env)).any (·.1) = false := by rfl)
    (ht : eval (.Call (.Attribute (.Name x p) f apos) (e :: es) [] pos) X.env = (do
      let ov ← eval (.Name x p) X.env
      standAt apos.atName
      let (f, first) ← holding [ov] (getMethod ov f pl)
      callWith pos f first (backTo pos (starEach (e :: es) X.env)) (backToKw pos (keywordEach [] X.env))) := by rfl) :
    PE X (.Call (.Attribute (.Name x p) f apos) (e :: es) [] pos) (tCall sp [] E t) := by
  obtain ⟨mc, q, g, rest, fd, ps, r, a, b, c, hb, F⟩ := D.ex
  refine ⟨fun pins s σ H Q I h => ?_⟩
  refine PySem.W.methodCall_KW (pl := pl) (ld_glob I hg hm ?_ hdb) ht
  refine PySem.W.method_cls I.kIn r.ga (PySem.W.cls_bind I.kIn r.rd a ?_)
  refine wpAny_call (PySem.W.sm_get (s := { s with toks := s.toks + 1 }) I.kIn b (PySem.W.handed_on rfl ?_))
  refine PySem.W.callWith_K (first := []) (h₀ := X.base) I.ok.mod.kin c (thn (ha.run pos pins _ σ H _ (I.tok _) h) fun us s1 ⟨vs, H1, I1, r1, q1⟩ => ⟨I1.kIn, ?_⟩) hst hpl
  exact run_fn F hr hb .nil hx I1 r1 q1
end
end Cw
set_option Elab.async false
set_option linter.all false
set_option maxRecDepth 100000
set_option maxHeartbeats 4000000
/-! more words: >, upper, list + list, parts of texts, values that are no texts -/
namespace Cw
open PySem PySem.Spec L2
section
variable {X : Cx}
theorem op_cat1 : OpR X (binaryOp .Add) rCat := op_cat
end
section
variable {σ : St} {H : Hp} {Q : VK} {K : PySem.W.Frag}
theorem v_cat {l b : Addr} {xs zs : List V} (h1 : H l = some (.lst xs)) (h2 : H b = some (.lst zs)) (hl : xs.length + zs.length ≤ 1000000) (q : ∀ p H', H p = none → Same H H' → H' p = some (.lst (xs ++ zs)) → Q (.ref p) H') : rCat (.ref l) (.ref b) H Q :=
  ⟨l, b, xs, zs, rfl, rfl, h1, h2, szl hl, fun p hp => q p _ hp (Same.new hp) upd_same⟩
/-- isinstance(value, str) is False -/
def NoTx (K : PySem.W.Frag) (H : Hp) (v : V) : Prop := ∃ t, TyX K H v t ∧ PySem.W.kitOne K t (.type "str") = some false
theorem v_isiN {v : V} (h : NoTx K H v) (q : Q (.bl false) H) : rIsi K [v, .ty "str"] H Q := by
  obtain ⟨t, h1, h2⟩ := h
  exact ⟨v, .ty "str", t, .type "str", false, rfl, .ty "str", h1, h2, q⟩
theorem noTx_non : NoTx K H .non := ⟨_, .base .non, kit_ty (by decide +kernel)⟩
theorem noTx_int {i : Int} : NoTx K H (.int i) := ⟨_, .base (.int i), kit_ty (by decide +kernel)⟩
theorem noTx_bl {b : Bool} : NoTx K H (.bl b) := ⟨_, .base (.bl b), kit_ty (by decide +kernel)⟩
theorem noTx_lst {a : Addr} {xs : List V} (h : H a = some (.lst xs)) : NoTx K H (.ref a) := ⟨_, .base (.lst h), kit_ty (by decide +kernel)⟩
theorem noTx_tup {a : Addr} {xs : List V} (h : H a = some (.tup xs)) : NoTx K H (.ref a) := ⟨_, .base (.tup h), kit_ty (by decide +kernel)⟩
end
end Cw
set_option Elab.async false
set_option linter.all false
set_option maxRecDepth 100000
set_option maxHeartbeats 4000000
/-! an own exception over ValueError whose __init__ calls super().__init__(..) -/
namespace Cw
open PySem PySem.Spec L2
section
variable {X : Cx} {pins : List (Addr × Obj)} {σ : L2.St} {H : Hp} {s : Shared} {C a f cda cc : Addr}
/-- a parameter is read -/
theorem ld_par {E : Value → Shared → Prop} {i : Nat} {x : Str} {v : V} {Q : Value → Shared → Prop} (I : Inv X pins σ H s) (hN : X.N[i]? = some x) (hk : X.env.scope.names.lookup x = some .local) (e : σ[i]? = some (some v)) (h : ∀ u, RelV v u → Q u s) : wpAny (model X.prog X.w) X.A (loadName X.env x) Q E s := by
  obtain ⟨m, hn, hl⟩ := I.loc
  obtain ⟨u, r, l⟩ := hl i x v hN e (Or.inl hk)
  rcases l with ⟨_, hm⟩ | ⟨hk2, c, hc, hcell⟩
  · exact wpAny_loadName_local I.ok.kind hk hn hm (h u r)
  · have hk : X.env.kindOf x = some .local := hk
    rcases hk2 with hk2 | hk2
    · rw [hk] at hk2
      cases hk2
    · rw [hk] at hk2
      cases hk2
/-- what the written part says of the def -/
structure SupC (P : Program) (K : PySem.W.Frag) (C f cda cc : Addr) (fd : FuncData) (sf : Str) : Prop where
  fn : ∃ oc od osl, K.lookup f = some ⟨oc, od, .func fd, osl⟩
  par : ∃ ar, (fd.params.posonlyargs ++ fd.params.args).head? = some ar ∧ ar.arg = sf
  code : ∃ ccl cdd vs ccs file tf, K.lookup cda = some ⟨ccl, cdd, .fields vs, ccs⟩ ∧ vs[2]? = some (.str file tf) ∧ ((P.main.file : Str) == file) = true
  top : (P.main.scope.names.lookup ("super" : Str)).isSome = false
  cell : ∃ cl cld csl, K.lookup cc = some ⟨cl, cld, .cell (some (.ref C)), csl⟩
  op : PySem.W.nsIn K PySem.cStatics "thirdparty.any" = some none
  up : PySem.W.ks_superIn K C C "__init__" = some (some (.builtin "ValueError.__init__"))
/-- super().__init__(v, ..) -/
theorem ws_super {body : List Stmt} {fd : FuncData} {self : Str} {es : List Expr} {p0 p1 p2 p3 p4 : PySem.Pos} {Q : Flow → Shared → Prop} {pl : Sem Bool} (S : SupC X.prog X.K C f cda cc fd self) (I : Inv X pins σ H s) (T : OexC X.K C) (ea : H a = some (exo a C none))
    (hks : X.env.kindOf "super" = some .globalImplicit) (hkc : X.env.kindOf "__class__" = some .free) (hfu : X.env.func = some f) (hco : X.env.code = .ref cda) (hcl : X.env.cells.lookup ("__class__" : Str) = some cc) (hm : X.mg "super" = none) (hN : X.N[0]? = some self) (hself : X.env.scope.names.lookup self = some .local)
    (e0 : σ[0]? = some (some (.ref a))) (hargs : ∀ s', Inv X pins σ H s' → ∀ (Q : List Value → Shared → Prop), (∀ us, us.length ≤ sizeLine → Q us s') → wpAny (model X.prog X.w) X.A (spliced (backTo p3 (starEach es X.env))) Q X.xe s')
    (hpl : (backTo p3 (starEach es X.env)).any (·.1) = false) (hi : interactive X.env = false) (hcons : ∃ m r, backTo p3 (starEach es X.env) = (false, m) :: r)
    (he : eval (.Call (.Attribute (.Call (.Name "super" p0) [] [] p1) "__init__" p2) es [] p3) X.env = (do
      let ov ← attributeBase (.Call (.Name "super" p0) [] [] p1) "__init__" X.env (eval (.Call (.Name "super" p0) [] [] p1) X.env)
      standAt p2.atName
      let (f, first) ← holding [ov] (getMethod ov "__init__" pl)
      callWith p3 f first (backTo p3 (starEach es X.env)) []))
    (q : ∀ s', Inv X pins σ H s' → Q .next s') :
    PySem.wpAt (model X.prog X.w) X.A (.func body X.env) (exec (.Expr (.Call (.Attribute (.Call (.Name "super" p0) [] [] p1) "__init__" p2) es [] p3) p4) X.env) Q X.xe s := by
  obtain ⟨nm, qn, N, bs, bm, sn, sub, ab, col, dd, k0, k1, k2, k3, k5, hC, hbm⟩ := T.cls
  have hcl' : PySem.W.clsIn X.K C = some { name := nm, bases := bs, mro := .ref C :: bm, ns := N, qualname := qn, hasDict := true, slotNames := sn, subclasses := sub, abstract := ab, collection := col, hasDel := false } := by unfold PySem.W.clsIn; rw [hC] <;> rfl
  obtain ⟨oc, od, osl, hf⟩ := S.fn
  obtain ⟨ar, hp, har⟩ := S.par
  obtain ⟨ccl, cdd, vs, ccs, file, tf, hcode, hvs, hfile⟩ := S.code
  obtain ⟨cl, cld, csl, hcell⟩ := S.cell
  have hup : PySem.W.alongIn X.K "__init__" bm = some (some (.builtin "ValueError.__init__")) := by
    have h := S.up
    unfold PySem.W.ks_superIn at h
    rw [hcl'] at h
    have e : ((Value.ref C :: bm).dropWhile (· != .ref C)).drop 1 = bm := by simp [List.dropWhile]
    exact e ▸ h
  refine PySem.ks_wpAt_Expr_any (hi := hi) (PySem.ks_wpAt_MethodCall (pl := pl) ?_ he)
  refine PySem.ks_wpAt_super_base hks hkc (by decide +kernel) hfu (I.kIn _ _ hf) rfl hp hco (I.kIn _ _ hcode) rfl hvs hfile S.top ?_
  obtain ⟨mb, g1, g2⟩ := I.mod.blt
  refine PySem.W.ks_loadName_global I.ok.kind hks (Calls.loadGlobal_builtin (by rw [I.ok.glob]; exact I.mod.glob.keeps I.bk) hm (by rw [I.ok.blt]; exact g1.keeps I.bk) ((g2 "super" (by decide)).trans (show bootBuiltins "super" = some (.type "super") by decide +kernel)) ⟨rfl, ?_⟩)
  refine wpAny_loadName_free I.ok.kind hkc hcl ⟨_, I.kIn _ _ hcell, rfl⟩ ?_
  rw [har]
  refine ld_par I hN hself e0 fun u ru => ?_
  obtain rfl : u = Value.ref a := ru
  obtain ⟨t1, ho⟩ := exo_at I.hok ea
  have hCh := I.kIn _ _ hC
  refine PySem.ks_wpAny_isType_cls hCh rfl ⟨rfl, ?_⟩
  have naC : a ≠ C := by
    rintro rfl
    rw [hCh] at ho
    injection ho with ho
    injection ho with _ _ z
    cases z
  have hne : (Value.ref C :: bm).isEmpty = false := rfl
  have hmro : ∀ v : Value, (Value.ref C :: bm).contains v = true → PySem.W.mroIn X.K C v = some true := fun v hv => by
    unfold PySem.W.mroIn
    rw [hcl', Option.bind_some, if_neg (by rw [hne]; decide), hv]
  have hsub : PySem.W.Looks (model X.prog X.w) s.heap (isSubtype (.ref C) (.ref C)) true := PySem.W.looks_mroIn I.kIn (hmro _ (by simp))
  obtain ⟨hp0, g, d, t, os⟩ := s
  refine PySem.ks_wpAny_call_super hCh rfl ho rfl (fun c z => nomatch z) hsub fun h1 hso k1 => ?_
  have I1 := I.kept (t' := t) k1
  have J1 : PySem.W.InstAt h1 a ({ cls := .ref C, dict := none, data := .fields #[.ref t1, .none, .none, .none, .bool false, .none] } : Obj) C none := ⟨k1 _ _ ho, rfl, rfl, trivial⟩
  have hVE : (Value.ref C :: bm).contains (.type "ValueError") = true := by
    rw [List.contains_cons, PySem.HandSPX.refsVE_contains "ValueError" bm hbm]
    simp
  refine PySem.W.kxs_getMethod PySem.W.kxs_ValueError hso (PySem.W.looks_opaque I1.kIn S.op) (l₀ := .ref C :: bm) ((PySem.W.looks_clsIn I1.kIn hcl').andThen .now) (by simp [List.dropWhile]) I1.kIn hup (J1.type.andThen (PySem.W.looks_mroIn I1.kIn (hmro _ hVE))) naC (by decide +kernel) ?_
  have k2 : ∀ b o, h1.get? b = some o → (h1.push (PySem.W.kxs_mw "ValueError.__init__" a)).get? b = some o := fun b o e => Heap.get?_push_of_some _ e
  have I2 := I1.kept (t' := t + 1) k2
  have hu : (h1.push (PySem.W.kxs_mw "ValueError.__init__" a)).get? h1.objs.size = some (PySem.W.kxs_mw "ValueError.__init__" a) := Heap.get?_push_at rfl rfl
  have ho2 := k2 _ _ (k1 _ _ ho)
  obtain ⟨m0, r0, hc0⟩ := hcons
  have ha := hargs _ I2 (fun vs s₁ => PySem.W.KxsAt "ValueError.__init__" h1.objs.size a s₁.heap ∧ wpAny (model X.prog X.w) X.A (call (.ref h1.objs.size) vs) (fun _ => Q .next) X.xe s₁)
  rw [hc0] at hpl ha ⊢
  refine PySem.W.kxs_callWith (i := "ValueError.__init__") (x := a) hpl (PySem.Calls.evalArgs_plain (ha fun us hus => ⟨hu, ?_⟩))
  refine wpAny_call (codeAny_of_tree ?_)
  show wpAny _ X.A.in1 (callAny (.ref h1.objs.size) ⟨us, []⟩) _ _ _
  simp only [callAny]
  refine wpAny_bind (wpAny_load hu ?_)
  simp only [PySem.W.kxs_mw, show (Value.type "method-wrapper" == Value.type "method" || Value.type "method-wrapper" == Value.type "builtin_function_or_method" || Value.type "method-wrapper" == Value.type "method-wrapper") = true by decide, if_true]
  refine PySem.W.KFB.if_so (by decide) ?_
  refine wpAny_bind (PySem.W.check_bound_init PySem.F.excBase_ValueError.toExcCallFacts (I2.kIn _ _ hC) ho2 rfl ?_)
  refine wpAny_bind (wpAny_pure (wpAny_pure ?_))
  refine ⟨plainId_quiet PySem.F.excBase_ValueError.init.plain _, codeAny_builtin PySem.F.excBase_ValueError.initEntry ?_⟩
  refine PySem.W.exc_init_tree (cls := .ref C) (t0 := t1) (dv := none) (c2 := .none) (c3 := .none) (b4 := .bool false) ho2 hus fun h3 k3 e3 _ => ?_
  have J := I2.write (t' := t + 1) (x := a) (e := a) (o := exo a C none) (by rw [ea]; exact True.intro) (.inl rfl) k3 ⟨_, e3⟩ (exo_ok e3)
  have eu : upd H a (exo a C none) = H := by
    funext b
    by_cases hb : b = a
    · rw [hb, upd_same, ea]
    · rw [upd_ne hb]
  rw [eu] at J
  exact q _ J
theorem sp_name1 {y : Str} {i : Nat} {v : V} {q p3 : PySem.Pos} (I : Inv X pins σ H s) (hN : X.N[i]? = some y) (hk : X.env.scope.names.lookup y = some .local) (e : σ[i]? = some (some v)) (hd : (y == ("__debug__" : Str)) = false) {Q : List Value → Shared → Prop} (h : ∀ us, us.length ≤ sizeLine → Q us s) :
    wpAny (model X.prog X.w) X.A (spliced (backTo p3 (starEach [.Name y q] X.env))) Q X.xe s := by
  show wpAny _ _ (spliced ((false, eval (.Name y q) X.env) :: backTo p3 (starEach [] X.env))) _ _ s
  exact Calls.spliced_cons (wpAny_Name (ld_par I hN hk e fun u _ => Calls.spliced_nil (h [u] (by show 1 ≤ sizeLine; decide))) hd)
end
section
variable {CX : CXT} {P : Program} {w : World} {K : PySem.W.Frag} {mg : Str → Option Value} {base : Heap} {k : Nat} {C f cc : Addr} {N ps : List Str} {sp : Sp}
/-- such a def by its body -/
theorem exc_init {fd : FuncData} {F : NdefX.NF} {sf : Str} {es : List Expr} {rest : List Stmt} {p0 p1 p2 p3 p4 : PySem.Pos} {pl : Env → Sem Bool} (S : SupC P K C f F.c cc fd sf)
    (hfd : ∃ kV doc pm an ct, fd = PySem.W.fnX F.name F.qual F.params F.body F.scope F.cl .none kV doc pm an (.ref F.c) ct) (hcl : F.cl = [(("__class__" : Str), cc)]) (hcd : PySem.W.codeIn K (.ref F.c) F.qual = true) (NS : NdefX.NScope N ps ["__class__"] F.scope)
    (hb : F.body = .Expr (.Call (.Attribute (.Call (.Name "super" p0) [] [] p1) "__init__" p2) es [] p3) p4 :: rest) (hm : mg "super" = none) (h0 : N[0]? = some sf) (hsf : F.scope.names.lookup sf = some .local) (hks : F.scope.names.lookup ("super" : Str) = some .globalImplicit)
    (len : ∀ vs H Q E, sp vs H Q E → vs.length = ps.length)
    (hcons : ∀ env : Env, ∃ m r, backTo p3 (starEach es env) = (false, m) :: r) (hpl : ∀ env : Env, (backTo p3 (starEach es env)).any (·.1) = false)
    (he : ∀ env : Env, eval (.Call (.Attribute (.Call (.Name "super" p0) [] [] p1) "__init__" p2) es [] p3) env = (do
      let ov ← attributeBase (.Call (.Name "super" p0) [] [] p1) "__init__" env (eval (.Call (.Name "super" p0) [] [] p1) env)
      standAt p2.atName
      let (f, first) ← holding [ov] (getMethod ov "__init__" (pl env))
      callWith p3 f first (backTo p3 (starEach es env)) []))
    (hgo : ∀ (A : Around) (outer : List Env) (s : Shared) (H : Hp) (vs : List V) (Q : VK) (E : XK), Room k (A.deeper (NdefX.envF F f s.heap.objs.size)) → sp vs H Q E → ∃ a vs', vs = .ref a :: vs' ∧ OexC K C ∧ H a = some (exo a C none) ∧
      (∀ s', Inv (NdefX.ncx CX P w K mg base N F f A outer s H E) [] (NdefX.startF N vs [some (.ref C)]) H s' → ∀ (Q : List Value → Shared → Prop), (∀ us, us.length ≤ sizeLine → Q us s') → wpAny (model P w) (A.deeper (NdefX.envF F f s.heap.objs.size)) (spliced (backTo p3 (starEach es (NdefX.envF F f s.heap.objs.size)))) Q (NdefX.ncx CX P w K mg base N F f A outer s H E).xe s') ∧
      ∃ t, PSs (NdefX.ncx CX P w K mg base N F f A outer s H E) rest t ∧ t { nx := fun _ H' => Q .non H', rt := Q } (NdefX.startF N vs [some (.ref C)]) H) : FnOk P w K mg base CX (k + 1) f fd ps sp := by
  refine ⟨len, fun A outer s H args us vs Q E hr e0 hbd r hsp => ?_⟩
  have hl := len _ _ _ _ hsp
  obtain ⟨kV, doc, pm, an, ct, rfl⟩ := hfd
  obtain ⟨oc, od, osl, lk⟩ := S.fn
  obtain ⟨cl, cld, csl, hcell⟩ := S.cell
  have KX : K.In s.heap := e0.mod.kin.keeps fun b o e => (e0.bs b o e).1
  have lim : s.heap.NoLimit := e0.mod.nolimit.keeps fun b o e => (e0.bs b o e).1
  refine PySem.ks_codeAny_call_defAt (body := F.body) hr.depth (KX _ _ lk) rfl lim (PySem.W.codeRec_of KX hcd) rfl hbd NS.nocell (fun ⟨n, v⟩ hy => NS.par n (List.of_mem_zip hy).1) (fun h₁ hns kp => ?_) NS.co NS.gen NS.kind
  obtain ⟨a, vs', rfl, T, ea, hargs, t, ht, hq⟩ := hgo A outer s H vs Q E (hr.deeper _) hsp
  have hccH : H cc = none := (e0.bs cc _ (e0.mod.kin _ _ hcell)).2
  have hccI : s.heap.IsCell cc (some (.ref C)) := ⟨_, KX _ _ hcell, rfl⟩
  have lk1 : ∀ y c, F.cl.lookup y = some c → y = "__class__" ∧ c = cc := fun y c h => by
    rw [hcl] at h
    by_cases e : y = ("__class__" : Str)
    · subst e
      simp [List.lookup] at h
      exact ⟨rfl, h.symm⟩
    · have e' : (y == ("__class__" : Str)) = false := by simpa using e
      simp [List.lookup, e'] at h
  have hcc : F.cl.lookup ("__class__" : Str) = some cc := by rw [hcl]; simp [List.lookup]
  have C1 : NdefX.CellsAt F.cl ["__class__"] [some (.ref C)] s.heap H := {
    len := rfl
    all := fun y c h => by
      obtain ⟨_, rfl⟩ := lk1 y c h
      exact ⟨hccH, _, hccI⟩
    inj := fun x y c h1 h2 => (lk1 x c h1).1.trans (lk1 y c h2).1.symm
    has := fun i y h => by
      cases i with
      | succ i => simp at h
      | zero =>
        simp at h
        subst h
        refine ⟨cc, hcc, fun v hv => ?_⟩
        simp at hv
        subst hv
        exact ⟨_, rfl, hccI⟩ }
  have I : Inv (NdefX.ncx CX P w K mg base N F f A outer s H E) [] (NdefX.startF N (.ref a :: vs') [some (.ref C)]) H { s with heap := h₁, toks := s.toks + (ps.zip us).length } := NdefX.inv_startN NS hr.hd e0 hl r C1 hns kp
  show PySem.wpAt (model P w) (A.deeper (NdefX.envF F f s.heap.objs.size)) (.func F.body (NdefX.envF F f s.heap.objs.size)) (execs F.body (NdefX.envF F f s.heap.objs.size)) _ _ _
  rw [hb]
  refine PySem.ks_wpAt_execs_cons ?_
  refine ws_super (X := NdefX.ncx CX P w K mg base N F f A outer s H E) (a := a) (cc := cc) S I T ea hks (NS.frk _ (List.mem_singleton_self _)) rfl rfl hcc hm h0 hsf rfl hargs (hpl _) (by unfold interactive; simp [show (NdefX.ncx CX P w K mg base N F f A outer s H E).env.scope.kind = .function from NS.kind]) (hcons _) (he _) fun s' J => ?_
  show PySem.wpAt _ _ _ (execs rest _) _ _ _
  refine PySem.wpAt_of_wpAny (wpAny_mono (ht.run [] s' _ H _ J hq) (fun fl s2 hs => ?_) fun e s2 hs => hs)
  have fin : ∀ {σ' : L2.St} {H' : Hp} {v : V} {u : Value}, Inv (NdefX.ncx CX P w K mg base N F f A outer s H E) [] σ' H' s2 → L2.RelV v u → Q v H' → CE outer P w H s Q u s2 :=
    fun {σ' H' v u} J rv q => ⟨v, H', J.os, J.bare, J.base, J.hok, rv, q⟩
  cases fl with
  | ret u =>
    obtain ⟨v, σ', H', J, rv, q⟩ := hs
    exact fin J rv q
  | next =>
    obtain ⟨σ', H', J, q⟩ := hs
    exact fin (v := V.non) (u := Value.none) J rfl q
  | brk =>
    obtain ⟨_, _, _, q⟩ := hs
    exact False.elim q
  | cont =>
    obtain ⟨_, _, _, q⟩ := hs
    exact False.elim q
end
end Cw
set_option Elab.async false
set_option linter.all false
set_option maxRecDepth 100000
set_option maxHeartbeats 4000000
/-! own exceptions with fields: made, raised -/
namespace Cw
open PySem PySem.Spec L2
/-- what the top has left of such a class; st: its __init__ -/
structure ExcE (P : Program) (K : PySem.W.Frag) (mg : Str → Option Value) (x : Str) (B : Addr) (qual : Str) (st : Stmt) : Prop where
  «at» : mg x = some (.ref B)
  oex : OexC K B
  xf : XfC K B
  ec : ExcC K B
  init : ∃ (f cda cc : Addr) (fd : FuncData) (kV doc pm : Value) (an : Option Addr) (ct : Value), PySem.W.findIn K (.ref B) "__init__" = some (some (.ref f)) ∧ PySem.W.typeIn K (.ref f) = some (.type "function") ∧
    fd = PySem.W.fnX "__init__" qual (defArgs st) (defBody st) (defScope st) [(("__class__" : Str), cc)] .none kV doc pm an (.ref cda) ct ∧ PySem.W.codeIn K (.ref cda) qual = true ∧ SupC P K B f cda cc fd "self"
/-- its __init__: g tells the fields of the arguments -/
def spE (B : Addr) (n : Nat) (g : List V → List (Str × V)) : Sp := fun vs H Q _ => ∃ (a : Addr) (ws : List V), vs = .ref a :: ws ∧ ws.length = n ∧ H a = some (exo a B none) ∧
  ∀ d H', H d = none → d ≠ a → H' a = some (exo a B (some d)) → H' d = some (exd d (g ws)) → (∀ b, b ≠ a → b ≠ d → H' b = H b) → Q .non H'
structure XDef (P : Program) (w : World) (K : PySem.W.Frag) (mg : Str → Option Value) (base : Heap) (k : Nat) (x : Str) (B : Addr) (n : Nat) (g : List V → List (Str × V)) : Prop where
  «at» : mg x = some (.ref B)
  oex : OexC K B
  ex : ∃ (f : Addr) (fd : FuncData) (ps : List Str), PySem.W.findIn K (.ref B) "__init__" = some (some (.ref f)) ∧ PySem.W.typeIn K (.ref f) = some (.type "function") ∧ Binds K fd ps [] ∧ FnOk P w K mg base CX0 k f fd ps (spE B n g)
theorem XDef.mono {P : Program} {w : World} {K : PySem.W.Frag} {mg : Str → Option Value} {base : Heap} {j k : Nat} {x : Str} {B : Addr} {n : Nat} {g : List V → List (Str × V)} (D : XDef P w K mg base j x B n g) (h : j ≤ k) : XDef P w K mg base k x B n g := by
  obtain ⟨f, fd, ps, a, b, c, d⟩ := D.ex
  exact ⟨D.at, D.oex, f, fd, ps, a, b, c, d.mono h⟩
section
variable {X : Cx} {k n : Nat} {x : Str} {B : Addr} {g : List V → List (Str × V)} {e : Expr} {es : List Expr} {ta : TA} {p pos : PySem.Pos}
theorem pmk_E (D : XDef X.prog X.w X.K X.mg X.base k x B n g) (hr : Room (k + 1) X.A) (ha : PA X (e :: es) ta) (hg : Gl X x := by rfl) (hdb : (x == ("__debug__" : Str)) = false := by decide)
    (he : starEach (e :: es) X.env = (false, eval e X.env) :: starEach es X.env := by rfl) (hpl : (backTo pos (starEach es X.env)).any (·.1) = false := by rfl) : PMk X (.Call (.Name x p) (e :: es) [] pos) (tMkO B (spE B n g) [] ta) := by
  obtain ⟨f, fd, ps, a, b, c, d⟩ := D.ex
  exact pmk_oex D.oex a b d hr c .nil pass0 hg D.at ha hdb he hpl
end
/-- it is made -/
theorem v_mkE {B : Addr} {n : Nat} {g : List V → List (Str × V)} {H1 : Hp} {Q : XK} {ws : List V} (hl : ws.length = n) (hn : n ≤ 1000) (q : ∀ d, H1 d = none → Q (.ref B) (some d) (upd H1 d (.xd (g ws)))) :
    ws.length ≤ 1000 ∧ ∀ a, H1 a = none → spE B n g (.ref a :: (ws ++ [])) (upd H1 a (exo a B none)) (fun v H2 => v = .non ∧ ∃ (d : Addr) (fs : List (Str × V)), H2 a = some (exo a B (some d)) ∧ H2 d = some (exd d fs) ∧ H1 d = none ∧ Q (.ref B) (some d) (upd (del H2 a) d (.xd fs))) (fun _ _ _ => False) := by
  refine ⟨by omega, fun a ha => ⟨a, ws ++ [], rfl, by rw [List.append_nil]; exact hl, upd_same, fun d H' hd nd ea ed kp => ?_⟩⟩
  rw [List.append_nil] at ed
  rw [upd_ne nd] at hd
  refine ⟨rfl, d, _, ea, ed, hd, ?_⟩
  have e : upd (del H' a) d (.xd (g ws)) = upd H1 d (.xd (g ws)) := by
    funext b
    by_cases h1 : b = d
    · rw [h1, upd_same, upd_same]
    · rw [upd_ne h1, upd_ne h1]
      by_cases h2 : b = a
      · rw [h2, del_same, ha]
      · rw [del_ne h2, kp b h2 h1, upd_ne h2]
  rw [e]
  exact q d hd
section
variable {P : Program} {w : World} {K : PySem.W.Frag} {mg : Str → Option Value} {base : Heap} {k : Nat} {x qual : Str} {B : Addr} {st : Stmt}
/-- one field -/
theorem ok_E1 {fld y : Str} {p0 p1 p2 p3 p4 q0 q1 q2 q3 q4 : PySem.Pos} {pl : Env → Sem Bool} (E : ExcE P K mg x B qual st) (hs : mg "super" = none) (hno : PySem.W.findIn K (.ref B) fld = some none)
    (hb : defBody st = [.Expr (.Call (.Attribute (.Call (.Name "super" p0) [] [] p1) "__init__" p2) [.Name y q4] [] p3) p4, .Assign [.Attribute (.Name "self" q0) fld q1] (.Name y q2) q3])
    (NS : NdefX.NScope ["self", y, "__class__"] ["self", y] ["__class__"] (defScope st)) (hks : (defScope st).names.lookup ("super" : Str) = some .globalImplicit) (hd : (y == ("__debug__" : Str)) = false) (hd2 : (y == ("__classdict__" : Str)) = false)
    (hbd : ∀ (kV doc pm : Value) (an : Option Addr) (cda cc : Addr) (ct : Value) (us : List Value), us.length = 2 → bindArgs (PySem.W.fnX "__init__" qual (defArgs st) (defBody st) (defScope st) [(("__class__" : Str), cc)] .none kV doc pm an (.ref cda) ct) ⟨us, []⟩ = pure ((["self", y] : List Str).zip us))
    (he : ∀ env : Env, eval (.Call (.Attribute (.Call (.Name "super" p0) [] [] p1) "__init__" p2) [.Name y q4] [] p3) env = (do
      let ov ← attributeBase (.Call (.Name "super" p0) [] [] p1) "__init__" env (eval (.Call (.Name "super" p0) [] [] p1) env)
      standAt p2.atName
      let (f, first) ← holding [ov] (getMethod ov "__init__" (pl env))
      callWith p3 f first (backTo p3 (starEach [.Name y q4] env)) [])) :
    XDef P w K mg base (k + 1) x B 1 (fun ws => [(fld, ws.getD 0 .non)]) := by
  obtain ⟨f, cda, cc, fd, kV, doc, pm, an, ct, hi, ht, hfd, hcd, S⟩ := E.init
  refine ⟨E.at, E.oex, f, fd, ["self", y], hi, ht, .all fun us hl => by rw [hfd]; exact hbd kV doc pm an cda cc ct us hl, ?_⟩
  have ls := NS.par "self" (by simp)
  have ly := NS.par y (by simp)
  refine exc_init (F := ⟨"__init__", qual, defArgs st, defBody st, defScope st, [(("__class__" : Str), cc)], cda⟩) S ⟨kV, doc, pm, an, ct, hfd⟩ rfl hcd NS hb hs rfl ls hks (fun vs H Q E h => ?_) (fun env => ⟨_, _, rfl⟩) (fun env => rfl) he fun A outer s H vs Q E' hr h => ?_
  · obtain ⟨a, ws, rfl, hw, _⟩ := h
    show ws.length + 1 = 2
    omega
  obtain ⟨a, ws, rfl, hw, ea, q⟩ := h
  obtain ⟨v, rfl⟩ : ∃ v, ws = [v] := by
    match ws, hw with
    | [v], _ => exact ⟨v, rfl⟩
  refine ⟨a, [v], rfl, E.oex, ea, fun s' I Q h => sp_name1 (i := 1) (v := v) I rfl ly rfl hd h, _, pss_one (ps_ost (pe_var (i := 0) rfl (Or.inl ls)) (pe_var (i := 1) rfl (Or.inl ly) hd hd2)), ?_⟩
  refine ⟨v, rfl, .ref a, rfl, a, B, rfl, E.oex, hno, .inl ⟨ea, fun d hd nd => ?_⟩⟩
  refine q d _ hd nd upd_same (by rw [upd_ne nd, upd_same]; rfl) fun b h1 h2 => by rw [upd_ne h1, upd_ne h2]
end
end Cw
set_option Elab.async false
set_option linter.all false
set_option maxRecDepth 100000
set_option maxHeartbeats 4000000
/-! in the suite: an own exception with fields -/
namespace Cw
open PySem PySem.Spec L2
end Cw
set_option Elab.async false
set_option linter.all false
set_option maxRecDepth 100000
set_option maxHeartbeats 4000000
/-! several except clauses that name what they caught -/
namespace Cw
open PySem PySem.Spec PyProof.Rows L2
/-- a clause's ends: its name goes -/
def gone (i : Nat) (D : Ends) : Ends := { nx := fun σ' H' => D.nx (σ'.set i none) H', rt := D.rt, bk := fun σ' H' => D.bk (σ'.set i none) H', ct := fun σ' H' => D.ct (σ'.set i none) H' }
def wManyA (K : PySem.W.Frag) (i m : Nat) (Wout : WX) (D : Ends) : List (Value × (Addr → Value → Option Addr → TS)) → WX
  | [] => Wout
  | (c, ts) :: r => fun cls d σ H => ∃ b, PySem.W.exmOne K cls c = some b ∧ (b = true → ∀ a, H a = none → σ.length = m → ts a cls d (gone i D) (σ.set i (some (.ref a))) H) ∧ (b = false → wManyA K i m Wout D r cls d σ H)
inductive HdsA (X : Cx) (n : Str) : List ExceptHandler → List (Value × (Addr → Value → Option Addr → TS)) → Prop
  | nil : HdsA X n [] []
  | cons {x : Str} {c : Value} {ts : Addr → Value → Option Addr → TS} {b₀ : Stmt} {suite : List Stmt} {np pos' : PySem.Pos} {hds : List ExceptHandler} {l : List (Value × (Addr → Value → Option Addr → TS))} (hc : Names X x c)
      (hsu : ∀ (a : Addr) (oe : Obj) (cls : Value) (d : Option Addr) (pn : List (Addr × Obj)), Zc cls d oe → (∃ vs, oe.data = .fields vs) → PSs (X.suite a ((a, oe) :: pn)) (b₀ :: suite) (ts a cls d)) (r : HdsA X n hds l) :
      HdsA X n (.ExceptHandler (some (.Name x np)) (some n) (b₀ :: suite) pos' :: hds) ((c, ts) :: l)
section
variable {X : Cx} {n : Str} {i : Nat} {body : List Stmt} {h₀ : ExceptHandler} {hds : List ExceptHandler} {l : List (Value × (Addr → Value → Option Addr → TS))} {pos : PySem.Pos} {tb : WX → TS} {Wout : WX}
theorem ps_try_manyA (hs : X.stack = X.env :: X.outer) (hf : X.env.frame = some X.env.locals) (hN : X.N.Nodup) (hi : X.N[i]? = some n) (hln : X.env.kindOf n = some .local) (tk : Takes X Wout)
    (hb : ∀ (W : WX) (pn : List (Addr × Obj)) (xe : Value → Shared → Prop), Takes (X.tr pn xe) W → PassesOwn (model X.prog X.w) X.A X.env xe → PSs (X.tr pn xe) body (tb W))
    (hh : HdsA X n (h₀ :: hds) l) : PS X (.Try body (h₀ :: hds) [] [] pos) (fun D σ H => tb (wManyA X.K i X.N.length Wout D l) D σ H) := by
  refine ⟨fun pins s σ H D I h => ?_⟩
  have ok := I.ok
  have hfr : X.A.frames = some (X.env :: X.outer) := by rw [ok.frames, hs]
  have hloc : Loc X.env.scope n := .inl hln
  refine wpAny_Try_except ?_
  refine wpAny_mono ((hb (wManyA X.K i X.N.length Wout D l) (X.pn ++ pins) (fun e s₁ => wpAny (model X.prog X.w) X.A (noteFrame e X.env) (fun _ s₂ => wpAny (model X.prog X.w) X.A (setFlight e none) (fun _ s₃ =>
    wpAny (model X.prog X.w) X.A (handleBy e X.env (h₀ :: hds)) (SP X pins D) X.xe s₃) X.xe s₂) X.xe s₁) (fun u s' xx => ?_) PassesOwn.looking).run [] s σ H D (I.toTry _) h) (fun f s1 hsp => ?_) (fun e s1 he => he)
  · obtain ⟨a, B, sI, pins', σ', H', cls, d, rfl, J', nb, up, sky, na, os, ag, w⟩ := xx
    have J : Inv X pins σ' H' sI := J'.ofTry ok
    have sky' : Sky B (X.env :: X.outer) a (Zc cls d) X.env.locals s'.heap := by rw [← hs]; exact sky
    show wpAny (model X.prog X.w) X.A (noteFrame (.ref a) X.env) _ _ _
    refine Sky.land Zc.steady hfr hf sky' fun h3 fl3 up3 => ?_
    have J3 : Inv X pins σ' H' { s' with heap := h3 } := J.landed nb fl3.1 (up.trans up3) os ag
    obtain ⟨oe3, vs3, he3, hz3, hd3⟩ := fl3.there
    have notFr : ∀ {h : Heap} {o : Obj} {vs : Array Value}, h.FunFrames B (X.env :: X.outer) → h.get? a = some o → o.data = .fields vs → a ∉ frs (X.env :: X.outer) := fun {h o vs} ff e dd hm => by
      obtain ⟨_, o', e', hnf⟩ := ff.mem hm
      rw [e] at e'; cases e'
      exact hnf _ dd
    have nfr := notFr fl3.2.2.1 he3 hd3
    have nL : a ≠ X.env.locals := fun z => nfr (List.mem_filterMap.mpr ⟨X.env, List.mem_cons_self, by rw [hf, z]⟩)
    have nF : a ∉ X.fs := fun hm => by
      obtain ⟨e, he, q⟩ := List.mem_filterMap.mp hm
      exact nfr (List.mem_filterMap.mpr ⟨e, List.mem_cons_of_mem _ he, q⟩)
    have S3 := J3.suite he3 hd3 na nL nF
    have go : ∀ {hds' : List ExceptHandler} {l' : List (Value × (Addr → Value → Option Addr → TS))}, HdsA X n hds' l' → wManyA X.K i X.N.length Wout D l' cls d σ' H' →
        wpAny (model X.prog X.w) X.A (handleBy (.ref a) X.env hds') (SP X pins D) X.xe { s' with heap := h3 } := by
      intro hds' l' hk
      induction hk with
      | nil =>
        intro w
        refine wpAny_handleBy_nil ?_
        obtain ⟨k1, k2, k3, oe, vs, T, oT, ts', he, hz, hd, h1, hr⟩ := id fl3
        unfold PySem.passOn
        refine wpAny_bind (wpAny_field he hd h1 ?_)
        rw [if_neg (show ¬ ((Value.ref T == Value.none) = true) from by simp)]
        have fin : wpAny (model X.prog X.w) X.A (setFlight (.ref a) X.env.frame) (fun _ s4 => wpAny (model X.prog X.w) X.A (throw (.ref a) : Sem Flow) (SP X pins D) X.xe s4) X.xe { s' with heap := h3 } := by
          rw [hf]
          refine HandSPX.setFlight_upZ fl3 fun h4 hh4 up4 => wpAny_throw (tk _ _ ?_)
          exact ⟨a, B, sI, pins, σ', H', cls, d, rfl, J, nb, (up.trans up3).trans up4, .inr (.inr (by rw [hs]; exact hh4)), na, os, ag, w⟩
        first
          | exact wpAny_bind (wpAny_pure (wpAny_bind fin))
          | exact wpAny_bind fin
      | @cons x c ts b₀ suite np pos' hds2 l2 hc hsu r ih =>
        intro w
        obtain ⟨b, hb1, hyes, hno⟩ := w
        refine wpAny_handleBy_cons (codeAny_handlers_test ?_) (by intro q; cases q)
        have LT : PySem.W.Looks (model X.prog X.w) h3 (typeOf (.ref a)) cls := fun A Q E s k q => wpAny_typeOf_ref (k _ _ he3) (by rw [hz3.1]; exact q)
        have LM := PySem.W.exm_one (M := model X.prog X.w) (J3.kIn) LT hb1
        have test : ∀ {Q : Value → Shared → Prop} {E : Value → Shared → Prop}, Q c { s' with heap := h3 } → wpAny (model X.prog X.w) (X.A.mark (some (.ref a))) (eval (.Name x np) X.env) Q E { s' with heap := h3 } := fun {Q E} q => by
          obtain ⟨hg, hdbg, hm | ⟨hm, hv, hnn⟩⟩ := hc
          · exact ld_glob (X := X.suite a ((a, oe3) :: (X.pn ++ pins))) S3 hg hm q hdbg
          · exact ld_blt (X := X.suite a ((a, oe3) :: (X.pn ++ pins))) S3 hg hm hv q hnn hdbg
        refine test (LM.here ?_)
        cases b with
        | true =>
          refine codeAny_handlers_suite_as ?_
          refine HandSPX.lands_againZ fl3 fun h4 fl4 up4 => ?_
          have J4 : Inv X pins σ' H' { s' with heap := h4 } := J.landed nb fl4.1 ((up.trans up3).trans up4) os ag
          obtain ⟨oe4, vs4, he4, hz4, hd4⟩ := fl4.there
          have S4 := J4.suite he4 hd4 na nL nF
          refine store_ok (X := X.suite a ((a, oe4) :: (X.pn ++ pins))) (v := .ref a) S4 hN hi hloc rfl (fun s5 S5 => ?_) (.inr hln)
          refine wpAny_mono ((hsu a oe4 cls d (X.pn ++ pins) hz4 ⟨_, hd4⟩).run [] s5 _ H' _ S5 (hyes rfl a na J.len)) (fun f s6 hsp => ?_) (fun _ _ z => False.elim z)
          have end_ : ∀ {σ6 : L2.St} {H6 : Hp} {Q : Shared → Prop}, Inv (X.suite a ((a, oe4) :: (X.pn ++ pins))) [] σ6 H6 s6 → (∀ s7, Inv X pins (σ6.set i none) H6 s7 → Q s7) →
              wpAny (model X.prog X.w) X.A (do bindName X.env n .none; unbindBehindTheSuite X.env n pos') (fun _ s7 => Q s7) X.xe s6 := fun {σ6 H6 Q} S6 hq => gone_ok (S6.unsuite ok) hN hi hln hq
          cases f with
          | next =>
            obtain ⟨σ6, H6, S6, q6⟩ := hsp
            exact end_ S6 fun s7 J7 => ⟨_, _, J7, q6⟩
          | brk =>
            obtain ⟨σ6, H6, S6, q6⟩ := hsp
            exact end_ S6 fun s7 J7 => ⟨_, _, J7, q6⟩
          | cont =>
            obtain ⟨σ6, H6, S6, q6⟩ := hsp
            exact end_ S6 fun s7 J7 => ⟨_, _, J7, q6⟩
          | ret u =>
            obtain ⟨v6, σ6, H6, S6, r6, q6⟩ := hsp
            exact end_ S6 fun s7 J7 => ⟨_, _, _, J7, r6, q6⟩
        | false =>
          show wpAny _ X.A (handleBy (.ref a) X.env hds2) _ _ _
          exact ih (hno rfl)
    exact go hh w
  · cases f with
    | next =>
      obtain ⟨σ', H', J', q⟩ := hsp
      exact wpAny_execs_nil ⟨σ', H', J'.ofTry ok, q⟩
    | brk =>
      obtain ⟨σ', H', J', q⟩ := hsp
      exact ⟨σ', H', J'.ofTry ok, q⟩
    | cont =>
      obtain ⟨σ', H', J', q⟩ := hsp
      exact ⟨σ', H', J'.ofTry ok, q⟩
    | ret u =>
      obtain ⟨v, σ', H', J', r, q⟩ := hsp
      exact ⟨v, σ', H', J'.ofTry ok, r, q⟩
end
theorem e_mkE {C : Addr} {sp : Sp} {dvs : List V} {ta : TA} {σ : L2.St} {H : Hp} {Q : XK} (q : ta σ H fun vs H1 => vs.length ≤ 1000 ∧ ∀ a, H1 a = none → sp (.ref a :: (vs ++ dvs)) (upd H1 a (exo a C none))
  (fun v H2 => v = .non ∧ ∃ (d : Addr) (fs : List (Str × V)), H2 a = some (exo a C (some d)) ∧ H2 d = some (exd d fs) ∧ H1 d = none ∧ Q (.ref C) (some d) (upd (del H2 a) d (.xd fs))) (fun _ _ _ => False)) : tMkO C sp dvs ta σ H Q := q
end Cw
set_option Elab.async false
set_option linter.all false
set_option maxRecDepth 100000
set_option maxHeartbeats 4000000
/-! C(..) whose __init__ may raise -/
namespace Cw
open PySem PySem.Spec L2
section
variable {P : Program} {w : World} {K : PySem.W.Frag} {mg : Str → Option Value} {base : Heap} {k : Nat} {C : Addr} {x qual : Str} {ps N : List Str} {sp sp0 : Sp} {st : Stmt} {dvs : List V}
theorem MAtD.makeX (F : MAtD K C "__init__" qual st dvs) (cf : ClsF K mg x C) (S : FnScope N ps (defScope st)) (hd : dvs ≠ [])
    (hb : ∀ (T : Addr) (kV doc pm : Value) (an : Option Addr) (cdv ct : Value) (us its : List Value), us.length = ps.length → its.length = dvs.length →
      ∃ k, bindArgs (PySem.W.fnOf "__init__" qual (defArgs st) (defBody st) (defScope st) (.ref T) kV doc pm an cdv ct) ⟨us, []⟩ = seqItems? (.ref T) >>= k ∧ k (some its.toArray) = pure (ps.zip (us ++ its.drop dvs.length)))
    (len : ∀ vs H Q E, sp0 vs H Q E → vs.length = ps.length) (cv : Conv C sp0 sp)
    (hbody : ∀ (f : Addr) (cdv : Value) (A : Around) (outer : List Env) (s : Shared) (H : Hp) (vs : List V) (Q : VK) (E : XK), Room k (A.deeper (PyProof.Rows.envOfC qual (defScope st) s.heap.objs.size f cdv)) → sp0 vs H Q E →
      ∃ t, PSs (cxOf (L2.CX P w) P w K mg base N qual (defScope st) f cdv A outer s H E) (defBody st) t ∧ t { nx := fun _ H' => Q .non H', rt := Q } (start N vs) H) : CMk P w K mg base (L2.CX P w) (k + 1) x C sp ps qual st dvs := by
  obtain ⟨f, fd, h1, h2, F⟩ := F.ex
  have B : Binds K fd ps [] := by
    obtain ⟨ds, r, b⟩ := F.binds1 (ps := ps) ps.length dvs.length hd (by omega) fun T kV doc pm an cdv ct us its l1 l2 => hb T kV doc pm an cdv ct us its l1 l2
    rw [List.drop_of_length_le (Nat.le_refl _)] at r
    cases r
    exact b
  exact ⟨f, fd, sp0, cf.at, ⟨cf.mks, h1, h2, cf.kp⟩, B, F.ok S len fun cdv A outer s H vs Q E hr h => hbody f cdv A outer s H vs Q E hr h, cv, F⟩
end
end Cw
set_option Elab.async false
set_option linter.all false
set_option maxRecDepth 100000
set_option maxHeartbeats 4000000
/-! defs that make lambdas: their code objects are named -/
namespace Cw
open PySem PySem.Spec L2
structure FunC (K : PySem.W.Frag) (x qual : Str) (st : Stmt) (f : Addr) (fd : FuncData) (c : Addr) : Prop where
  ex : ∃ oc od kV doc pm an ct osl, fd = PySem.W.fnOf x qual (defArgs st) (defBody st) (defScope st) .none kV doc pm an (.ref c) ct ∧ K.lookup f = some ⟨oc, od, .func fd, osl⟩ ∧ PySem.W.codeIn K (.ref c) qual = true
  kp : PySem.W.keepIn K (.ref f) = true
structure FnAtC (K : PySem.W.Frag) (mg : Str → Option Value) (x : Str) (st : Stmt) (c : Addr) : Prop where
  ex : ∃ f fd, mg x = some (.ref f) ∧ FunC K x x st f fd c
theorem FunC.fn {K : PySem.W.Frag} {x qual : Str} {st : Stmt} {f : Addr} {fd : FuncData} {c : Addr} (F : FunC K x qual st f fd c) : Fun K x qual st f fd := by
  obtain ⟨oc, od, kV, doc, pm, an, ct, osl, e, lk, hcd⟩ := F.ex
  exact ⟨⟨oc, od, kV, doc, pm, an, .ref c, ct, osl, e, lk, hcd⟩, F.kp⟩
theorem FnAtC.fn {K : PySem.W.Frag} {mg : Str → Option Value} {x : Str} {st : Stmt} {c : Addr} (F : FnAtC K mg x st c) : FnAt K mg x st := by
  obtain ⟨f, fd, hm, G⟩ := F.ex
  exact ⟨f, fd, hm, G.fn⟩
section
variable {P : Program} {w : World} {K : PySem.W.Frag} {mg : Str → Option Value} {base : Heap} {k : Nat} {x qual : Str} {ps N : List Str} {sp : Sp} {st : Stmt} {c f : Addr} {fd : FuncData}
theorem FunC.ok (F : FunC K x qual st f fd c) (S : FnScope N ps (defScope st)) (len : ∀ vs H Q E, sp vs H Q E → vs.length = ps.length)
    (hbody : ∀ (A : Around) (outer : List Env) (s : Shared) (H : Hp) (vs : List V) (Q : VK) (E : XK), Room k (A.deeper (PyProof.Rows.envOfC qual (defScope st) s.heap.objs.size f (.ref c))) → sp vs H Q E →
      ∃ t, PSs (cxOf CX0 P w K mg base N qual (defScope st) f (.ref c) A outer s H E).nox (defBody st) t ∧ t { nx := fun _ H' => Q .non H', rt := Q } (start N vs) H) : FnOk P w K mg base CX0 (k + 1) f fd ps sp := by
  obtain ⟨oc, od, kV, doc, pm, an, ct, osl, rfl, lk, hcd⟩ := F.ex
  refine fn_of lk hcd S len fun A outer s H vs Q E hr hsp => ?_
  obtain ⟨t, h, q⟩ := hbody A outer s H vs Q E hr hsp
  exact ⟨t, h.nox, q⟩
theorem FnAtC.ok (F : FnAtC K mg x st c) (S : FnScope N ps (defScope st))
    (hb : ∀ (kV doc pm : Value) (an : Option Addr) (cdv ct : Value) (us : List Value), us.length = ps.length → bindArgs (PySem.W.fnOf x x (defArgs st) (defBody st) (defScope st) .none kV doc pm an cdv ct) ⟨us, []⟩ = pure (ps.zip us))
    (len : ∀ vs H Q E, sp vs H Q E → vs.length = ps.length)
    (hbody : ∀ (f : Addr) (A : Around) (outer : List Env) (s : Shared) (H : Hp) (vs : List V) (Q : VK) (E : XK), Room k (A.deeper (PyProof.Rows.envOfC x (defScope st) s.heap.objs.size f (.ref c))) → sp vs H Q E →
      ∃ t, PSs (cxOf CX0 P w K mg base N x (defScope st) f (.ref c) A outer s H E).nox (defBody st) t ∧ t { nx := fun _ H' => Q .non H', rt := Q } (start N vs) H) : Def P w K mg base CX0 (k + 1) x ps sp := by
  obtain ⟨f, fd, hm, G⟩ := F.ex
  exact ⟨f, fd, hm, G.kp, ⟨G.fn.binds hb, funLk G.fn⟩, G.ok S len fun A outer s H vs Q E hr h => hbody f A outer s H vs Q E hr h⟩
end
/-! ### what stays behind a lambda -/
section
variable {H H' H2 : Hp} {T : List (Addr × Str)}
theorem ext_of (s : Same H H') : LamX.ExtN H H' := LamX.ExtN.of s
theorem tabs_same (t : LamX.Tabs T H) (s : Same H H') : LamX.Tabs T H' := t.ext s
theorem tabs_keep {p : Addr} {o : HO} (t : LamX.Tabs T H) (k : Keep p H H') (hp : H p = some o) (h1 : ∀ ps, o ≠ .tbl ps) (h2 : ∀ c q, o ≠ LamX.CodeO c q) : LamX.Tabs T H' := fun x hx => by
  obtain ⟨ps, e, tr, al⟩ := t x hx
  refine ⟨ps, k _ _ e (fun z => ?_), tr, fun pos cv hc => ?_⟩
  · rw [z, hp] at e
    exact h1 _ (Option.some.inj e)
  · obtain ⟨c, ec, e2⟩ := al pos cv hc
    refine ⟨c, ec, k _ _ e2 fun z => ?_⟩
    rw [z, hp] at e2
    exact h2 _ _ (Option.some.inj e2)
theorem codeO_dK {c : Addr} {q : Str} {kvs : List (Key × V)} : HO.dK kvs ≠ LamX.CodeO c q := fun z => by
  have z' : HO.dK kvs = HO.ext _ := z
  cases z'
end
end Cw
set_option Elab.async false
set_option linter.all false
set_option maxRecDepth 100000
set_option maxHeartbeats 4000000
/-! tuples of the same values, compared -/
namespace Cw
open PySem PySem.Spec PyProof.Rows L2
def Plainly (v : V) : Prop := flatB v = true ∨ ∃ r, v = .ref r
def rNeS : R2 := fun x y H Q => ∃ a b xs, x = .ref a ∧ y = .ref b ∧ H a = some (.tup xs) ∧ H b = some (.tup xs) ∧ (∀ v ∈ xs, Plainly v) ∧ Q (.bl false) H
def rEqS : R2 := fun x y H Q => ∃ a b xs, x = .ref a ∧ y = .ref b ∧ H a = some (.tup xs) ∧ H b = some (.tup xs) ∧ (∀ v ∈ xs, Plainly v) ∧ Q (.bl true) H
theorem OpR.or {X : Cx} {op : Value → Value → Sem Value} {r1 r2 : R2} (h1 : OpR X op r1) (h2 : OpR X op r2) : OpR X op (fun x y H Q => r1 x y H Q ∨ r2 x y H Q) := by
  intro pins s σ H x y v u Q I rx ry h
  rcases h with h | h
  · exact h1 pins s σ H x y v u Q I rx ry h
  · exact h2 pins s σ H x y v u Q I rx ry h
theorem items_at {A : Around} {s : Shared} {xs : List V} (hx : ∀ v ∈ xs, Plainly v) : ∀ {us ws : List Value}, Vals xs us → Vals xs ws → ∀ j (h1 : j < us.length) (h2 : j < ws.length), SeqAt.EqAt A s us[j] ws[j] true := by
  induction xs with
  | nil =>
    intro us ws r1 r2 j h1 h2
    cases r1
    exact absurd h1 (Nat.not_lt_zero j)
  | cons v r ih =>
    intro us ws r1 r2 j h1 h2
    cases r1 with
    | cons a1 b1 =>
      cases r2 with
      | cons a2 b2 =>
        cases j with
        | zero =>
          rcases hx v (List.mem_cons_self ..) with f | ⟨q, rfl⟩
          · exact eqAt_same a1 a2 f
          · cases (show _ = Value.ref q from a1)
            cases (show _ = Value.ref q from a2)
            exact SeqAt.EqAt.same _
        | succ j => exact ih (fun z hz => hx z (List.mem_cons_of_mem _ hz)) b1 b2 j (Nat.lt_of_succ_lt_succ h1) (Nat.lt_of_succ_lt_succ h2)
theorem all_true (n : Nat) : ((List.range n).all fun _ => true) = true := List.all_eq_true.mpr fun _ _ => rfl
theorem isTup {h : Heap} {a : Addr} {its : Array Value} (t : IsTup h a its) : h.IsTuple a its := by
  first | exact t | exact t.1 | exact t.isTuple
section
variable {X : Cx} {K : PySem.W.Frag}
theorem op_neS (hu : X.A.units + 1 < cLine) : OpR X (compareOp .NotEq) rNeS := by
  intro pins s σ H x y v u Q I rx ry h
  obtain ⟨a, b, xs, rfl, rfl, ha, hb, hx, q⟩ := h
  cases (show v = Value.ref a from rx)
  cases (show u = Value.ref b from ry)
  obtain ⟨us, r1, p1, _⟩ := I.tuple (SqT.of ha)
  obtain ⟨ws, r2, p2, _⟩ := I.tuple (SqT.of hb)
  have hsz : us.length = ws.length := r1.length.symm.trans r2.length
  refine SeqAt.RcNeAt.tuples (e := fun _ => true) (isTup p1) (isTup p2) (Nat.lt_of_succ_lt hu) (fun j h1 h2 => ?_) X.prog X.w _ _ ?_
  · have k := items_at (A := X.A.in1) (s := s) hx r1 r2 j (by simpa using h1) (by simpa using h2)
    simpa using k
  · rw [all_true, Bool.true_and, show (us.toArray.size == ws.toArray.size) = true by simp [hsz]]
    exact ⟨.bl false, H, I, rfl, q⟩
theorem op_eqS (hu : X.A.units + 1 < cLine) : OpR X (compareOp .Eq) rEqS := by
  intro pins s σ H x y v u Q I rx ry h
  obtain ⟨a, b, xs, rfl, rfl, ha, hb, hx, q⟩ := h
  cases (show v = Value.ref a from rx)
  cases (show u = Value.ref b from ry)
  obtain ⟨us, r1, p1, _⟩ := I.tuple (SqT.of ha)
  obtain ⟨ws, r2, p2, _⟩ := I.tuple (SqT.of hb)
  have hsz : us.length = ws.length := r1.length.symm.trans r2.length
  refine SeqAt.RcAt.tuples (e := fun _ => true) (isTup p1) (isTup p2) (Nat.lt_of_succ_lt hu) (fun j h1 h2 => ?_) X.prog X.w _ _ ?_
  · have k := items_at (A := X.A.in1) (s := s) hx r1 r2 j (by simpa using h1) (by simpa using h2)
    simpa using k
  · rw [all_true, Bool.true_and, show (us.toArray.size == ws.toArray.size) = true by simp [hsz]]
    exact ⟨.bl true, H, I, rfl, q⟩
end
end Cw
set_option Elab.async false
set_option linter.all false
set_option maxRecDepth 100000
set_option maxHeartbeats 4000000
/-! list(text) -/
namespace Cw
open PySem PySem.Spec L2
end Cw
set_option Elab.async false
set_option linter.all false
set_option maxRecDepth 100000
set_option maxHeartbeats 4000000
/-! ascending pairs of kinds -/
namespace Cw
open PySem PySem.Spec L2
def pairLt (p q : List Nat) : Prop := p.getD 0 0 < q.getD 0 0 ∨ (p.getD 0 0 = q.getD 0 0 ∧ p.getD 1 0 < q.getD 1 0)
theorem pairLt_mk {a b c d : Nat} : pairLt [a, b] [c, d] ↔ a < c ∨ (a = c ∧ b < d) := Iff.rfl
theorem LET_asc : LET.Pairwise (· < ·) := by decide +kernel
theorem pairsOf_sorted (f : List (List Nat)) : (pairsOf f).Pairwise pairLt := by
  unfold pairsOf
  have key : ∀ l : List Nat, l.Pairwise (· < ·) → (l.flatMap fun a => (LET.filter fun b => decide ([a, b] ∈ f)).map fun b => [a, b]).Pairwise pairLt := by
    intro l
    induction l with
    | nil => intro _; exact .nil
    | cons a r ih =>
      intro h
      obtain ⟨h1, h2⟩ := List.pairwise_cons.mp h
      rw [List.flatMap_cons]
      refine List.pairwise_append.mpr ⟨?_, ih h2, ?_⟩
      · refine List.pairwise_map.mpr ((List.Pairwise.filter _ LET_asc).imp fun {x y} h => ?_)
        exact .inr ⟨rfl, h⟩
      · intro p hp q hq
        obtain ⟨x, _, rfl⟩ := List.mem_map.mp hp
        obtain ⟨c, hc, hq⟩ := List.mem_flatMap.mp hq
        obtain ⟨y, _, rfl⟩ := List.mem_map.mp hq
        exact .inl (h1 c hc)
  exact key LET LET_asc
theorem pairLt_irr {p q : List Nat} (h : pairLt p q) : p ≠ q := by
  rintro rfl
  unfold pairLt at h
  omega
/-- the pairs of a plan with the kinds ls, ascending -/
structure Prs (ls : List Nat) (ps : List (List Nat)) : Prop where
  srt : ps.Pairwise pairLt
  mem : ∀ p ∈ ps, ∃ a b, p = [a, b] ∧ a < b ∧ a ∈ ls ∧ b ∈ ls
theorem prs_eq {ls : List Nat} {ps f : List (List Nat)} (h : Prs ls ps) (hl : ∀ c ∈ ls, c ∈ LET) (e : ∀ a b, a ∈ LET → b ∈ LET → ([a, b] ∈ f ↔ [a, b] ∈ ps)) : pairsOf f = ps := by
  have nd1 : (pairsOf f).Nodup := pairsOf_nodup f
  have nd2 : ps.Nodup := h.srt.imp fun {a b} z => pairLt_irr z
  have p : (pairsOf f).Perm ps := (List.perm_ext_iff_of_nodup nd1 nd2).mpr fun q => by
    rw [pairsOf_mem]
    constructor
    · rintro ⟨a, b, rfl, ha, hb, hm⟩
      exact (e a b ha hb).mp hm
    · intro hq
      obtain ⟨a, b, rfl, _, ha, hb⟩ := h.mem q hq
      exact ⟨a, b, rfl, hl a ha, hl b hb, (e a b (hl a ha) (hl b hb)).mpr hq⟩
  refine p.eq_of_pairwise (le := pairLt) (fun a b ha hb h1 h2 => ?_) (pairsOf_sorted f) h.srt
  unfold pairLt at h1 h2
  omega
theorem Prs.app {ls : List Nat} {ps : List (List Nat)} (h : Prs ls ps) {a b : Nat} (ha : a ∈ ls) (hb : b ∈ ls) (lt : a < b) (up : ∀ p ∈ ps, pairLt p [a, b]) : Prs ls (ps ++ [[a, b]]) := by
  refine ⟨List.pairwise_append.mpr ⟨h.srt, List.pairwise_singleton _ _, fun p hp q hq => ?_⟩, fun p hp => ?_⟩
  · rw [List.mem_singleton.mp hq]
    exact up p hp
  · rcases List.mem_append.mp hp with z | z
    · exact h.mem p z
    · rw [List.mem_singleton.mp z]
      exact ⟨a, b, rfl, lt, ha, hb⟩
theorem Prs.filter {ls : List Nat} {ps : List (List Nat)} (h : Prs ls ps) (t : List Nat → Bool) : Prs ls (ps.filter t) := ⟨h.srt.sublist List.filter_sublist, fun p hp => h.mem p (List.mem_filter.mp hp).1⟩
theorem crossOf_mem {ls : List Nat} {ps : List (List Nat)} {a b : Nat} : b ∈ crossOf ls ps a ↔ b ∈ ls ∧ ([a, b] ∈ ps ∨ [b, a] ∈ ps) := by
  unfold crossOf
  rw [List.mem_filter, Bool.or_eq_true, decide_eq_true_iff, decide_eq_true_iff]
theorem Prs.in_ls {ls : List Nat} {ps : List (List Nat)} (h : Prs ls ps) {a b : Nat} (m : [a, b] ∈ ps) : a < b ∧ a ∈ ls ∧ b ∈ ls := by
  obtain ⟨x, y, e, l, hx, hy⟩ := h.mem _ m
  injection e with e1 e2
  injection e2 with e2 _
  subst e1
  subst e2
  exact ⟨l, hx, hy⟩
theorem Prs.ok {ls : List Nat} {ps : List (List Nat)} (h : Prs ls ps) : CrOk (crossOf ls ps) where
  sym a b hb := by
    obtain ⟨h1, h2⟩ := crossOf_mem.mp hb
    refine crossOf_mem.mpr ⟨?_, h2.symm⟩
    rcases h2 with z | z
    · exact (h.in_ls z).2.1
    · exact (h.in_ls z).2.2
  irr a ha := by
    obtain ⟨_, h2⟩ := crossOf_mem.mp ha
    rcases h2 with z | z
    · exact Nat.lt_irrefl _ (h.in_ls z).1
    · exact Nat.lt_irrefl _ (h.in_ls z).1
theorem Prs.tab {ls : List Nat} {ps : List (List Nat)} (h : Prs ls ps) (nd : ls.Nodup) (lt : ∀ c ∈ ls, c ∈ LET) (l8 : ls.length ≤ 8) : Tab ls (crossOf ls ps) where
  nd := nd
  lt := lt
  len := l8
  sub a ha b hb := by
    obtain ⟨h1, h2⟩ := crossOf_mem.mp hb
    refine ⟨h1, fun e => ?_, crossOf_mem.mpr ⟨ha, h2.symm⟩⟩
    subst e
    rcases h2 with z | z
    · exact Nat.lt_irrefl _ (h.in_ls z).1
    · exact Nat.lt_irrefl _ (h.in_ls z).1
  gl a ha := Nat.le_trans (List.length_filter_le _ _) l8
theorem asc_two {a b : Nat} (ha : a ∈ LET) (hb : b ∈ LET) (h : a < b) : ascOf [a, b] = [a, b] ∧ ascOf [b, a] = [a, b] := by
  have p : (ascOf [a, b]).Perm [a, b] := by
    refine (List.perm_ext_iff_of_nodup (ascOf_nodup _) (by simp; omega)).mpr fun c => ?_
    rw [ascOf_mem]
    refine ⟨fun z => z.2, fun z => ⟨?_, z⟩⟩
    simp only [List.mem_cons, List.not_mem_nil, or_false] at z
    rcases z with rfl | rfl
    · exact ha
    · exact hb
  have s1 : (ascOf [a, b]).Pairwise (· < ·) := List.Pairwise.filter _ LET_asc
  have e : ascOf [a, b] = [a, b] := p.eq_of_pairwise (fun a b _ _ h1 h2 => by omega) s1 (by simp [h])
  exact ⟨e, by rw [ascOf_congr (b := [a, b]) fun c => by simp [or_comm]]; exact e⟩
/-- pairs told in any way -/
theorem Prs.told {ls : List Nat} {ps q : List (List Nat)} (h : Prs ls ps) (lt : ∀ c ∈ ls, c ∈ LET) (h1 : ∀ p ∈ q, ∃ r ∈ ps, p = r ∨ p = r.reverse) (h2 : ∀ p ∈ ps, p ∈ q ∨ p.reverse ∈ q) : pairsOf (q.map ascOf) = ps := by
  refine prs_eq h lt fun a b ha hb => ?_
  rw [List.mem_map]
  have key : ∀ r ∈ ps, ascOf r = r ∧ ascOf r.reverse = r := fun r hr => by
    obtain ⟨x, y, rfl, l, hx, hy⟩ := h.mem r hr
    exact asc_two (lt x hx) (lt y hy) l
  constructor
  · rintro ⟨p, hp, e⟩
    obtain ⟨r, hr, z⟩ := h1 p hp
    rcases z with z | z
    · rw [z, (key r hr).1] at e
      exact e ▸ hr
    · rw [z, (key r hr).2] at e
      exact e ▸ hr
  · intro m
    rcases h2 _ m with z | z
    · exact ⟨_, z, (key _ m).1⟩
    · exact ⟨_, z, (key _ m).2⟩
end Cw
set_option Elab.async false
set_option linter.all false
set_option maxRecDepth 100000
set_option maxHeartbeats 4000000
/-! text[lo:hi:step] with a step that is drawn -/
namespace Cw
open PySem PySem.Spec L2
def stepS (l : List Nat) (lo hi : Option Int) (n : Int) : List Nat :=
  if (n == 1 && (Builtin.Str.strSliceIndices lo hi n l.length).length == l.length) = true then l else (Builtin.Str.strSliceIndices lo hi n l.length).filterMap (l[·]?)
def tSlSt (te : TE) (tl th ts : TO) : TE := fun σ H Q => te σ H fun x H1 => tl σ H1 fun o1 H2 => th σ H2 fun o2 H3 => ts σ H3 fun o3 H4 =>
  ∃ (l : List Nat) (n : Int), x = .str (tx l) ∧ o3 = some n ∧ n ≠ 0 ∧ (stepS l o1 o2 n).length ≤ 1000000 ∧ Q (.str (tx (stepS l o1 o2 n))) H4
section
variable {X : Cx}
theorem pe_slSt {e st : Expr} {te : TE} {lo hi : Option Expr} {tl th ts : TO} {p3 pos : PySem.Pos} (he : PE X e te) (hl : PO X lo tl) (hu : PO X hi th) (hst : PO X (some st) ts) : PE X (.Subscript e (.Slice lo hi (some st) p3) pos) (tSlSt te tl th ts) := by
  refine ⟨fun pins s σ H Q I h => ?_⟩
  refine PyProof.Rows.Subscript_ (thn (he.run pins s σ H _ I h) fun v s1 ⟨x, H1, I1, r1, q1⟩ => ?_)
  refine wpAny_Slice (thn (hl.run pins s1 σ H1 _ I1 q1) fun vl s2 ⟨o1, H2, I2, w1, q2⟩ => thn (hu.run pins s2 σ H2 _ I2 q2) fun vu s3 ⟨o2, H3, I3, w2, q3⟩ => thn (hst.run pins s3 σ H3 _ I3 q3) fun vs s4 ⟨o3, H4, I4, w3, l, n, ex, eo, n0, hlen, q⟩ => ?_)
  subst ex eo
  obtain ⟨t, rfl⟩ := r1
  obtain ⟨l1, rfl, m1⟩ := IsPart.raw w1
  obtain ⟨l2, rfl, m2⟩ := IsPart.raw w2
  obtain ⟨l3, rfl, m3⟩ := IsPart.raw w3
  have I5 : Inv X pins σ H4 { s4 with heap := s4.heap.push { cls := .type "slice", data := .fields #[partValue l1, partValue l2, partValue l3] } } := I4.kept (t' := s4.toks) fun b ob q => Heap.get?_push_of_some _ q
  show wpAny (model X.prog X.w) X.A (PyProof.Rows.subscriptTail e (.Slice lo hi (some st) p3) (.str (tx l) t) (.ref s4.heap.objs.size)) (EP X pins σ Q) X.xe _
  refine PyProof.Rows.tail_any (ops := [.str (tx l) t, .ref s4.heap.objs.size]) (typeIs_str _ _ _) F.slot_str_getitem.lookup ?_ (by with_unfolding_all rfl)
  refine wpAny_getItem_str_slice (l := l1) (u := l2) (st := l3) ⟨_, Heap.get?_push_size _ rfl, rfl, rfl⟩ (by rw [m3]; simpa using n0) ?_
  unfold sliceMade slicePicked
  rw [m1, m2, m3]
  show Made.post (if (n == 1 && (Builtin.Str.strSliceIndices o1 o2 n (tx l).length).length == (tx l).length) = true then Made.val (.str (tx l) t) else Made.str ⟨((Builtin.Str.strSliceIndices o1 o2 n (tx l).length).filterMap ((tx l).cps[·]?)).toArray⟩) _ _
  rw [tx_len]
  unfold stepS at q hlen
  by_cases c : (n == 1 && (Builtin.Str.strSliceIndices o1 o2 n l.length).length == l.length) = true
  · rw [if_pos c] at q ⊢
    exact ⟨.str (tx l), H4, I5, ⟨t, rfl⟩, q⟩
  · rw [if_neg c] at q hlen ⊢
    have e : (⟨((Builtin.Str.strSliceIndices o1 o2 n l.length).filterMap ((tx l).cps[·]?)).toArray⟩ : Str) = tx ((Builtin.Str.strSliceIndices o1 o2 n l.length).filterMap (l[·]?)) := by
      unfold tx
      simp
    rw [e]
    refine ⟨?_, .str _, H4, I5.tok _, ⟨_, rfl⟩, q⟩
    rw [tx_len]
    exact szl hlen
end
theorem v_slSt {te : TE} {tl th ts : TO} {σ : L2.St} {H : Hp} {Q : VK} (q : te σ H fun x H1 => tl σ H1 fun o1 H2 => th σ H2 fun o2 H3 => ts σ H3 fun o3 H4 =>
  ∃ (l : List Nat) (n : Int), x = .str (tx l) ∧ o3 = some n ∧ n ≠ 0 ∧ (stepS l o1 o2 n).length ≤ 1000000 ∧ Q (.str (tx (stepS l o1 o2 n))) H4) : tSlSt te tl th ts σ H Q := q
/-- the letters from which a plan is told -/
def goodL (l : List Nat) : Bool := decide (8 ≤ l.length) && decide (l.length ≤ 26) && decide ((l.take 8).Pairwise (· < ·)) && (l.take 8).all fun c => decide (c ∈ LET ∧ c ≠ 122)
theorem step_good : ∀ f : Nat, f < 3 → ∀ n : Int, n = 1 ∨ n = 3 → goodL (stepS LET (some (f : Int)) none n) = true := by
  intro f hf n hn
  have hf : f = 0 ∨ f = 1 ∨ f = 2 := by omega
  rcases hf with rfl | rfl | rfl <;> rcases hn with rfl | rfl <;> decide +kernel
end Cw
set_option Elab.async false
set_option linter.all false
set_option maxRecDepth 100000
set_option maxHeartbeats 4000000
/-! sorted of texts, any number of them -/
namespace Cw
open PySem PySem.Spec L2 PyProof.Rows SrtO
section
variable {prog : Program} {w : World} {A : Around} {s : Shared}
end
section
variable {X : Cx}
end
end Cw
set_option Elab.async false
set_option linter.all false
set_option maxRecDepth 100000
set_option maxHeartbeats 4000000
/-! sets of texts that can be walked: set(a list of texts), sorted(set(..)) -/
namespace Cw
open PySem PySem.Spec L2 PyProof.Rows SrtO
def strK (e : Int × Value) : Str := match e.2 with | .str x _ => x | _ => Str.empty
def GoodS (P : Program) (w : World) (e : Int × Value) : Prop := ∃ x t, e.2 = Value.str x t ∧ e.1 = (PySem.strKind P w).hash x
/-- the set at a holds just the texts of l, each once -/
def SetS (P : Program) (w : World) (h : Heap) (a : Addr) (l : List Str) : Prop :=
  ∃ o es ep t, h.get? a = some o ∧ o.ExactSet ∧ o.data = .set es ep t ∧ (∀ e ∈ es.toList, GoodS P w e) ∧ (es.toList.map strK).Perm l ∧ l.Nodup ∧
    es.size < scanBound ∧ t.fits es.size = true ∧ Ris t.place.toList ∧ (w.params.followText "set-order" = true ∨ t.led = true)
section
variable {P : Program} {w : World} {h h' : Heap} {a : Addr} {l : List Str}
theorem SetS.at (R : SetS P w h a l) (k : ∀ o, h.get? a = some o → h'.get? a = some o) : SetS P w h' a l := by
  obtain ⟨o, es, ep, t, ho, r⟩ := R
  exact ⟨o, es, ep, t, k o ho, r⟩
end
section
variable {P : Program} {w : World} {A : Around} {E : Value → Shared → Prop} {s : Shared} {a : Addr} {l : List Str}
end
section
variable {P : Program} {w : World} {A : Around} {R : Result → Shared → Prop} {J : Addr} {fp wr : List Addr} {n : Nat} {Y : Nat → Value → Prop} {St : Nat → Heap → Prop}
end
section
variable {P : Program} {w : World} {A : Around} {E : Value → Shared → Prop} {s : Shared}
end
/-! ### sorted(set), and the layer -/
theorem nodup_le {α : Type} [DecidableEq α] : ∀ {a b : List α}, a.Nodup → (∀ x ∈ a, x ∈ b) → a.length ≤ b.length
  | [], _, _, _ => Nat.zero_le _
  | x :: a, b, nd, h => by
    obtain ⟨n1, n2⟩ := List.nodup_cons.mp nd
    have hx := h x (List.mem_cons_self ..)
    have := nodup_le (b := b.erase x) n2 fun y hy => (List.mem_erase_of_ne fun e : y = x => n1 (e ▸ hy)).mpr (h y (List.mem_cons_of_mem _ hy))
    rw [List.length_erase_of_mem hx] at this
    have := List.length_pos_of_mem hx
    rw [List.length_cons]
    omega
section
variable {X : Cx}
end
end Cw
set_option Elab.async false
set_option linter.all false
set_option maxRecDepth 100000
set_option maxHeartbeats 4000000
/-! ascending pairs: of any pairs, sorted, told in any way -/
namespace Cw
open PySem PySem.Spec L2
theorem asc_pw (l : List Nat) : (ascOf l).Pairwise (· < ·) := List.Pairwise.filter _ LET_asc
theorem prs_of {ls : List Nat} {f : List (List Nat)} (h : PairsIn ls f) : Prs ls (pairsOf (f.map ascOf)) := by
  refine ⟨pairsOf_sorted _, fun p hp => ?_⟩
  obtain ⟨a, b, rfl, ha, hb, m⟩ := pairsOf_mem.mp hp
  obtain ⟨r, hr, e⟩ := List.mem_map.mp m
  obtain ⟨x, y, rfl, n, hx, hy⟩ := h r hr
  have s : ([a, b] : List Nat).Pairwise (· < ·) := e ▸ asc_pw [x, y]
  have ma : a ∈ ascOf [x, y] := by rw [e]; simp
  have mb : b ∈ ascOf [x, y] := by rw [e]; simp
  have i : ∀ c ∈ ascOf [x, y], c ∈ ls := fun c hc => by
    have z := (ascOf_mem.mp hc).2
    simp only [List.mem_cons, List.not_mem_nil, or_false] at z
    rcases z with rfl | rfl
    · exact hx
    · exact hy
  exact ⟨a, b, rfl, by simpa using s, i a ma, i b mb⟩
theorem Prs.nd {ls : List Nat} {ps : List (List Nat)} (h : Prs ls ps) : ps.Nodup := h.srt.imp fun {a b} z => pairLt_irr z
theorem pairs_len (la lb : List Nat) : (la.flatMap fun a => lb.map fun b => [a, b]).length = la.length * lb.length := by
  induction la with
  | nil => simp
  | cons a r ih => rw [List.flatMap_cons, List.length_append, List.length_map, ih, List.length_cons, Nat.succ_mul, Nat.add_comm]
theorem Prs.len {ls : List Nat} {ps : List (List Nat)} (h : Prs ls ps) (l8 : ls.length ≤ 8) : ps.length ≤ 64 := by
  refine Nat.le_trans (nodup_le (b := ls.flatMap fun a => ls.map fun b => [a, b]) h.nd fun p hp => ?_) ?_
  · obtain ⟨a, b, rfl, _, ha, hb⟩ := h.mem p hp
    exact List.mem_flatMap.mpr ⟨a, ha, List.mem_map.mpr ⟨b, hb, rfl⟩⟩
  · rw [pairs_len]
    exact Nat.mul_le_mul l8 l8
/-- the letters and the pairs of a drawn plan -/
structure LPlan (ls : List Nat) (ps : List (List Nat)) : Prop where
  prs : Prs ls ps
  asc : ls.Pairwise (· < ·)
  lt : ∀ c ∈ ls, c ∈ LET
  nz : ∀ c ∈ ls, c ≠ 122
  l8 : ls.length ≤ 8
theorem LPlan.lp {ls : List Nat} {ps : List (List Nat)} (h : LPlan ls ps) : ps.length ≤ 64 := h.prs.len h.l8
theorem LPlan.nd {ls : List Nat} {ps : List (List Nat)} (h : LPlan ls ps) : ls.Nodup := h.asc.imp fun {a b} z e => by omega
theorem LPlan.of {ls : List Nat} {ps f : List (List Nat)} (h : LPlan ls ps) (hf : PairsIn ls f) : LPlan ls (pairsOf (f.map ascOf)) := ⟨prs_of hf, h.asc, h.lt, h.nz, h.l8⟩
theorem LPlan.tail {ls : List Nat} {ps : List (List Nat)} (h : LPlan ls ps) (n : Nat) : LPlan ls (ps.drop n) := ⟨⟨h.prs.srt.sublist (List.drop_sublist _ _), fun p hp => h.prs.mem p (List.mem_of_mem_drop hp)⟩, h.asc, h.lt, h.nz, h.l8⟩
theorem Prs.pin {ls : List Nat} {ps : List (List Nat)} (h : Prs ls ps) : PairsIn ls ps := fun p hp => by
  obtain ⟨a, b, e, l, ha, hb⟩ := h.mem p hp
  exact ⟨a, b, e, by omega, ha, hb⟩
theorem Prs.told0 {ls : List Nat} {ps : List (List Nat)} (h : Prs ls ps) (lt : ∀ c ∈ ls, c ∈ LET) : pairsOf (ps.map ascOf) = ps := h.told lt (fun p hp => ⟨p, hp, .inl rfl⟩) fun p hp => .inl hp
theorem PairsIn.sub {l m : List Nat} {ps : List (List Nat)} (h : PairsIn l ps) (s : ∀ c ∈ l, c ∈ m) : PairsIn m ps := fun q hq => by
  obtain ⟨a, b, e, n, ha, hb⟩ := h q hq
  exact ⟨a, b, e, n, s a ha, s b hb⟩
theorem LPlan.kinds {ls : List Nat} {ps : List (List Nat)} (h : LPlan ls ps) : ascOf ls = ls := by
  have h1 : (ascOf ls).Perm ls := by
    refine (List.perm_ext_iff_of_nodup (ascOf_nodup ls) h.nd).mpr fun c => ?_
    rw [ascOf_mem]
    exact ⟨fun z => z.2, fun z => ⟨h.lt c z, z⟩⟩
  exact h1.eq_of_pairwise (fun a b _ _ h1 h2 => by omega) (asc_pw ls) h.asc
end Cw
set_option Elab.async false
set_option linter.all false
set_option maxRecDepth 100000
set_option maxHeartbeats 4000000
/-! some of a list of texts -/
namespace Cw
open PySem PySem.Spec L2
end Cw
set_option Elab.async false
set_option linter.all false
set_option maxRecDepth 100000
set_option maxHeartbeats 4000000
/-! a lambda kept in a name, handed to a def later -/
namespace Cw
open PySem PySem.Spec PyProof.Rows L2 LamX
/-- what a lambda is made of -/
structure LamD where
  params : Arguments
  body : Expr
  scope : Scope
/-- what its body reads -/
structure LamOk (X : Cx) (k : Nat) (d : LamD) (t : XK → TE) : Prop where
  L : LamS X.env.scope d.scope
  bind : ∀ (q : Str) (cl : List (Str × Addr)) (pm cv ctv : Value), bindArgs (PySem.W.kla_fn "<lambda>" q d.params d.body d.scope cl pm cv ctv) ⟨[], []⟩ = pure []
  body : ∀ (A : Around) (outer : List Env) (s : Shared) (H : Hp) (E : XK) (f c' : Addr), Room k (A.deeper (lamEnv X d.scope s.heap.objs.size f c')) → PE (lamCx X A outer s H E d.scope f c') d.body (t E)
section
variable {X : Cx} {pins : List (Addr × Obj)} {σ : L2.St} {H : Hp} {s : Shared}
end
end Cw
set_option Elab.async false
set_option linter.all false
set_option maxRecDepth 100000
set_option maxHeartbeats 4000000
/-! len of a dict -/
namespace Cw
open PySem PySem.Spec L2
end Cw
set_option Elab.async false
set_option linter.all false
set_option maxRecDepth 100000
set_option maxHeartbeats 4000000
/-! a comprehension over a dict's keys, the dict locked meanwhile -/
namespace Cw
open PySem PySem.Spec L2
/-- all but d stands as it stood; d is locked -/
structure Lk (d : Addr) (u : HO) (H H' : Hp) : Prop where
  at' : ∃ od, H' d = some (.frz od u)
  oth : ∀ b o, H b = some o → b ≠ d → H' b = some o
theorem Lk.same {d : Addr} {u : HO} {H H' H2 : Hp} (h : Lk d u H H') (s : Same H' H2) : Lk d u H H2 := ⟨h.at'.elim fun od e => ⟨od, s _ _ e⟩, fun b o e n => s _ _ (h.oth b o e n)⟩
/-- a test, cut off from what follows -/
def tCutT (t : TT) : TT := fun σ H Q => ∃ Mid : Bool → Hp → Prop, t σ H Mid ∧ ∀ b H', Mid b H' → Q b H'
theorem pt_cut {X : Cx} {e : Expr} {t : TT} (h : PT X e t) : PT X e (tCutT t) := by
  refine ⟨fun pins s σ H Q I q => ?_⟩
  obtain ⟨Mid, hm, hu⟩ := q
  exact thn (h.run pins s σ H Mid I hm) fun b s1 ⟨H1, I1, q1⟩ => ⟨H1, I1, hu b H1 q1⟩
theorem t_cut {t : TT} {σ : L2.St} {H : Hp} {Q : Bool → Hp → Prop} (Mid : Bool → Hp → Prop) (h : t σ H Mid) (q : ∀ b H', Mid b H' → Q b H') : tCutT t σ H Q := ⟨Mid, h, q⟩
end Cw
set_option Elab.async false
set_option linter.all false
set_option maxRecDepth 100000
set_option maxHeartbeats 4000000
/-! xs != ys of lists: their lengths differ, or they hold the same objects -/
namespace Cw
open PySem PySem.Spec L2
def rNeL (K : PySem.W.Frag) : R2 := fun x y H Q => ∃ a b xs ys, x = .ref a ∧ y = .ref b ∧ SqL K H a xs ∧ SqL K H b ys ∧ ((¬ xs.length = ys.length ∧ Q (.bl true) H) ∨ ((∃ As : List Addr, xs = As.map V.ref ∧ ys = As.map V.ref) ∧ Q (.bl false) H))
theorem vals_refs : ∀ {As : List Addr} {us : List Value}, Vals (As.map V.ref) us → us = As.map Value.ref
  | [], _, .nil => rfl
  | a :: As, _, .cons h t => by
    cases (show _ = Value.ref a from h)
    rw [vals_refs t]
    rfl
theorem op_neL {X : Cx} {K : PySem.W.Frag} (h : X.K = K) (hu : X.A.units < cLine) : OpR X (compareOp .NotEq) (rNeL K) := by
  subst h
  intro pins s σ H x y v u Q I rx ry h
  obtain ⟨a, b, xs, ys, rfl, rfl, ha, hb, h⟩ := h
  cases (show v = Value.ref a from rx)
  cases (show u = Value.ref b from ry)
  obtain ⟨us, r1, p1, _⟩ := I.list ha
  obtain ⟨ws, r2, p2, _⟩ := I.list hb
  have l1 := r1.length
  have l2 := r2.length
  rcases h with ⟨hn, q⟩ | ⟨⟨As, rfl, rfl⟩, q⟩
  · exact SeqAt.RcNeAt.lists_lengths p1.isList p2.isList (by rw [List.size_toArray, List.size_toArray, ← l1, ← l2]; simpa using hn) hu X.prog X.w _ _ ⟨.bl true, H, I, rfl, q⟩
  · obtain rfl := vals_refs r1
    obtain rfl := vals_refs r2
    refine SeqAt.RcNeAt.lists (e := fun _ => true) p1.isList p2.isList rfl hu (fun j h1 h2 => SeqAt.EqAt.same _) X.prog X.w _ _ ?_
    rw [show ((List.range (As.map Value.ref).toArray.size).all fun _ => true) = true from List.all_eq_true.mpr fun _ _ => rfl]
    exact ⟨.bl false, H, I, rfl, q⟩
end Cw
set_option Elab.async false
set_option linter.all false
set_option maxRecDepth 100000
set_option maxHeartbeats 4000000
/-! what the top has left, one lemma a kind -/
namespace Cw
open PySem PySem.Spec L2
section
variable {K : PySem.W.Frag} {h : Heap} {mg : Str → Option Value} {x m qual : Str} {st : Stmt} {f C T : Addr} {oc kV dc pm cd ct oc2 : Value} {od an od2 : Option Addr} {sl sl2 : Array (Option Value)}
theorem glob_mk {v : Value} (X : K.In h) (G : h.Ns mainGlobals mg) (a : PySem.W.nsIn K mainGlobals x = some (some v)) : mg x = some v := PySem.W.mg_of X G a
theorem fnAt_mk (X : K.In h) (G : h.Ns mainGlobals mg) (a : PySem.W.nsIn K mainGlobals x = some (some (.ref f))) (l : K.lookup f = some ⟨oc, od, .func (PySem.W.fnOf x x (defArgs st) (defBody st) (defScope st) .none kV dc pm an cd ct), sl⟩)
    (c : PySem.W.codeIn K cd x = true) (k : PySem.W.keepIn K (.ref f) = true) : FnAt K mg x st := ⟨f, _, PySem.W.mg_of X G a, fun_mk (st := st) l c k⟩
theorem mAt_mk (a : PySem.W.findIn K (.ref C) m = some (some (.ref f))) (i : PySem.W.isFn K (.ref f) = true) (l : K.lookup f = some ⟨oc, od, .func (PySem.W.fnOf m qual (defArgs st) (defBody st) (defScope st) .none kV dc pm an cd ct), sl⟩)
    (c : PySem.W.codeIn K cd qual = true) (k : PySem.W.keepIn K (.ref f) = true) : MAt K C m qual st := ⟨f, _, a, i, fun_mk (st := st) l c k⟩
theorem mAtD_mk {arr : Array Value} {n : Nat} {dvs : List V} (a : PySem.W.findIn K (.ref C) m = some (some (.ref f))) (i : PySem.W.isFn K (.ref f) = true) (l : K.lookup f = some ⟨oc, od, .func (PySem.W.fnOf m qual (defArgs st) (defBody st) (defScope st) (.ref T) kV dc pm an cd ct), sl⟩)
    (c : PySem.W.codeIn K cd qual = true) (k : PySem.W.keepIn K (.ref f) = true) (t : K.lookup T = some ⟨oc2, od2, .seq arr n, sl2⟩) (hv : Vals dvs arr.toList) (hd : dvs ≠ []) : MAtD K C m qual st dvs :=
  ⟨f, _, a, i, ⟨⟨oc, od, .ref T, kV, dc, pm, an, cd, ct, sl, rfl, l, c, .inr ⟨hd, T, _, arr.toList, n, rfl, t, rfl, hv⟩, .inl rfl⟩, k⟩⟩
theorem cls_mk (X : K.In h) (G : h.Ns mainGlobals mg) (a : PySem.W.nsIn K mainGlobals x = some (some (.ref C))) (pg : PySem.W.plainGet K C Str.empty = true) (hd : PySem.W.hasDictIn K C = true) (po : PySem.W.plainOver K C = true)
    (sa : PySem.W.findIn K (.ref C) "__setattr__" = some (some (.builtin "object.__setattr__"))) (mk : PySem.W.makesIn K C = true) (kc : PySem.W.keepIn K (.ref C) = true)
    (ha : PySem.W.findIn K (.ref C) "__class__" = some (some (.builtin "object.__class__"))) (hn : PySem.W.specialIn K (.builtin "object.__class__") "__get__" = some (some (.builtin "getset_descriptor.__get__"))) (ht : PySem.W.takesIn K (.builtin "object.__class__") = some true)
    (hm : PySem.W.mroIn K C (.type "object") = some true) (ob : PySem.W.subIn K (.ref C) (.type "object") = some true) (ne : PySem.W.findIn K (.ref C) "__ne__" = some (some (.builtin "object.__ne__"))) : ClsF K mg x C :=
  ⟨PySem.W.mg_of X G a, ⟨pg, hd, po, sa⟩, mk, kc, ha, hn, ht, hm, ob, ne⟩
end
end Cw
set_option Elab.async false
set_option linter.all false
set_option maxRecDepth 100000
set_option maxHeartbeats 4000000
/-! an own exception with fields: what the top has left of it -/
namespace Cw
open PySem PySem.Spec L2
theorem exE_mk {P : Program} {K : PySem.W.Frag} {h : Heap} {mg : Str → Option Value} {x qual nm q : Str} {st : Stmt} {C N f cda cc : Addr} {bs bm sub : List Value} {sn : List Str} {ab : Bool} {col : Option Bool} {dd : Option Addr} {k0 k1 k2 k3 k5 : Option Value}
    {oc kV doc pm ct ccl cl : Value} {od an cdd cld : Option Addr} {sl ccs csl : Array (Option Value)} {vs : Array Value} {file : Str} {tf : Tok} {ar : Arg}
    (X : K.In h) (G : h.Ns mainGlobals mg) (a : PySem.W.nsIn K mainGlobals x = some (some (.ref C)))
    (lk : K.lookup C = some (excClassObj nm q C N bs bm true sn sub ab col dd k0 k1 k2 k3 k5 "ValueError.__new__")) (rv : PySem.HandSPX.refsVE bm = true)
    (sa : PySem.W.findIn K (.ref C) "__setattr__" = some (some (.builtin "object.__setattr__"))) (hs : PySem.W.subIn K (.ref C) (.type "BaseException") = some true) (ty : PySem.W.typeIn K (.ref C) = some (.type "type")) (k : PySem.W.keepIn K (.ref C) = true)
    (hg : PySem.W.findIn K (.ref C) "__getattribute__" = some (some (.builtin "BaseException.__getattribute__"))) (hk : PySem.W.findIn K (.ref C) "__getattr__" = some none) (hd : PySem.W.hasDictIn K C = true)
    (ha : PySem.W.findIn K (.ref C) "__class__" = some (some (.builtin "object.__class__"))) (hn : PySem.W.specialIn K (.builtin "object.__class__") "__get__" = some (some (.builtin "getset_descriptor.__get__"))) (ht : PySem.W.takesIn K (.builtin "object.__class__") = some true) (hm : PySem.W.mroIn K C (.type "object") = some true)
    (fi : PySem.W.findIn K (.ref C) "__init__" = some (some (.ref f))) (ti : PySem.W.typeIn K (.ref f) = some (.type "function"))
    (lf : K.lookup f = some ⟨oc, od, .func (PySem.W.fnX "__init__" qual (defArgs st) (defBody st) (defScope st) [(("__class__" : Str), cc)] .none kV doc pm an (.ref cda) ct), sl⟩)
    (cd : PySem.W.codeIn K (.ref cda) qual = true) (par : ((defArgs st).posonlyargs ++ (defArgs st).args).head? = some ar) (par2 : ar.arg = "self")
    (lc : K.lookup cda = some ⟨ccl, cdd, .fields vs, ccs⟩) (v2 : vs[2]? = some (.str file tf)) (fe : ((P.main.file : Str) == file) = true) (top : (P.main.scope.names.lookup ("super" : Str)).isSome = false)
    (lcc : K.lookup cc = some ⟨cl, cld, .cell (some (.ref C)), csl⟩) (op : PySem.W.nsIn K PySem.cStatics "thirdparty.any" = some none) (up : PySem.W.ks_superIn K C C "__init__" = some (some (.builtin "ValueError.__init__"))) : ExcE P K mg x C qual st :=
  ⟨PySem.W.mg_of X G a, ⟨⟨_, _, _, _, _, _, _, _, _, _, _, _, _, _, _, lk, rv⟩, sa, hs, ty, k⟩, ⟨hg, hk, hs, hd⟩, ⟨hg, hk, hs, hd, ha, hn, ht, hm⟩, f, cda, cc, _, kV, doc, pm, an, ct, fi, ti, rfl, cd, ⟨_, _, _, lf⟩, ⟨ar, par, par2⟩, ⟨_, _, _, _, _, _, lc, v2, fe⟩, top, ⟨_, _, _, lcc⟩, op, up⟩
end Cw
set_option Elab.async false
set_option linter.all false
set_option maxRecDepth 100000
set_option maxHeartbeats 4000000
/-! the end of a law whose defs make lambdas -/
namespace Cw
open PySem PySem.Spec L2
section
variable {K : PySem.W.Frag} {h : Heap} {mg : Str → Option Value} {x qual : Str} {f fa c : Addr} {st : Stmt} {oc kV dc pm ct : Value} {od an : Option Addr} {sl : Array (Option Value)}
theorem fnAtC_mk (X : K.In h) (G : h.Ns mainGlobals mg) (a : PySem.W.nsIn K mainGlobals x = some (some (.ref f))) (l : K.lookup f = some ⟨oc, od, .func (PySem.W.fnOf x x (defArgs st) (defBody st) (defScope st) .none kV dc pm an (.ref c) ct), sl⟩)
    (cd : PySem.W.codeIn K (.ref c) x = true) (k : PySem.W.keepIn K (.ref f) = true) : FnAtC K mg x st c := ⟨f, _, PySem.W.mg_of X G a, ⟨⟨oc, od, kV, dc, pm, an, ct, sl, rfl, l, cd⟩, k⟩⟩
theorem funC1_mk (X : K.In h) (G : h.Ns mainGlobals mg) (hm : mg x = some (.ref fa)) (a : PySem.W.nsIn K mainGlobals x = some (some (.ref f))) (l : K.lookup f = some ⟨oc, od, .func (PySem.W.fnOf x x (defArgs st) (defBody st) (defScope st) .none kV dc pm an (.ref c) ct), sl⟩)
    (cd : PySem.W.codeIn K (.ref c) x = true) (k : PySem.W.keepIn K (.ref f) = true) : FunC K x x st fa (PySem.W.fnOf x x (defArgs st) (defBody st) (defScope st) .none kV dc pm an (.ref c) ct) c := by
  have e := hm.symm.trans (PySem.W.mg_of X G a)
  cases e
  exact ⟨⟨oc, od, kV, dc, pm, an, ct, sl, rfl, l, cd⟩, k⟩
end
theorem tabs_two {H : Hp} {P1 P2 : Addr} {q1 q2 : Str} (h1 : H P1 = some (.tbl #[])) (h2 : H P2 = some (.tbl #[])) : LamX.Tabs [(P1, q1), (P2, q2)] H := fun p hp => by
  have e : ∀ (P : Addr) (q : Str), H P = some (.tbl #[]) → LamX.TabS H P q := fun P q h => ⟨#[], h, trivial, fun pos cv z => by cases z⟩
  rcases List.mem_cons.mp hp with rfl | hp
  · exact e _ _ h1
  · rcases List.mem_cons.mp hp with rfl | hp
    · exact e _ _ h2
    · cases hp
theorem of_two {P1 P2 : Addr} {q1 q2 : Str} (hn : P1 ≠ P2) : (∀ p ∈ [(P1, q1), (P2, q2)], p.1 = P1 → p.2 = q1) ∧ (∀ p ∈ [(P1, q1), (P2, q2)], p.1 = P2 → p.2 = q2) := by
  refine ⟨fun p hp e => ?_, fun p hp e => ?_⟩
  all_goals
    rcases List.mem_cons.mp hp with rfl | hp
    · first | rfl | exact absurd e hn
    · rcases List.mem_cons.mp hp with rfl | hp
      · first | rfl | exact absurd e.symm hn
      · cases hp
/-- the law's end with two tables -/
theorem end_walkT {l : PySem.W.OpenLaw} {q : Program} {loose : List Str} {XP : (Str → Option Value) → Heap → Prop} {YP : World → Heap → Prop} {d : DefRec} {K : Params → PySem.W.Frag} {k : Nat} {x : Str} {P1 P2 : Addr} {q1 q2 : Str} {sp : PySem.W.Frag → Sp} (hn : l.most = some 63) (hdf : d.params.defaults = []) (hr : Room k callerA)
    (hY : ∀ (w : World) (h : Heap), YP w h → (K w.params).In h) (hT : ∀ (w : World) (h : Heap), YP w h → h.get? P1 = some { cls := .none, data := .fields #[] } ∧ h.get? P2 = some { cls := .none, data := .fields #[] })
    (nT : ∀ w : World, (K w.params).lookup P1 = none ∧ (K w.params).lookup P2 = none)
    (hsp : ∀ (K : PySem.W.Frag) (H : Hp) (a : Addr) (ns : List Int), ns.length ≤ 63 → LamX.Tabs [(P1, q1), (P2, q2)] H → SqL K H a (ns.map V.int) → sp K [.ref a] H (fun v _ => v = .bl true) fun _ _ _ => False)
    (F : ∀ (w : World) (mg : Str → Option Value) (fa : Addr) (h : Heap), (K w.params).In h → h.Ns mainGlobals mg → mg d.name = some (.ref fa) →
      ∃ (fd : FuncData) (c1 c2 : Addr), PySem.W.codeHdIn (K w.params) c1 P1 = true ∧ PySem.W.codeHdIn (K w.params) c2 P2 = true ∧ (∀ (s : Shared) (u : Value), BindsTo s fd ⟨[u], []⟩ [(x, u)]) ∧ ∀ base : Heap, (K w.params).In base → base.Ns mainGlobals mg → LamX.TabB base mg c1 P1 → LamX.TabB base mg c2 P2 → FnOk l.prog w (K w.params) mg base CX0 k fa fd [x] (sp (K w.params))) :
    PySem.W.WalkO q loose XP YP l.row.toRowW d [] (fun f vs => PySem.call f vs) := by
  refine LamX.walk_ofTs (n := 63) (x := x) (CX := fun _ => CX0) hn (by decide) hdf hr hY (fun w mg fa h Y KX G hmg => ?_) fun _ _ _ _ _ z => z
  obtain ⟨fd, c1, c2, e1, e2, hb, hF⟩ := F w mg fa h KX G hmg
  obtain ⟨t1, t2⟩ := hT w h Y
  obtain ⟨n1, n2⟩ := nT w
  have two : ∀ {p : Addr × Addr} {M : Addr × Addr → Prop}, p ∈ [(c1, P1), (c2, P2)] → M (c1, P1) → M (c2, P2) → M p := fun {p M} hp a b => by
    rcases List.mem_cons.mp hp with rfl | hp
    · exact a
    · rcases List.mem_cons.mp hp with rfl | hp
      · exact b
      · cases hp
  refine ⟨fd, [(c1, P1), (c2, P2)], sp (K w.params), fun p hp => two (M := fun p => h.get? p.2 = some { cls := .none, data := .fields #[] }) hp t1 t2, fun p hp => two (M := fun p => (K w.params).lookup p.2 = none) hp n1 n2, fun p hp => two (M := fun p => PySem.W.CodeHd h p.1 p.2) hp (PySem.W.codeHd_of_K KX e1) (PySem.W.codeHd_of_K KX e2), hb, fun H a ns hl _ ht hS => ?_, fun base hK hG hB => ?_⟩
  · exact hsp _ H a ns hl (tabs_two (ht _ (.head _)) (ht _ (.tail _ (.head _)))) hS
  · exact hF base hK hG (hB _ (.head _)) (hB _ (.tail _ (.head _)))
end Cw
set_option Elab.async false
set_option linter.all false
set_option maxRecDepth 100000
set_option maxHeartbeats 4000000
/-! what the top has left: static methods and properties -/
namespace Cw
open PySem PySem.Spec L2
section
variable {K : PySem.W.Frag} {m qual : Str} {st : Stmt} {C p g : Addr} {rest : List Value} {oc kV dc pm cd ct : Value} {od an : Option Addr} {sl : Array (Option Value)}
theorem stAt_mk (rd : PySem.W.readsIn K C (.type "type") = true) (ga : PySem.W.specialIn K (.ref C) "__getattribute__" = some (some (.builtin "type.__getattribute__")))
    (a : PySem.W.findCls K (.ref C) (.type "type") m = some (.get (.builtin "staticmethod.__get__") (.ref p) .none (.ref C))) (r : PySem.W.recIn K p "staticmethod" = some (.ref g :: rest))
    (l : K.lookup g = some ⟨oc, od, .func (PySem.W.fnOf m qual (defArgs st) (defBody st) (defScope st) .none kV dc pm an cd ct), sl⟩)
    (c : PySem.W.codeIn K cd qual = true) (k : PySem.W.keepIn K (.ref g) = true) : StAt K C m qual st := ⟨_, p, g, rest, _, ⟨rd, ga⟩, a, r, fun_mk (st := st) l c k⟩
end
end Cw
set_option Elab.async false
set_option linter.all false
set_option maxRecDepth 100000
set_option maxHeartbeats 4000000
/-! CwHeadK: the head with the law's heap told, by one run of the top over the tree -/
namespace CwTop
open PySem PySem.W PySem.Calls PyProof.Rows
/-- a hook named -/
def TagH (_ : Hook) : Prop := True
end CwTop
set_option Elab.async false
set_option linter.all false
set_option maxRecDepth 100000
set_option maxHeartbeats 4000000
/-! CwHeadKm: as CwHeadK, the tables of the code objects told too -/
namespace CwTop
open PySem PySem.W PySem.Calls PyProof.Rows
theorem headKm {r : OpenRow} {q : Program} {K : Params → PySem.W.Frag} {as ts : List Addr} {ek : ∀ P, as = (K P).map (·.1)} {M : Nat} {loose : List PySem.Str} {d : DefRec} {kwd : List (PySem.Str × PySem.Expr)} (_ : TagH (kmHook K as ek ts))
    (e : opening r.prog = plainProg r.prog.main.scope.names) (f : ∀ s, fenceModules? r.prog s = some s) (run : ∀ w, HandSHeadRun.RunEq r q (kmHook K as ek ts) (fun s => (as.map (HandSHeadRun.getT s), ts.map (HandSHeadRun.getT s))) M loose w)
    (hdef : defOf q r.name = some (d, kwd)) (hp : r.prog.theDef r.name = some (d.params, d.body, d.scope)) (hk : kwWritten? d.params.kwonlyargs d.params.kw_defaults = some kwd)
    (hwr : (!r.writes || r.records.isEmpty) = true) (k1 : r.wellSaid = true) (ok : (chainsOk q && opensWell r.prog && (frees r.toRowW && r.within.isEmpty)) = true) (hb : r.prog.bare) (hw : r.toRowW.promised)
    (call : WalkO q loose (XL q []) (kmHook K as ek ts).says r.toRowW d kwd fun f vs => PySem.call f vs) : r.Holds := by
  have ho : ∀ (s : SharedT) (l : List Addr), l.map (HandSHeadRun.getT s) = l.map s.abs.heap.get? := fun s l => List.map_congr_left fun a _ => HandSHeadRun.getT_eq s a
  exact HandSHeadRun.head_any (H := kmHook K as ek ts) (ob := fun s => (as.map (HandSHeadRun.getT s), ts.map (HandSHeadRun.getT s))) (fun s => by rw [ho s as, ho s ts]; rfl) e f run hdef hp hk hwr k1 ok hb hw call
end CwTop
set_option Elab.async false
set_option linter.all false
set_option maxRecDepth 100000
namespace CwTop
open PySem PySem.W PySem.Calls PyProof.Rows
abbrev topRow : OpenRow := OpenLaw.row PySem.Challenge.rw_crosswalls_k02_plans_refused
abbrev topView : Program := view topRow.prog [topRow.prog.main.body.length - 1]
def topLoose : List PySem.Str := topRow.prog.boundNames.filter fun x => x != topRow.name
end CwTop
open PySem PySem.W PySem.Calls PyProof.Rows in
local macro_rules | `(tactic| o_head $H) => `(tactic| refine CwTop.headKm (r := CwTop.topRow) (q := CwTop.topView) (M := 9000) (loose := CwTop.topLoose) (show CwTop.TagH $H from trivial) (by kernel_rfl) (fun s => by kernel_rfl) (fun w => by intro os; kernel_rfl) (by rfl) (by rfl) (by rfl) (by rfl) (by first | assumption | decide +kernel) (by decide +kernel) ⟨rfl, rfl, rfl, rfl, rfl, by decide +kernel⟩ ?hw ?hc)
open PySem PySem.W PyProof.Rows in
set_option maxHeartbeats 0 in
open_top Cw.headOf for PySem.Challenge.rw_crosswalls_k02_plans_refused
set_option Elab.async false
set_option linter.all false
set_option maxRecDepth 100000
set_option maxHeartbeats 4000000
namespace Cw
open PySem PySem.Spec L2
local macro_rules | `(tactic| walk_at "side") => `(tactic| first | omega | assumption | (dsimp only; omega) | (unfold CMul; omega) | exact ⟨by decide, by decide, by decide⟩ | exact wdiv (by first | assumption | decide | omega) (by first | assumption | decide | omega) | (simp only [List.length_cons, List.length_nil]; omega) | rfl)
local macro_rules | `(tactic| walk_at "hl") => `(tactic| first | assumption | exact upd_same | ((refine Cw.Same.at (by assumption) ?_); walk_at "hl") | ((refine Cw.Keep.at (by assumption) ?_ (by assumption)); walk_at "hl"))
local macro_rules | `(tactic| walk_at "st") => `(tactic| first
  | (with_reducible refine s_seq ?_) | (with_reducible refine g_nm ?_) | (with_reducible refine s_next ?_) | (with_reducible refine s_set ?_) | (with_reducible refine s_drop ?_) | (with_reducible refine s_ret ?_) | (with_reducible refine s_if ?_)
  | ((with_reducible refine e_varG ?_); refine ⟨_, (by with_unfolding_all rfl), ?_⟩) | (with_reducible refine e_c ?_) | (with_reducible refine e_op ?_) | (with_reducible refine e_un ?_)
  | (with_reducible refine e_cons ?_) | (with_reducible refine e_nil ?_) | (with_reducible refine e_cb ?_) | (with_reducible refine e_call ?_) | (with_reducible refine e_md ?_)
  | (with_reducible refine t_test ?_) | (with_reducible refine t_B ?_) | (with_reducible refine t_and ?_) | (with_reducible refine t_or ?_) | (with_reducible refine t_not ?_)
  | (with_reducible refine e_andV ?_) | (with_reducible refine e_orV ?_) | (with_reducible refine e_notV ?_) | (with_reducible refine e_if ?_)
  | (with_reducible refine v_I0 ?_) | ((with_reducible refine v_I ?c ?_); try (case c => walk_at "side")) | (with_reducible refine v_bl ?_)
  | ((with_reducible refine v_eq ?c ?_); (case c => with_unfolding_all rfl)) | ((with_reducible refine v_ne ?c ?_); (case c => with_unfolding_all rfl))
  | (with_reducible refine v_inti ?_) | (with_reducible refine v_intb ?_) | ((with_reducible refine v_lenG ?_); refine ⟨_, (by walk_at "hl"), ?_⟩)
  | ((with_reducible refine v_lenS ?c ?_); try (case c => walk_at "side"))
  | (with_reducible refine e_dnew ?_) | (with_reducible refine e_dget ?_) | (with_reducible refine s_dput ?_) | (with_reducible refine e_lst ?_) | (with_reducible refine e_tup ?_)
  | ((with_reducible refine v_lst ?c ?_); (case c => walk_at "side")) | ((with_reducible refine v_tup ?c ?_); (case c => walk_at "side"))
  | ((with_reducible refine v_dgetG ?_); refine ⟨_, (by assumption), ?_⟩)
  | (with_reducible refine e_sl ?_) | (with_reducible refine e_nopart ?_) | (with_reducible refine e_part ?_) | (with_reducible refine e_m1 ?_) | (with_reducible refine v_isS ?_) | (with_reducible refine v_int ?_)
  | (with_reducible refine e_lc ?_) | (with_reducible refine e_iStr ?_) | (with_reducible refine e_iEnumS ?_) | (with_reducible refine v_iEnumS ?_) | (with_reducible refine v_str ?_) | (with_reducible refine e_yes ?_) | (with_reducible refine e_fld ?_) | (with_reducible refine e_sfld ?_)
  | ((with_reducible refine v_addS ?c ?_); try (case c => walk_at "side")) | (with_reducible refine v_inS ?_) | (with_reducible refine v_notInS ?_) | (with_reducible refine v_ltS ?_)
  | ((with_reducible refine v_inLG ?_); refine ⟨_, (by walk_at "hl"), ?_⟩) | (with_reducible refine v_isiS ?_) | (with_reducible refine e_revS ?_) | ((with_reducible refine v_revS ?c ?_); try (case c => walk_at "side"))
  | ((with_reducible refine v_lenSetG ?_); refine ⟨_, (by walk_at "hl"), ?_⟩)
  | (with_reducible refine e_bm ?_) | (with_reducible refine e_bm0 ?_) | ((with_reducible refine v_tyLG ?_); refine ⟨_, (by walk_at "hl"), ?_⟩)
  | (with_reducible refine iteNT ?_) | (with_reducible refine iteNF ?_) | (with_reducible refine e_for ?_)
  | (with_reducible refine e_iL ?_) | (with_reducible refine e_iT ?_) | ((with_reducible refine v_iLG ?_); refine ⟨_, (by walk_at "hl"), ?_⟩) | (with_reducible refine e_iR1 ?_) | ((with_reducible refine v_iR1 ?c1 ?c2 ?_); try (case c1 => walk_at "side"); try (case c2 => walk_at "side"))
  | (with_reducible refine e_iR2 ?_) | ((with_reducible refine v_iR2 ?c1 ?_); try (case c1 => walk_at "side"))
  | (with_reducible refine e_pr0 ?_) | (with_reducible refine e_pr ?_) | (with_reducible refine e_disp ?_) | (with_reducible refine s_asgT ?_) | (with_reducible refine e_tryA ?_) | (with_reducible refine e_callS ?_) | (with_reducible refine e_mdS ?_) | (with_reducible refine e_par ?_) | (with_reducible refine v_par ?_) | (with_reducible refine e_par3 ?_) | (with_reducible refine v_par3 ?_) | (with_reducible refine e_iK ?_) | (with_reducible refine e_dnotin ?_)
  | (with_reducible refine iteT ?_) | (with_reducible refine iteF ?_))
local macro_rules | `(tactic| walk_at "go") => `(tactic| repeat walk_at "st")
section
open PySem PySem.Spec L2
def top (i : Nat) : Stmt := PySem.Challenge.pw_crosswalls_k02_plans_refused.main.body.getD i (.Pass ⟨0, 0, 0, 0⟩)
/-! ### the pen -/
def penL (cl : Addr) (a r : Int) : List (Key × V) := [(Sum.inr "cells", .ref cl), (Sum.inr "spot", .int a), (Sum.inr "rest", .int r)]
structure Pen where
  p : Addr
  cl : Addr
  cells : List Int
structure PenAt (g : Pen) (H : Hp) (n : Nat) : Prop where
  ex : ∃ (a r : Int), H g.p = some (.dK (penL g.cl a r)) ∧ H g.cl = some (.lst (g.cells.map V.int)) ∧ g.cells.length ≤ 63 ∧ 0 ≤ a ∧ a ≤ n ∧ 0 ≤ r
section
variable {g : Pen} {H H' : Hp} {n m : Nat} {q : Addr}
theorem PenAt.mono (h : PenAt g H n) (l : n ≤ m) : PenAt g H m := by
  obtain ⟨a, r, h1, h2, h3, h4, h5, h6⟩ := h.ex
  exact ⟨a, r, h1, h2, h3, h4, by omega, h6⟩
theorem PenAt.same (h : PenAt g H n) (s : Same H H') : PenAt g H' n := by
  obtain ⟨a, r, h1, h2, h3, h4, h5, h6⟩ := h.ex
  exact ⟨a, r, s _ _ h1, s _ _ h2, h3, h4, h5, h6⟩
theorem PenAt.keep (h : PenAt g H n) (s : Keep q H H') (n1 : g.p ≠ q) (n2 : g.cl ≠ q) : PenAt g H' n := by
  obtain ⟨a, r, h1, h2, h3, h4, h5, h6⟩ := h.ex
  exact ⟨a, r, s _ _ h1 n1, s _ _ h2 n2, h3, h4, h5, h6⟩
theorem PenAt.p_ne (h : PenAt g H n) (s : H q = none) : g.p ≠ q := by
  obtain ⟨a, r, h1, h2, h3, h4, h5, h6⟩ := h.ex
  exact ne_of_none h1 s
theorem PenAt.cl_ne (h : PenAt g H n) (s : H q = none) : g.cl ≠ q := by
  obtain ⟨a, r, h1, h2, h3, h4, h5, h6⟩ := h.ex
  exact ne_of_none h2 s
end
theorem kcp : ¬ ((Sum.inr ("cells" : Str) : Key) = Sum.inr ("spot" : Str)) := by decide +kernel
theorem kcr : ¬ ((Sum.inr ("cells" : Str) : Key) = Sum.inr ("rest" : Str)) := by decide +kernel
theorem kpr : ¬ ((Sum.inr ("spot" : Str) : Key) = Sum.inr ("rest" : Str)) := by decide +kernel
section
variable {H : Hp} {p cl : Addr} {a r z : Int}
theorem pen_cells (h : H p = some (.dK (penL cl a r))) : DGet H p (.str "cells") (some (.ref cl)) := by
  have e := DGet.k (k := Sum.inr "cells") h
  rw [penL, valV_pos rfl] at e
  exact e
theorem pen_place (h : H p = some (.dK (penL cl a r))) : DGet H p (.str "spot") (some (.int a)) := by
  have e := DGet.k (k := Sum.inr "spot") h
  rw [penL, valV_neg kcp, valV_pos rfl] at e
  exact e
theorem pen_rest (h : H p = some (.dK (penL cl a r))) : DGet H p (.str "rest") (some (.int r)) := by
  have e := DGet.k (k := Sum.inr "rest") h
  rw [penL, valV_neg kcr, valV_neg kpr, valV_pos rfl] at e
  exact e
theorem put_place : putK (penL cl a r) (Sum.inr "spot") (.int z) = penL cl z r := by
  unfold putK penL
  rw [if_pos (by rw [valV_any]; first | (rw [valV_neg kcp, valV_pos rfl] <;> rfl) | (rw [valV_neg kcr, valV_neg kpr, valV_pos rfl] <;> rfl))]
  show [(if _ then _ else _), (if _ then _ else _), (if _ then _ else _)] = _
  rw [if_neg kcp, if_pos rfl, if_neg (fun e => kpr e.symm)]
theorem put_rest : putK (penL cl a r) (Sum.inr "rest") (.int z) = penL cl a z := by
  unfold putK penL
  rw [if_pos (by rw [valV_any]; first | (rw [valV_neg kcp, valV_pos rfl] <;> rfl) | (rw [valV_neg kcr, valV_neg kpr, valV_pos rfl] <;> rfl))]
  show [(if _ then _ else _), (if _ then _ else _), (if _ then _ else _)] = _
  rw [if_neg kcr, if_neg kpr, if_pos rfl]
theorem pen_setPlace (h : H p = some (.dK (penL cl a r))) : DPut H p (.str "spot") (.int z) (upd H p (.dK (penL cl z r))) := by
  have e := DPut.k (k := Sum.inr "spot") (v := .int z) h (by show 3 < sizeLine; decide)
  rw [put_place] at e
  exact e
theorem pen_setRest (h : H p = some (.dK (penL cl a r))) : DPut H p (.str "rest") (.int z) (upd H p (.dK (penL cl a z))) := by
  have e := DPut.k (k := Sum.inr "rest") (v := .int z) h (by show 3 < sizeLine; decide)
  rw [put_rest] at e
  exact e
end
/-! ### the module's built-in names -/
structure Txt (K : PySem.W.Frag) (mg : Str → Option Value) : Prop where
  len : mg "len" = none
  int : mg "int" = none
  list : mg "list" = none
def spDraw : Sp := fun vs H Q _ => ∃ (g : Pen) (m : Int) (n : Nat), vs = [.ref g.p, .int m] ∧ 0 < m ∧ m < 1000000 ∧ PenAt g H n ∧ n < 1000000 ∧
  ∀ (z : Int) (H' : Hp), 0 ≤ z → z < m → PenAt g H' (n + 1) → Keep g.p H H' → Q (.int z) H'
section
variable {P : Program} {w : World} {K : PySem.W.Frag} {mg : Str → Option Value} {base : Heap}
abbrev stdraw : Stmt := (top 23)
abbrev Ndraw : List Str := ["_law_pen_here", "_law_many", "_law_digit", "_law_spot", "_law_cell", "_law_mixed"]
theorem scdraw : FnScope Ndraw ["_law_pen_here", "_law_many"] (defScope stdraw) := ⟨rfl, rfl, rfl, by decide +kernel, rfl, by decide +kernel, by decide +kernel⟩

theorem ok_draw (F : FnAt K mg "_law_draw" stdraw) (T : Txt K mg) : Def P w K mg base CX0 1 "_law_draw" ["_law_pen_here", "_law_many"] spDraw := by
  refine F.ok scdraw (fun _ _ _ _ _ _ us hl => match us, hl with | [_, _], _ => rfl) (fun vs H Q E h => ?_) (fun f cdv A outer s H vs Q E hr h => ?_)
  · obtain ⟨p, m, n, rfl, _⟩ := h
    rfl
  obtain ⟨⟨p, cl, cells⟩, m, n, rfl, hm0, hm1, hp, hn, k⟩ := h
  have hu := hu_of hr
  have nd := scdraw.nd
  refine ⟨_, (pss_cons (ps_if (pt_cmpR op_ge (pe_dget hu (pv 0) pe_str (fun _ _ => rfl)) (pv 1) (nomark _))
      (pss_cons (ps_set (i := 2) nd rfl (Or.inl rfl) (pe_op op_mod (pe_callTy c_int (by rfl) T.int (by decide +kernel) (pa_cons (pe_dget hu (pv 0) pe_str (fun _ _ => rfl)) pa_nil)) (pv 1)))
        (pss_cons (ps_dput hu (pv 0) pe_str (pe_op op_fdivW (pe_dget hu (pv 0) pe_str (fun _ _ => rfl)) (pv 1)) rfl)
        (pss_one (ps_ret (pv 2)))))
      pss_nil)
      (pss_cons (ps_set (i := 3) nd rfl (Or.inl rfl) (pe_dget hu (pv 0) pe_str (fun _ _ => rfl)))
      (pss_cons (ps_dput hu (pv 0) pe_str (pe_op op_add (pv 3) pe_int) rfl)
      (pss_cons (ps_set (i := 4) nd rfl (Or.inl rfl) (pe_op op_add (pe_op op_mul pe_int (pv 3)) pe_int))
      (pss_cutS (ps_if (pt_cmpR (op_neDK (K := K) rfl hr.units) (pe_dget hu (pv 0) pe_str (fun _ _ => rfl)) (pe_lst pa_nil) (nomark _))
      (pss_one (ps_set (i := 4) nd rfl (Or.inl rfl) (pe_ix (ix_LK (K := K) rfl) (pe_dget hu (pv 0) pe_str (fun _ _ => rfl)) (pe_op op_mod (pe_callTy c_int (by rfl) T.int (by decide +kernel) (pa_cons (pv 3) pa_nil)) (pe_callB (c_lenK (K := K) rfl) (by rfl) T.len PySem.boot_len (pa_cons (pe_dget hu (pv 0) pe_str (fun _ _ => rfl)) pa_nil))) (fun _ _ => rfl))))
      pss_nil)
      (pss_cutS (ps_if (PW.pt (pw_and (pt_cmpR op_lt (pv 3) (pe_callB (c_lenK (K := K) rfl) (by rfl) T.len PySem.boot_len (pa_cons (pe_dget hu (pv 0) pe_str (fun _ _ => rfl)) pa_nil)) (nomark _)) (pw_and1 (pt_cmpR op_ge (pv 4) (pe_op op_pow pe_int pe_int) (nomark _)))))
      (pss_cons (ps_dput hu (pv 0) pe_str (pe_op op_fdivW (pe_op op_sub (pv 4) (pe_op op_pow pe_int pe_int)) (pv 1)) rfl)
        (pss_one (ps_ret (pe_op op_mod (pe_callTy c_int (by rfl) T.int (by decide +kernel) (pa_cons (pe_op op_sub (pv 4) (pe_op op_pow pe_int pe_int)) pa_nil)) (pv 1)))))
      pss_nil)
      (pss_cons (ps_set (i := 5) nd rfl (Or.inl rfl) (pe_op op_mul (pe_op op_mod (pe_callTy c_int (by rfl) T.int (by decide +kernel) (pa_cons (pv 4) pa_nil)) pe_int) pe_int))
      (pss_cons (ps_set (i := 5) nd rfl (Or.inl rfl) (pe_op op_mod (pe_callTy c_int (by rfl) T.int (by decide +kernel) (pa_cons (pe_op op_add (pe_op op_add (pe_op op_add (pv 5) (pe_op op_mul (pe_op op_mul pe_int (pv 3)) (pv 3))) (pe_op op_mul pe_int (pv 3))) pe_int) pa_nil)) pe_int))
      (pss_cons (ps_set (i := 5) nd rfl (Or.inl rfl) (pe_op op_mod (pe_callTy c_int (by rfl) T.int (by decide +kernel) (pa_cons (pe_op op_mul (pv 5) (pe_op op_add (pv 5) pe_int)) pa_nil)) pe_int))
      (pss_one (ps_ret (pe_op op_mod (pe_callTy c_int (by rfl) T.int (by decide +kernel) (pa_cons (pe_op op_fdivW (pe_op op_mod (pe_callTy c_int (by rfl) T.int (by decide +kernel) (pa_cons (pe_op op_add (pe_op op_mul (pv 5) (pv 5)) (pe_op op_mul pe_int (pv 5))) pa_nil)) pe_int) pe_int) pa_nil)) (pv 1))))))))))))), ?_⟩
  refine s_start [some _, some _, none, none, none, none] rfl ?_
  obtain ⟨a, r, h1, h2, h3, h4, h5, h6⟩ := hp.ex
  dsimp only at h1 h2 h3 k ⊢
  have g1 := pen_rest h1
  have g2 := pen_place h1
  have g3 := pen_cells h1
  have fin : ∀ (H2 : Hp) (a2 r2 z : Int), H2 p = some (.dK (penL cl a2 r2)) → Keep p H H2 → 0 ≤ a2 → a2 ≤ a + 1 → 0 ≤ r2 → 0 ≤ z → z < m → Q (.int z) H2 := by
    intro H2 a2 r2 z e1 e2 e3 e4 e5 e6 e7
    have ne : cl ≠ p := ne_of h2 h1 (by intro z; cases z)
    exact k z H2 e6 e7 ⟨a2, r2, e1, e2 _ _ h2 ne, h3, e3, by omega, e5⟩ e2
  walk_at "go"
  refine if_dec (fun c => ?_) (fun c => ?_)
  · walk_at "go"
    refine v_put (pen_setRest h1) fun H1 s1 e1 => ?_
    walk_at "go"
    refine fin H1 _ _ _ e1 s1 h4 (by omega) (Int.ediv_nonneg h6 (by omega)) (Int.emod_nonneg _ (by omega)) (Int.emod_lt_of_pos _ hm0)
  · walk_at "go"
    refine v_put (pen_setPlace h1) fun H1 s1 e1 => ?_
    have ne : cl ≠ p := ne_of h2 h1 (by intro z; cases z)
    have h2' := s1 _ _ h2 ne
    have g1 := pen_rest e1
    have g3 := pen_cells e1
    walk_at "go"
    refine s_cut (fun σ' H' => ∃ c : Int, σ' = [some (.ref p), some (.int m), none, some (.int a), some (.int c), none] ∧ Same H1 H') ?_ ?_
    · walk_at "go"
      intro q H2 hq s2 e2
      refine v_neNilI (s2 _ _ h2') e2 ?_
      have g3 := pen_cells (s2 _ _ e1)
      walk_at "go"
      refine if_bool (fun c => ?_) (fun c => ?_)
      · have hne : 0 < cells.length := by
          cases cells with
          | nil => simp at c
          | cons _ _ => simp
        walk_at "go"
        · rw [List.length_map]; omega
        walk_at "go"
        rw [List.length_map]
        have hz0 : 0 ≤ a % (cells.length : Int) := Int.emod_nonneg _ (by omega)
        have hz1 : a % (cells.length : Int) < cells.length := Int.emod_lt_of_pos _ (by omega)
        have hlt : (a % (cells.length : Int)).toNat < cells.length := by omega
        refine v_ixL (s2 _ _ h2') (at_of (j := (a % (cells.length : Int)).toNat) (by omega) (by rw [List.getElem?_map, List.getElem?_eq_getElem hlt]; rfl)) ?_
        exact ⟨_, rfl, s2⟩
      · walk_at "go"
        exact ⟨_, rfl, s2⟩
    · rintro σ' H2 ⟨c, rfl, s2⟩
      have e2 := s2 _ _ e1
      have h22 := s2 _ _ h2'
      have g3 := pen_cells e2
      have kk : Keep p H H2 := s1.trans (Keep.of s2)
      have ze : (10 : Int) ^ (18 : Int).toNat = 1000000000000000000 := by decide
      refine s_cut (fun σ' H' => σ' = [some (.ref p), some (.int m), none, some (.int a), some (.int c), none] ∧ H' = H2) ?_ ?_
      · walk_at "go"
        refine if_dec (fun c1 => ?_) (fun c1 => ?_)
        · walk_at "go"
          rw [ze]
          refine if_dec (fun c2 => ?_) (fun c2 => ?_)
          · walk_at "go"
            rw [ze]
            refine v_put (pen_setRest e2) fun H3 s3 e3 => ?_
            walk_at "go"
            rw [ze]
            exact fin H3 _ _ _ e3 (kk.trans s3) (by omega) (by omega) (Int.ediv_nonneg (by omega) (by omega)) (Int.emod_nonneg _ (by omega)) (Int.emod_lt_of_pos _ hm0)
          · walk_at "go"
            exact ⟨rfl, rfl⟩
        · walk_at "go"
          exact ⟨rfl, rfl⟩
      · rintro σ' H' ⟨rfl, rfl⟩
        walk_at "go"
        exact fin H' _ _ _ e2 kk (by omega) (by omega) h6 (Int.emod_nonneg _ (by omega)) (Int.emod_lt_of_pos _ hm0)
end
end
section
open PySem PySem.Spec L2
structure TxtP (K : PySem.W.Frag) (mg : Str → Option Value) (C : Addr) : Prop where
  len : mg "len" = none
  int : mg "int" = none
  list : mg "list" = none
  isinstance : mg "isinstance" = none
  str : mg "str" = none
  all : mg "all" = none
  set : mg "set" = none
  tuple : mg "tuple" = none
  g_LETTERS : ∃ t, mg "LETTERS" = some (.str (tx LET) t)
  g_MOST_KINDS : ∃ t, mg "MOST_KINDS" = some (.int 8 t)
  Plan : ClsF K mg "Plan" C
  nK : NoAttr K C "kinds"
  nP : NoAttr K C "pairs"
  nO : NoAttr K C "own_crossing"
def spAreLetters : Sp := fun vs H Q _ => ∃ l : List Nat, vs = [.str (tx l)] ∧ l.length < 1000 ∧ ∀ H', Same H H' → Q (.bl (decide ((∀ c ∈ l, c ∈ LET) ∧ l.Nodup))) H'
def spAscending : Sp := fun vs H Q _ => ∃ l : List Nat, vs = [.str (tx l)] ∧ ∀ H', Same H H' → Q (.str (tx (ascOf l))) H'
def spIsList (K : PySem.W.Frag) : Sp := fun vs H Q _ => ∃ (p : Addr) (xs : List V), vs = [.ref p] ∧ SeqO K H p xs ∧ ∀ H', Same H H' → Q (.bl true) H'
def spNeedFew : Sp := fun vs H Q _ => ∃ l : List Nat, vs = [.str (tx l)] ∧ l.length ≤ 8 ∧ Q .non H
section
variable {P : Program} {w : World} {K : PySem.W.Frag} {mg : Str → Option Value} {base : Heap} {C : Addr}
abbrev stare_letters : Stmt := (top 14)
abbrev Nare_letters : List Str := ["value", "letter"]
theorem scare_letters : FnScope Nare_letters ["value"] (defScope stare_letters) := ⟨rfl, rfl, rfl, by decide +kernel, rfl, by decide +kernel, by decide +kernel⟩

theorem ok_are_letters (F : FnAt K mg "are_letters" stare_letters) (T : TxtP K mg C) : Def P w K mg base CX0 1 "are_letters" ["value"] spAreLetters := by
  refine F.ok scare_letters (fun _ _ _ _ _ _ us hl => match us, hl with | [_], _ => rfl) (fun vs H Q E h => ?_) (fun f cdv A outer s H vs Q E hr h => ?_)
  · obtain ⟨l, rfl, _⟩ := h
    rfl
  obtain ⟨l, rfl, hl, k⟩ := h
  have hu := hu_of hr
  have nd := scare_letters.nd
  refine ⟨_, (pss_one (ps_ret (pe_and (pe_callB (c_isiK (K := K) rfl) (by rfl) T.isinstance (by decide +kernel) (pa_cons (pv 0) (pa_cons (pe_bltn (v := .ty "str") (u := .type "str") (by rfl) T.str (by decide +kernel) rfl) pa_nil))) (pe_and (pe_callB (c_allK (K := K) rfl rfl) (by rfl) T.all (by decide +kernel) (pa_cons (pe_lc (own := [("letter", 1)]) (g := gName 1) (by rfl) nd (pi_str (pv 0)) (blkOk_by (own := [("letter", 1)]) (N := Nare_letters) (sc := defScope stare_letters) (by decide +kernel)) (fun _ _ _ _ _ => (pg_name (i := 1) nd rfl (Or.inl rfl))) (fun _ _ _ _ _ => pts_nil) (fun _ _ _ _ _ => (pe_cmpR op_inS (pv 1) (pe_globS T.g_LETTERS) (by rfl)))) pa_nil)) (pe_one (pe_cmpR op_eq (pe_callB c_lenSet (by rfl) T.len PySem.boot_len (pa_cons (pe_callTy (c_setS rfl) (by rfl) T.set (by decide +kernel) (pa_cons (pv 0) pa_nil)) pa_nil)) (pe_callB c_lenS (by rfl) T.len PySem.boot_len (pa_cons (pv 0) pa_nil)) (nomark _))))))), ?_⟩
  refine s_start [some _, none] rfl ?_
  walk_at "go"
  refine v_lcS (b := fun _ => true) (f := fun c => V.bl (decide (c ∈ LET))) (by omega) (fun c _ H1 s1 R r => ?_) (fun c _ _ H1 s1 R r => ?_) (fun D H1 hD s1 e1 => ?_)
  · walk_at "go"
    exact r H1 (Same.refl _)
  · walk_at "go"
    exact r H1 (Same.refl _)
  walk_at "go"
  have e2 : H1 D = some (.lst ((l.map fun c => decide (c ∈ LET)).map V.bl)) := by
    rw [e1, List.map_map, filter_yes]
    rfl
  refine v_all e2 ?_
  walk_at "go"
  have ha : (l.map fun c => decide (c ∈ LET)).all id = decide (∀ c ∈ l, c ∈ LET) := by
    rw [Bool.eq_iff_iff, List.all_eq_true, decide_eq_true_iff]
    simp
  rw [ha]
  refine if_dec (fun c => ?_) (fun c => ?_)
  · walk_at "go"
    refine v_setS (by omega) fun p H2 hp s2 e2 => ?_
    walk_at "go"
    have e3 : decide (V.int ((metOf (l.map fun c => tx [c])).length : Int) = V.int (l.length : Int)) = decide ((∀ c ∈ l, c ∈ LET) ∧ l.Nodup) := by
      rw [dec_int, Bool.eq_iff_iff, decide_eq_true_iff, beq_iff_eq]
      have := metOf_ones l
      constructor
      · intro e
        exact ⟨c, this.mp (by omega)⟩
      · intro e
        have := this.mpr e.2
        omega
    rw [e3]
    exact k H2 (s1.trans s2)
  · have e3 : decide ((∀ c ∈ l, c ∈ LET) ∧ l.Nodup) = false := decide_eq_false fun z => c z.1
    rw [e3] at k
    exact k H1 s1
abbrev stascending : Stmt := (top 15)
abbrev Nascending : List Str := ["letters", "letter"]
theorem scascending : FnScope Nascending ["letters"] (defScope stascending) := ⟨rfl, rfl, rfl, by decide +kernel, rfl, by decide +kernel, by decide +kernel⟩

theorem ok_ascending (F : FnAt K mg "ascending" stascending) (T : TxtP K mg C) : Def P w K mg base CX0 1 "ascending" ["letters"] spAscending := by
  refine F.ok scascending (fun _ _ _ _ _ _ us hl => match us, hl with | [_], _ => rfl) (fun vs H Q E h => ?_) (fun f cdv A outer s H vs Q E hr h => ?_)
  · obtain ⟨l, rfl, _⟩ := h
    rfl
  obtain ⟨l, rfl, k⟩ := h
  have hu := hu_of hr
  have nd := scascending.nd
  refine ⟨_, (pss_one (ps_ret (pe_joinK (K := K) rfl (pe_tx [] (by decide +kernel)) (pe_lc (own := [("letter", 1)]) (g := gName 1) (by rfl) nd (pi_str (pe_globS T.g_LETTERS)) (blkOk_by (own := [("letter", 1)]) (N := Nascending) (sc := defScope stascending) (by decide +kernel)) (fun _ _ _ _ _ => (pg_name (i := 1) nd rfl (Or.inl rfl))) (fun _ _ _ _ _ => (pts_one (pt_cmpR op_inS (pv 1) (pv 0) (by rfl)))) (fun _ _ _ _ _ => (pv 1)))))), ?_⟩
  refine s_start [some _, none] rfl ?_
  walk_at "go"
  refine v_lcS (l := LET) (b := fun c => decide (c ∈ l)) (f := fun c => V.str (tx [c])) (by decide) (fun c _ H1 s1 R r => ?_) (fun c _ _ H1 s1 R r => ?_) (fun D H1 hD s1 e1 => ?_)
  · walk_at "go"
    exact r H1 (Same.refl _)
  · walk_at "go"
    exact r H1 (Same.refl _)
  walk_at "go"
  rw [strs_ones] at e1
  refine v_join e1 ?_ ?_
  · rw [flat_ones]
    have := ascOf_len l
    unfold ascOf at this
    omega
  · rw [flat_ones]
    exact k H1 s1
abbrev stis_list : Stmt := (top 10)
abbrev Nis_list : List Str := ["value"]
theorem scis_list : FnScope Nis_list ["value"] (defScope stis_list) := ⟨rfl, rfl, rfl, by decide +kernel, rfl, by decide +kernel, by decide +kernel⟩

theorem ok_is_list (F : FnAt K mg "is_list" stis_list) (T : TxtP K mg C) : Def P w K mg base CX0 1 "is_list" ["value"] (spIsList K) := by
  refine F.ok scis_list (fun _ _ _ _ _ _ us hl => match us, hl with | [_], _ => rfl) (fun vs H Q E h => ?_) (fun f cdv A outer s H vs Q E hr h => ?_)
  · obtain ⟨p, xs, rfl, _⟩ := h
    rfl
  obtain ⟨p, xs, rfl, hp, k⟩ := h
  have hu := hu_of hr
  have nd := scis_list.nd
  refine ⟨_, (pss_one (ps_ret (pe_callB (c_isiTK (K := K) rfl) (by rfl) T.isinstance (by decide +kernel) (pa_cons (pv 0) (pa_cons (pe_tup (pa_cons (pe_bltn (v := .ty "list") (u := .type "list") (by rfl) T.list (by decide +kernel) rfl) (pa_cons (pe_bltn (v := .ty "tuple") (u := .type "tuple") (by rfl) T.tuple (by decide +kernel) rfl) pa_nil))) pa_nil))))), ?_⟩
  refine s_start [some _] rfl ?_
  walk_at "go"
  intro t H1 ht s1 e1
  walk_at "go"
  exact v_isiQ (hp.same s1) e1 (k H1 s1)
abbrev stneed_few : Stmt := (top 18)
abbrev Nneed_few : List Str := ["kinds"]
theorem scneed_few : FnScope Nneed_few ["kinds"] (defScope stneed_few) := ⟨rfl, rfl, rfl, by decide +kernel, rfl, by decide +kernel, by decide +kernel⟩

theorem ok_need_few (F : FnAt K mg "need_few" stneed_few) (T : TxtP K mg C) : Def P w K mg base CX0 1 "need_few" ["kinds"] spNeedFew := by
  refine F.ok scneed_few (fun _ _ _ _ _ _ us hl => match us, hl with | [_], _ => rfl) (fun vs H Q E h => ?_) (fun f cdv A outer s H vs Q E hr h => ?_)
  · obtain ⟨l, rfl, _⟩ := h
    rfl
  obtain ⟨l, rfl, hl, k⟩ := h
  have hu := hu_of hr
  have nd := scneed_few.nd
  refine ⟨_, (pss_one (ps_if (pt_cmpR op_gt (pe_callB c_lenS (by rfl) T.len PySem.boot_len (pa_cons (pv 0) pa_nil)) (pe_globI T.g_MOST_KINDS) (nomark _))
      (pss_one ps_never)
      pss_nil)), ?_⟩
  refine s_start [some _] rfl ?_
  walk_at "go"
  refine if_dec (fun c => ?_) (fun c => ?_)
  · omega
  · walk_at "go"
    exact k
end
end
section
open PySem PySem.Spec L2
def spChecked (K : PySem.W.Frag) : Sp := fun vs H Q _ => ∃ (ks : List Nat) (p : Addr) (ps : List (List Nat)), vs = [.str (tx ks), .ref p] ∧ SeqO K H p (strsV ps) ∧ ps.length < 1000 ∧ PairsIn ks ps ∧ (∀ c ∈ ks, c ∈ LET) ∧
  ∀ t H', H t = none → Same H H' → H' t = some (.tup (strsV (pairsOf (ps.map ascOf)))) → Q (.ref t) H'
def spCross : Sp := fun vs H Q _ => ∃ (ks : List Nat) (t : Addr) (ps : List (List Nat)), vs = [.str (tx ks), .ref t] ∧ H t = some (.tup (strsV ps)) ∧ ks.length < 1000 ∧ ks.Nodup ∧
  ∀ d H', H d = none → Same H H' → H' d = some (.dK (crossKV ks ps ks)) → Q (.ref d) H'
section
variable {P : Program} {w : World} {K : PySem.W.Frag} {mg : Str → Option Value} {base : Heap} {C : Addr}
abbrev stchecked_pairs : Stmt := (top 16)
abbrev Nchecked_pairs : List Str := ["kinds", "crossing", "found", "pair", "a", "b"]
theorem scchecked_pairs : FnScope Nchecked_pairs ["kinds", "crossing"] (defScope stchecked_pairs) := ⟨rfl, rfl, rfl, by decide +kernel, rfl, by decide +kernel, by decide +kernel⟩

theorem ok_checked_pairs (F : FnAt K mg "checked_pairs" stchecked_pairs) (T : TxtP K mg C) (D_is_list : Def P w K mg base CX0 1 "is_list" ["value"] (spIsList K)) (D_are_letters : Def P w K mg base CX0 1 "are_letters" ["value"] spAreLetters) (D_ascending : Def P w K mg base CX0 1 "ascending" ["letters"] spAscending) :
    Def P w K mg base CX0 2 "checked_pairs" ["kinds", "crossing"] (spChecked K) := by
  refine F.ok scchecked_pairs (fun _ _ _ _ _ _ us hl => match us, hl with | [_, _], _ => rfl) (fun vs H Q E h => ?_) (fun f cdv A outer s H vs Q E hr h => ?_)
  · obtain ⟨ks, p, ps, rfl, _⟩ := h
    rfl
  obtain ⟨ks, p, ps, rfl, hp, hl, hps, hks, k⟩ := h
  have hu := hu_of hr
  have nd := scchecked_pairs.nd
  refine ⟨_, (pss_cons (ps_if (pt_not (pt_val (pe_cd D_is_list hr pass0 (pa_cons (pv 1) pa_nil))))
      (pss_one ps_never)
      pss_nil)
      (pss_cons (ps_set (i := 2) nd rfl (Or.inr rfl) (pe_lst pa_nil))
      (pss_cons (ps_for PassesOwn.never rfl (pi_or (pi_listK (K := K) rfl (pv 1)) (pi_tupK (K := K) rfl (pv 1))) (pg_name (i := 3) nd rfl (Or.inl rfl))
      (pss_cutS (ps_if (PW.pt (pw_or (pt_not (pt_val (pe_callB (c_isiK (K := K) rfl) (by rfl) T.isinstance (by decide +kernel) (pa_cons (pv 3) (pa_cons (pe_bltn (v := .ty "str") (u := .type "str") (by rfl) T.str (by decide +kernel) rfl) pa_nil))))) (pw_or (pt_cmpR op_ne (pe_callB c_lenS (by rfl) T.len PySem.boot_len (pa_cons (pv 3) pa_nil)) pe_int (nomark _)) (pw_or1 (pt_not (pt_val (pe_cd D_are_letters hr pass0 (pa_cons (pv 3) pa_nil))))))))
        (pss_one ps_never)
        pss_nil)
        (pss_cutS (ps_if (PW.pt (pw_or (pt_cmpR op_notInS (pe_ix ix_str (pv 3) pe_int (fun _ _ => rfl)) (pv 0) (by rfl)) (pw_or1 (pt_cmpR op_notInS (pe_ix ix_str (pv 3) pe_int (fun _ _ => rfl)) (pv 0) (by rfl)))))
        (pss_one ps_never)
        pss_nil)
        (pss_one (ps_expr (pe_appK (K := K) rfl (pv 2) (pe_cd D_ascending hr pass0 (pa_cons (pv 3) pa_nil))))))))
      (pss_one (ps_ret (pe_callTy (c_tupleK (K := K) rfl) (by rfl) T.tuple (by decide +kernel) (pa_cons (pe_lc2 (own := [("a", 4), ("b", 5)]) (vs1 := [5]) (by rfl) nd (pi_str (pe_globS T.g_LETTERS)) (blkOk_by (own := [("a", 4), ("b", 5)]) (N := Nchecked_pairs) (sc := defScope stchecked_pairs) (by decide +kernel)) (by decide) (fun _ _ _ _ _ => (pg_name (i := 4) nd rfl (Or.inl rfl))) (fun _ _ _ _ _ => pts_nil) (fun _ _ _ _ _ => (pi_str (pe_globS T.g_LETTERS))) (fun _ _ _ _ _ => (pg_name (i := 5) nd rfl (Or.inl rfl))) (fun _ _ _ _ _ => (pts_one (pt_cmpR (op_inLK (K := K) rfl) (pe_op op_addS (pv 4) (pv 5)) (pv 2) (by rfl)))) (fun _ _ _ _ _ => (pe_op op_addS (pv 4) (pv 5)))) pa_nil))))))), ?_⟩
  refine s_start [some _, some _, none, none, none, none] rfl ?_
  walk_at "go"
  refine ⟨p, _, rfl, hp, fun H1 s1 => ?_⟩
  walk_at "go"
  intro q H2 hq s2 e2
  walk_at "go"
  refine e_forSeq (xs := strsV ps) hp (s1.trans s2) (fun Q q => by walk_at "go"; exact q) (fun k σ H' => ∃ x, σ = [some (.str (tx ks)), some (.ref p), some (.ref q), x, none, none] ∧ Same H H' ∧ H' q = some (.lst (strsV ((ps.take k).map ascOf)))) ⟨_, rfl, s1.trans s2, e2⟩ ?_ ?_ ?_
  · rintro i σ H' ⟨x, rfl, s3, e3⟩
    exact s3
  · rintro i v σ H3 H4 hi ⟨x, rfl, s3, e3⟩ ⟨rfl, hv⟩
    have hi' : i < ps.length := by simpa using hi
    obtain ⟨a, b, hab, hne, ha, hb⟩ := hps _ (List.getElem_mem hi')
    have hv' : v = .str (tx [a, b]) := by
      have : (strsV ps)[i]? = some (V.str (tx ps[i])) := by
        rw [List.getElem?_map, List.getElem?_eq_getElem hi']
        rfl
      rw [hv, hab] at this
      exact Option.some.inj this
    subst hv'
    have ha2 := hks a ha
    have hb2 := hks b hb
    refine s_cut (fun σ' H' => σ' = [some (.str (tx ks)), some (.ref p), some (.ref q), some (.str (tx [a, b])), none, none] ∧ Same H4 H') ?_ ?_
    · walk_at "go"
      refine if_ndec (fun c => absurd rfl c) (fun _ => ?_)
      walk_at "go"
      refine ⟨[a, b], rfl, by simp, fun H5 s5 => ?_⟩
      have e5 : decide ((∀ c ∈ [a, b], c ∈ LET) ∧ [a, b].Nodup) = true := by
        rw [decide_eq_true_iff]
        refine ⟨?_, by simp [hne]⟩
        intro c hc
        simp only [List.mem_cons, List.not_mem_nil, or_false] at hc
        rcases hc with rfl | rfl <;> assumption
      rw [e5]
      walk_at "go"
      exact ⟨rfl, s5⟩
    · rintro σ' H5 ⟨rfl, s5⟩
      refine s_cut (fun σ' H' => σ' = [some (.str (tx ks)), some (.ref p), some (.ref q), some (.str (tx [a, b])), none, none] ∧ H' = H5) ?_ ?_
      · walk_at "go"
        refine v_ixS (c := a) (by simp) rfl ?_
        walk_at "go"
        refine if_ndec (fun c => absurd ha c) (fun _ => ?_)
        walk_at "go"
        refine v_ixS (c := b) (by simp) rfl ?_
        walk_at "go"
        refine if_ndec (fun c => absurd hb c) (fun _ => ?_)
        walk_at "go"
        exact ⟨rfl, rfl⟩
      · rintro σ' H6 ⟨rfl, rfl⟩
        have e6 := s5 _ _ e3
        walk_at "go"
        refine ⟨[a, b], rfl, fun H7 s7 => ?_⟩
        walk_at "go"
        refine v_app (s7 _ _ e6) ?_ fun H8 s8 e8 => ?_
        · simp only [strsV, List.length_map, List.length_take]
          omega
        refine ⟨_, rfl, fun b' o hb' => s8 _ _ (s7 _ _ (s5 _ _ (s3 _ _ hb'))) (ne_of_none hb' (L2.Same.free s1 hq)), ?_⟩
        rw [e8, List.take_add_one, List.getElem?_eq_getElem hi', hab, List.map_append]
        simp only [strsV, List.map_append]
        rfl
  · rintro σ H3 ⟨x, rfl, s3, e3⟩
    walk_at "go"
    rw [List.take_of_length_le (by simp)] at e3
    refine v_lc2S (lb := LET) (b := fun a b => decide ([a, b] ∈ ps.map ascOf)) (f := fun a b => V.str (tx [a, b])) (by decide) (by decide) (fun c _ H1 s1 R r => r) (fun c d _ _ H1 s1 R r => ?_) (fun c d _ _ _ H1 s1 R r => ?_) (fun D H5 hD s5 e5 => ?_)
    · have e1 := s1 _ _ e3
      walk_at "go"
      exact r H1 (Same.refl _)
    · walk_at "go"
      exact r H1 (Same.refl _)
    · walk_at "go"
      refine v_tuple e5 fun t H6 ht s6 e6 => ?_
      refine k t H6 (L2.Same.free s3 (L2.Same.free s5 ht)) ((s3.trans s5).trans s6) ?_
      rw [e6]
      unfold strsV pairsOf
      rw [List.map_flatMap]
      simp only [List.map_map]
      rfl
abbrev stcrossing_table : Stmt := (top 20)
abbrev Ncrossing_table : List Str := ["kinds", "pairs", "found", "kind", "other"]
theorem sccrossing_table : FnScope Ncrossing_table ["kinds", "pairs"] (defScope stcrossing_table) := ⟨rfl, rfl, rfl, by decide +kernel, rfl, by decide +kernel, by decide +kernel⟩

theorem ok_crossing_table (F : FnAt K mg "crossing_table" stcrossing_table) (T : TxtP K mg C) : Def P w K mg base CX0 1 "crossing_table" ["kinds", "pairs"] spCross := by
  refine F.ok sccrossing_table (fun _ _ _ _ _ _ us hl => match us, hl with | [_, _], _ => rfl) (fun vs H Q E h => ?_) (fun f cdv A outer s H vs Q E hr h => ?_)
  · obtain ⟨ks, t, ps, rfl, _⟩ := h
    rfl
  obtain ⟨ks, t, ps, rfl, ht, hl, hnd, k⟩ := h
  have hu := hu_of hr
  have nd := sccrossing_table.nd
  refine ⟨_, (pss_cons (ps_set (i := 2) nd rfl (Or.inl rfl) pe_dnewK)
      (pss_cons (ps_for PassesOwn.never rfl (pi_str (pv 0)) (pg_name (i := 3) nd rfl (Or.inr rfl))
      (pss_one (ps_dput hu (pv 2) (pv 3) (pe_joinK (K := K) rfl (pe_tx [] (by decide +kernel)) (pe_lc (own := [("other", 4)]) (g := gName 4) (by rfl) nd (pi_str (pv 0)) (blkOk_by (own := [("other", 4)]) (N := Ncrossing_table) (sc := defScope stcrossing_table) (by decide +kernel)) (fun _ _ _ _ _ => (pg_name (i := 4) nd rfl (Or.inl rfl))) (fun _ _ _ _ _ => (pts_one (PW.pt (pw_or (pt_cmpR (op_inLK (K := K) rfl) (pe_op op_addS (pv 3) (pv 4)) (pv 1) (by rfl)) (pw_or1 (pt_cmpR (op_inLK (K := K) rfl) (pe_op op_addS (pv 4) (pv 3)) (pv 1) (by rfl))))))) (fun _ _ _ _ _ => (pv 4)))) rfl)))
      (pss_one (ps_ret (pv 2))))), ?_⟩
  refine s_start [some _, some _, none, none, none] rfl ?_
  walk_at "go"
  intro d H1 hd s1 e1
  walk_at "go"
  refine for_it (walk_tx ks) (fun k σ H' => ∃ x, σ = [some (.str (tx ks)), some (.ref t), some (.ref d), x, none] ∧ Same H H' ∧ H' d = some (.dK (crossKV ks ps (ks.take k)))) ⟨_, rfl, s1, e1⟩ (fun _ _ _ _ _ => trivial) ?_ ?_
  · rintro i v σ H2 H3 hi ⟨x, rfl, s2, e2⟩ ⟨rfl, rfl⟩
    have h0 := s2 _ _ ht
    show sDPut _ _ _ _ _ _
    walk_at "go"
    refine v_lcS (b := fun o => decide ([ks.getD i 0, o] ∈ ps) || decide ([o, ks.getD i 0] ∈ ps)) (f := fun c => V.str (tx [c])) (by omega) (fun c _ H1 s1 R r => ?_) (fun c _ _ H1 s1 R r => ?_) (fun D H4 hD s4 e4 => ?_)
    · have h1 := s1 _ _ h0
      walk_at "go"
      refine v_inT (SqT.of h1) ?_
      walk_at "go"
      refine if_dec (fun c1 => ?_) (fun c1 => ?_)
      · rw [show [ks.getD i 0] ++ [c] = [ks.getD i 0, c] from rfl] at c1
        rw [decide_eq_true c1, Bool.true_or] at r
        exact r H1 (Same.refl _)
      · rw [show [ks.getD i 0] ++ [c] = [ks.getD i 0, c] from rfl] at c1
        walk_at "go"
        refine v_inT (SqT.of h1) ?_
        walk_at "go"
        rw [decide_eq_false c1, Bool.false_or] at r
        exact r H1 (Same.refl _)
    · walk_at "go"
      exact r H1 (Same.refl _)
    walk_at "go"
    rw [strs_ones] at e4
    refine v_join e4 ?_ ?_
    · rw [flat_ones]
      have := crossOf_len ks ps (ks.getD i 0)
      unfold crossOf at this
      omega
    rw [flat_ones]
    walk_at "go"
    have e5 := s4 _ _ e2
    have hz : valV (crossKV ks ps (ks.take i)) (Sum.inr (tx [ks.getD i 0])) = none := letV_none (take_notin hnd hi)
    refine v_put (DPut.cross e5 hz ?_) fun H6 s6 e6 => ?_
    · unfold crossKV
      rw [List.length_map, List.length_take]
      omega
    refine ⟨_, rfl, fun b o hb => s6 _ _ (s4 _ _ (s2 _ _ hb)) (ne_of_none hb hd), ?_⟩
    rw [e6, take_getD hi]
    unfold crossKV
    rw [List.map_append]
    rfl
  · rintro σ H2 ⟨x, rfl, s2, e2⟩
    rw [List.take_of_length_le (Nat.le_refl _)] at e2
    walk_at "go"
    exact k d H2 hd s2 e2
end
end
section
open PySem PySem.Spec L2
def planF (ks : List Nat) (t d : Addr) : List (Str × V) := putF "own_crossing" (.ref d) (putF "pairs" (.ref t) (putF "kinds" (.str (tx ks)) []))
theorem nkp : ¬ (("kinds" : Str) = "pairs") := by decide +kernel
theorem nko : ¬ (("kinds" : Str) = "own_crossing") := by decide +kernel
theorem npo : ¬ (("pairs" : Str) = "own_crossing") := by decide +kernel
section
variable {ks : List Nat} {t d : Addr}
theorem planF_k : (planF ks t d).lookup ("kinds" : Str) = some (.str (tx ks)) := by
  unfold planF
  rw [lookup_putF, if_neg nko, lookup_putF, if_neg nkp, lookup_putF, if_pos rfl]
theorem planF_p : (planF ks t d).lookup ("pairs" : Str) = some (.ref t) := by
  unfold planF
  rw [lookup_putF, if_neg npo, lookup_putF, if_pos rfl]
theorem planF_o : (planF ks t d).lookup ("own_crossing" : Str) = some (.ref d) := by
  unfold planF
  rw [lookup_putF, if_pos rfl]
end
/-- a plan of the kinds ks and the pairs ps stands at x -/
structure PlanAt (C : Addr) (H : Hp) (x : Addr) (ks : List Nat) (ps : List (List Nat)) : Prop where
  ex : ∃ dx t d, H x = some (.ins C dx (planF ks t d)) ∧ H t = some (.tup (strsV ps)) ∧ H d = some (.dK (crossKV ks ps ks))
theorem PlanAt.same {C : Addr} {H H' : Hp} {x : Addr} {ks : List Nat} {ps : List (List Nat)} (h : PlanAt C H x ks ps) (s : Same H H') : PlanAt C H' x ks ps := by
  obtain ⟨dx, t, d, a, b, c⟩ := h.ex
  exact ⟨dx, t, d, s _ _ a, s _ _ b, s _ _ c⟩
/-- the plan at x does not rest on the object at b -/
def PlanOff (C : Addr) (H : Hp) (x b : Addr) : Prop := ∃ dx ks t d, H x = some (.ins C dx (planF ks t d)) ∧ b ≠ t ∧ b ≠ d
theorem PlanOff.same {C : Addr} {H H' : Hp} {x b : Addr} (h : PlanOff C H x b) (s : Same H H') : PlanOff C H' x b := by
  obtain ⟨dx, ks, t, d, e, n⟩ := h
  exact ⟨dx, ks, t, d, s _ _ e, n⟩
theorem PlanAt.off {C : Addr} {H H' : Hp} {x b : Addr} {ks : List Nat} {ps : List (List Nat)} (h : PlanAt C H x ks ps) (n : PlanOff C H x b) (nx : x ≠ b) (k : Keep b H H') : PlanAt C H' x ks ps := by
  obtain ⟨dx, t, d, a1, a2, a3⟩ := h.ex
  obtain ⟨dx', ks', t', d', e, n1, n2⟩ := n
  rw [a1] at e
  injection e with e
  injection e with _ _ e
  have e1 := planF_p (ks := ks) (t := t) (d := d)
  rw [e, planF_p] at e1
  injection e1 with e1
  injection e1 with e1
  have e2 := planF_o (ks := ks) (t := t) (d := d)
  rw [e, planF_o] at e2
  injection e2 with e2
  injection e2 with e2
  exact ⟨dx, t, d, k _ _ a1 nx, k _ _ a2 (fun z => n1 (z.symm.trans e1.symm)), k _ _ a3 (fun z => n2 (z.symm.trans e2.symm))⟩
/-- the kinds and pairs of Plan(l, ps) -/
abbrev kindsOf (l : List Nat) : List Nat := ascOf l
abbrev prsOf (ps : List (List Nat)) : List (List Nat) := pairsOf (ps.map ascOf)
def PlanArgs (K : PySem.W.Frag) (H : Hp) (l : List Nat) (p : Addr) (ps : List (List Nat)) : Prop := SeqO K H p (strsV ps) ∧ ps.length < 1000 ∧ PairsIn l ps ∧ (∀ c ∈ l, c ∈ LET) ∧ l.Nodup ∧ l.length ≤ 8
def spPlan0 (K : PySem.W.Frag) (C : Addr) : Sp := fun vs H Q _ => ∃ (x dx : Addr) (l : List Nat) (p : Addr) (ps : List (List Nat)), vs = [.ref x, .str (tx l), .ref p] ∧ H x = some (.ins C dx []) ∧ PlanArgs K H l p ps ∧
  ∀ H', Keep x H H' → PlanAt C H' x (kindsOf l) (prsOf ps) → (∀ b o, H b = some o → b ≠ x → PlanOff C H' x b) → Q .non H'
def spPlan (K : PySem.W.Frag) (C : Addr) : Sp := fun vs H Q _ => ∃ (l : List Nat) (p : Addr) (ps : List (List Nat)), vs = [.str (tx l), .ref p] ∧ PlanArgs K H l p ps ∧ ∀ x H', H x = none → Same H H' → PlanAt C H' x (kindsOf l) (prsOf ps) → (∀ b o, H b = some o → PlanOff C H' x b) → Q (.ref x) H'
theorem conv_plan (K : PySem.W.Frag) (C : Addr) : Conv C (spPlan0 K C) (spPlan K C) := by
  rintro vs H Q E ⟨l, p, ps, rfl, ⟨hp, hr⟩, k⟩ x dx hx hdx hne
  refine ⟨x, dx, l, p, ps, rfl, upd_same, ⟨hp.go fun o ho => by rw [upd_ne (ne_of_none ho hx), upd_ne (ne_of_none ho hdx)]; exact ho, hr⟩, fun H' s' a off => ⟨rfl, k x H' hx (fun b o hb => ?_) a fun b o hb => off b o (by rw [upd_ne (ne_of_none hb hx), upd_ne (ne_of_none hb hdx)]; exact hb) (ne_of_none hb hx)⟩⟩
  refine s' b o ?_ (ne_of_none hb hx)
  rw [upd_ne (ne_of_none hb hx), upd_ne (ne_of_none hb hdx)]
  exact hb
theorem asc_len {l : List Nat} (h1 : ∀ c ∈ l, c ∈ LET) (h2 : l.Nodup) : (ascOf l).length = l.length := by
  have p : (ascOf l).Perm l := by
    refine (List.perm_ext_iff_of_nodup (ascOf_nodup l) h2).mpr fun c => ?_
    rw [ascOf_mem]
    exact ⟨fun z => z.2, fun z => ⟨h1 c z, z⟩⟩
  exact p.length_eq
section
variable {P : Program} {w : World} {K : PySem.W.Frag} {mg : Str → Option Value} {base : Heap} {C : Addr}
abbrev stPlan_init : Stmt := (inClass (top 19) 0)
abbrev NPlan_init : List Str := ["self", "kinds", "crossing"]
theorem scPlan_init : FnScope NPlan_init ["self", "kinds", "crossing"] (defScope stPlan_init) := ⟨rfl, rfl, rfl, by decide +kernel, rfl, by decide +kernel, by decide +kernel⟩

theorem ok_Plan {dvs : List V} (F : MAtD K C "__init__" "Plan.__init__" stPlan_init dvs) (hd : dvs.length = 1) (T : TxtP K mg C) (D_are_letters : Def P w K mg base CX0 1 "are_letters" ["value"] spAreLetters) (D_ascending : Def P w K mg base CX0 1 "ascending" ["letters"] spAscending)
    (D_checked_pairs : Def P w K mg base CX0 2 "checked_pairs" ["kinds", "crossing"] (spChecked K)) (D_need_few : Def P w K mg base CX0 1 "need_few" ["kinds"] spNeedFew) (D_crossing_table : Def P w K mg base CX0 1 "crossing_table" ["kinds", "pairs"] spCross) :
    CMk P w K mg base CX0 3 "Plan" C (spPlan K C) ["self", "kinds", "crossing"] "Plan.__init__" stPlan_init dvs := by
  refine F.make (sp0 := spPlan0 K C) T.Plan scPlan_init (by intro z; rw [z] at hd; cases hd) (fun T kV doc pm an cdv ct us its l1 l2 => ?_) (fun vs H Q E h => ?_) (conv_plan K C) (fun f cdv A outer s H vs Q E hr h => ?_)
  · rw [hd] at l2 ⊢
    match us, l1, its, l2 with
    | [_, _, _], _, [_], _ => exact ⟨_, rfl, rfl⟩
  · obtain ⟨x, dx, l, p, ps, rfl, _⟩ := h
    rfl
  obtain ⟨x, dx, l, p, ps, rfl, hx, ⟨hp, h1, h2, h3, h4, h5⟩, k⟩ := h
  have hu := hu_of hr
  have nd := scPlan_init.nd
  replace D_are_letters := D_are_letters.mono (show 1 ≤ 2 by decide)
  replace D_ascending := D_ascending.mono (show 1 ≤ 2 by decide)
  replace D_need_few := D_need_few.mono (show 1 ≤ 2 by decide)
  replace D_crossing_table := D_crossing_table.mono (show 1 ≤ 2 by decide)
  refine ⟨_, (pss_cons (ps_if (pt_not (pt_val (pe_cd D_are_letters hr pass0 (pa_cons (pv 1) pa_nil))))
      (pss_one ps_never)
      pss_nil)
      (pss_cons (ps_flK (K := K) rfl (pv 0) (pe_cd D_ascending hr pass0 (pa_cons (pv 1) pa_nil)) rfl)
      (pss_cons (ps_flK (K := K) rfl (pv 0) (pe_cd D_checked_pairs hr pass0 (pa_cons (pe_flK (K := K) rfl (pv 0) rfl) (pa_cons (pv 2) pa_nil))) rfl)
      (pss_cons (ps_expr (pe_cd D_need_few hr pass0 (pa_cons (pe_flK (K := K) rfl (pv 0) rfl) pa_nil)))
      (pss_one (ps_flK (K := K) rfl (pv 0) (pe_cd D_crossing_table hr pass0 (pa_cons (pe_flK (K := K) rfl (pv 0) rfl) (pa_cons (pe_flK (K := K) rfl (pv 0) rfl) pa_nil))) rfl)))))), ?_⟩
  refine s_start [some _, some _, some _] rfl ?_
  walk_at "go"
  refine ⟨l, rfl, by omega, fun H1 s1 => ?_⟩
  rw [decide_eq_true (show (∀ c ∈ l, c ∈ LET) ∧ l.Nodup from ⟨h3, h4⟩)]
  walk_at "go"
  refine ⟨l, rfl, fun H2 s2 => ?_⟩
  walk_at "go"
  have s12 := s1.trans s2
  refine v_sfld (s12 _ _ hx) T.Plan.cl T.nK (by decide) fun H3 s3 e3 => ?_
  have hp3 := (hp.same s12).keepI s3 (s12 _ _ hx)
  walk_at "go"
  refine v_fld e3 T.Plan.cl T.nK (by rw [lookup_putF, if_pos rfl]) ?_
  walk_at "go"
  refine ⟨ascOf l, p, ps, rfl, hp3, h1, ?_, fun c hc => (ascOf_mem.mp hc).1, fun t H4 ht s4 e4 => ?_⟩
  · intro q hq
    obtain ⟨a, b, e, n, ha, hb⟩ := h2 q hq
    exact ⟨a, b, e, n, ascOf_mem.mpr ⟨h3 a ha, ha⟩, ascOf_mem.mpr ⟨h3 b hb, hb⟩⟩
  walk_at "go"
  refine v_sfld (s4 _ _ e3) T.Plan.cl T.nP (by show 1 < 1000; decide) fun H5 s5 e5 => ?_
  have nt : t ≠ x := fun z => by rw [z, e3] at ht; cases ht
  have e5t := s5 _ _ e4 nt
  walk_at "go"
  refine v_fld e5 T.Plan.cl T.nK (by rw [lookup_putF, if_neg nkp, lookup_putF, if_pos rfl]) ?_
  walk_at "go"
  refine ⟨ascOf l, rfl, by rw [asc_len h3 h4]; exact h5, ?_⟩
  walk_at "go"
  refine v_fld e5 T.Plan.cl T.nK (by rw [lookup_putF, if_neg nkp, lookup_putF, if_pos rfl]) ?_
  walk_at "go"
  refine v_fld e5 T.Plan.cl T.nP (by rw [lookup_putF, if_pos rfl]) ?_
  walk_at "go"
  refine ⟨ascOf l, t, _, rfl, e5t, by have := ascOf_len l; omega, ascOf_nodup l, fun d H6 hd s6 e6 => ?_⟩
  walk_at "go"
  refine v_sfld (s6 _ _ e5) T.Plan.cl T.nO (by show 2 < 1000; decide) fun H7 s7 e7 => ?_
  have ndx : d ≠ x := fun z => by rw [z, e5] at hd; cases hd
  refine k H7 (fun b o hb nb => s7 _ _ (s6 _ _ (s5 _ _ (s4 _ _ (s3 _ _ (s12 _ _ hb) nb)) nb)) nb) ⟨dx, t, d, e7, s7 _ _ (s6 _ _ e5t) nt, s7 _ _ e6 ndx⟩ fun b o hb nb => ⟨dx, _, t, d, e7, ?_, ?_⟩
  · exact ne_of_none (s3 _ _ (s12 _ _ hb) nb) ht
  · exact ne_of_none (s5 _ _ (s4 _ _ (s3 _ _ (s12 _ _ hb) nb)) nb) hd
end
end
section
open PySem PySem.Spec L2
/-- letters alone -/
def PsOk (ps : List (List Nat)) : Prop := ∀ l ∈ ps, ∀ c ∈ l, c < 1000
def spPlanEq (C : Addr) : Sp := fun vs H Q _ => ∃ (x y : Addr) (ks ks' : List Nat) (ps ps' : List (List Nat)), vs = [.ref x, .ref y] ∧ PlanAt C H x ks ps ∧ PlanAt C H y ks' ps' ∧ PsOk ps ∧ PsOk ps' ∧ Q (.bl (decide (ks = ks' ∧ ps = ps'))) H
section
variable {P : Program} {w : World} {K : PySem.W.Frag} {mg : Str → Option Value} {base : Heap} {C : Addr}
end
end
section
open PySem PySem.Spec L2
def roomF (x : Addr) (name : List Nat) : List (Str × V) := putF "name" (.str (tx name)) (putF "plan" (.ref x) [])
theorem npn : ¬ (("plan" : Str) = "name") := by decide +kernel
theorem roomF_p {x : Addr} {name : List Nat} : (roomF x name).lookup ("plan" : Str) = some (.ref x) := by
  unfold roomF
  rw [lookup_putF, if_neg npn, lookup_putF, if_pos rfl]
theorem roomF_n {x : Addr} {name : List Nat} : (roomF x name).lookup ("name" : Str) = some (.str (tx name)) := by
  unfold roomF
  rw [lookup_putF, if_pos rfl]
/-- a room of the plan at x stands at r -/
structure RoomAt (R : Addr) (H : Hp) (r x : Addr) (name : List Nat) : Prop where
  ex : ∃ dx, H r = some (.ins R dx (roomF x name))
theorem RoomAt.same {R : Addr} {H H' : Hp} {r x : Addr} {name : List Nat} (h : RoomAt R H r x name) (s : Same H H') : RoomAt R H' r x name := by
  obtain ⟨dx, e⟩ := h.ex
  exact ⟨dx, s _ _ e⟩
structure TxtR (K : PySem.W.Frag) (mg : Str → Option Value) (C R O : Addr) : Prop extends TxtP K mg C where
  enumerate : mg "enumerate" = none
  g_MOST_LETTERS : ∃ t, mg "MOST_LETTERS" = some (.int 2000 t)
  Room : ClsF K mg "Room" R
  nPl : NoAttr K R "plan"
  nNm : NoAttr K R "name"
  OtherPlan : ExcF K mg "OtherPlan" O
/-- two plans, and what is due if they are equal and if not -/
def Plans2 (C : Addr) (H : Hp) (x y : Addr) (e : Bool) : Prop := ∃ (ks ks' : List Nat) (ps ps' : List (List Nat)), PlanAt C H x ks ps ∧ PlanAt C H y ks' ps' ∧ PsOk ps ∧ PsOk ps' ∧ e = decide (ks = ks' ∧ ps = ps')
theorem PlanAt.none {C : Addr} {H : Hp} {x : Addr} {ks : List Nat} {ps : List (List Nat)} (h : PlanAt C H x ks ps) {a b : Addr} {o u : HO} (ha : H a = none) (hb : H b = none) : PlanAt C (upd (upd H a o) b u) x ks ps := by
  refine h.same fun c z hc => ?_
  rw [upd_ne (ne_of_none hc hb), upd_ne (ne_of_none hc ha)]
  exact hc
section
variable {P : Program} {w : World} {K : PySem.W.Frag} {mg : Str → Option Value} {base : Heap} {C R O : Addr}
end
end
section
open PySem PySem.Spec L2
theorem Plans2.same {C : Addr} {H H' : Hp} {x y : Addr} {e : Bool} (h : Plans2 C H x y e) (s : Same H H') : Plans2 C H' x y e := by
  obtain ⟨ks, ks', ps, ps', a, b, c⟩ := h
  exact ⟨ks, ks', ps, ps', a.same s, b.same s, c⟩
def spRoomLen (R : Addr) : Sp := fun vs H Q _ => ∃ (r x : Addr) (name : List Nat), vs = [.ref r] ∧ RoomAt R H r x name ∧ name.length ≤ 100000 ∧ Q (.int name.length) H
/-- two rooms, and whether their plans are equal -/
structure Rooms2 (C R : Addr) (H : Hp) (r x : Addr) (a : List Nat) (r' y : Addr) (b : List Nat) (e : Bool) : Prop where
  one : RoomAt R H r x a
  two : RoomAt R H r' y b
  pl : Plans2 C H x y e
  la : a.length ≤ 2000
  lb : b.length ≤ 2000
theorem Rooms2.same {C R : Addr} {H H' : Hp} {r x : Addr} {a : List Nat} {r' y : Addr} {b : List Nat} {e : Bool} (h : Rooms2 C R H r x a r' y b e) (s : Same H H') : Rooms2 C R H' r x a r' y b e := ⟨h.one.same s, h.two.same s, h.pl.same s, h.la, h.lb⟩
def spRoomEq (C R : Addr) : Sp := fun vs H Q _ => ∃ (r x : Addr) (a : List Nat) (r' y : Addr) (b : List Nat) (e : Bool), vs = [.ref r, .ref r'] ∧ Rooms2 C R H r x a r' y b e ∧ Q (.bl (e && decide (a = b))) H
theorem roomF_no {x : Addr} {name : List Nat} {m : Str} (h1 : ¬ m = "name") (h2 : ¬ m = "plan") : (roomF x name).lookup m = none := by
  unfold roomF
  rw [lookup_putF, if_neg h1, lookup_putF, if_neg h2]
  rfl
section
variable {P : Program} {w : World} {K : PySem.W.Frag} {mg : Str → Option Value} {base : Heap} {C R O : Addr}
end
end
section
open PySem PySem.Spec L2
def spPen (K : PySem.W.Frag) : Sp := fun vs H Q _ => ∃ (a : Addr) (ns : List Int), vs = [.ref a] ∧ SqL K H a (ns.map V.int) ∧ ns.length ≤ 63 ∧ ∀ (g : Pen) (H' : Hp), PenAt g H' 0 → Same H H' → H g.p = none → Q (.ref g.p) H'
theorem cut_ints (ns : List Int) (lo hi : Option Int) : ∃ ms : List Int, cutV (ns.map V.int) lo hi = ms.map V.int ∧ ms.length ≤ ns.length := by
  unfold cutV
  rw [← List.map_drop, ← List.map_take]
  refine ⟨_, rfl, ?_⟩
  rw [List.length_take, List.length_drop]
  omega
section
variable {P : Program} {w : World} {K : PySem.W.Frag} {mg : Str → Option Value} {base : Heap}
abbrev stpen : Stmt := (top 22)
abbrev Npen : List Str := ["_law_script"]
theorem scpen : FnScope Npen ["_law_script"] (defScope stpen) := ⟨rfl, rfl, rfl, by decide +kernel, rfl, by decide +kernel, by decide +kernel⟩

theorem ok_pen (F : FnAt K mg "_law_pen" stpen) (T : Txt K mg) : Def P w K mg base CX0 1 "_law_pen" ["_law_script"] (spPen K) := by
  refine F.ok scpen (fun _ _ _ _ _ _ us hl => match us, hl with | [_], _ => rfl) (fun vs H Q E h => ?_) (fun f cdv A outer s H vs Q E hr h => ?_)
  · obtain ⟨a, ns, rfl, _⟩ := h
    rfl
  obtain ⟨a, ns, rfl, ha, hn, k⟩ := h
  have hu := hu_of hr
  have nd := scpen.nd
  refine ⟨_, (pss_one (ps_ret (pe_disp (pps_cons pe_str (pe_callTy (c_listK (K := K) rfl) (by rfl) T.list (by decide +kernel) (pa_cons (pe_slice (sl_LK (K := K) rfl) (pv 0) po_none (po_some pe_int)) pa_nil)) (pps_cons pe_str pe_int (pps_cons pe_str pe_int pps_nil))) (by rfl) (by rfl) (fun z => by cases z) (by decide)))), ?_⟩
  refine s_start [some _] rfl ?_
  walk_at "go"
  intro p hp
  have s1 : Same H (upd H p (.dK [])) := Same.new hp
  obtain ⟨ms, e1, l1⟩ := cut_ints ns none (some 63)
  walk_at "go"
  refine v_slL (sqL_same ha s1) fun b H2 hb s2 e2 => ?_
  rw [e1] at e2
  walk_at "go"
  refine v_list (SqL.of e2) fun c H3 hc s3 e3 => ?_
  walk_at "go"
  have ep : H3 p = some (.dK []) := s3 _ _ (s2 _ _ upd_same)
  refine ⟨ep, [(Sum.inr "cells", .ref c), (Sum.inr "spot", .int 0), (Sum.inr "rest", .int 0)], rfl, (by show 3 ≤ 15; decide), ?_⟩
  have hcp : c ≠ p := (ne_of_none (s2 _ _ upd_same) hc).symm
  have em : mergeK [] [(Sum.inr ("cells" : Str), V.ref c), (Sum.inr ("spot" : Str), .int 0), (Sum.inr ("rest" : Str), .int 0)] = penL c 0 0 := by
    unfold mergeK penL
    rw [List.foldl_cons, List.foldl_cons, List.foldl_cons, List.foldl_nil]
    rw [putK_new (k := Sum.inr ("cells" : Str)) _ rfl, putK_new (k := Sum.inr ("spot" : Str)) _ (by rw [List.nil_append, valV_neg kcp]; rfl), putK_new (k := Sum.inr ("rest" : Str)) _ (by rw [List.nil_append, List.cons_append, valV_neg kcr, List.nil_append, valV_neg kpr]; rfl)]
    rfl
  rw [em]
  have s4 : Same H (upd H3 p (.dK (penL c 0 0))) := fun b' o hb' => by
    rw [upd_ne (ne_of_none hb' hp)]
    exact s3 _ _ (s2 _ _ (s1 _ _ hb'))
  refine k ⟨p, c, ms⟩ _ ⟨0, 0, upd_same, ?_, by show ms.length ≤ 63; omega, by omega, by omega, by omega⟩ s4 hp
  show upd H3 p _ c = _
  rw [upd_ne hcp]
  exact e3
end
end
section
open PySem PySem.Spec L2
theorem cells_ne {k : Nat} : ¬ ((Sum.inr (tx [k]) : Key) = Sum.inr ("cells" : Str)) := by
  intro h
  injection h with h
  have : (tx [k]).length = ("cells" : Str).length := by rw [h]
  rw [tx_len, List.length_singleton] at this
  exact absurd this (by decide +kernel)
theorem RoomAt.pen {R : Addr} {H H' : Hp} {r x : Addr} {nm : List Nat} {g : Pen} {n : Nat} (h : RoomAt R H r x nm) (p : PenAt g H n) (k : Keep g.p H H') : RoomAt R H' r x nm := by
  obtain ⟨dx, e⟩ := h.ex
  obtain ⟨a, b, h1, _⟩ := p.ex
  exact ⟨dx, k _ _ e (ne_of e h1 (by intro z; cases z))⟩
theorem PlanAt.pen {C : Addr} {H H' : Hp} {x : Addr} {ks : List Nat} {ps : List (List Nat)} {g : Pen} {n : Nat} (h : PlanAt C H x ks ps) (p : PenAt g H n) (k : Keep g.p H H') : PlanAt C H' x ks ps := by
  obtain ⟨dx, t, d, a1, a2, a3⟩ := h.ex
  obtain ⟨a, b, h1, _⟩ := p.ex
  refine ⟨dx, t, d, k _ _ a1 (ne_of a1 h1 (by intro z; cases z)), k _ _ a2 (ne_of a2 h1 (by intro z; cases z)), k _ _ a3 fun z => ?_⟩
  rw [z, h1] at a3
  injection a3 with a3
  injection a3 with a3
  unfold crossKV penL at a3
  generalize hk : ks.map _ = m at a3
  cases ks with
  | nil => rw [List.map_nil] at hk; rw [← hk] at a3; cases a3
  | cons c r =>
    rw [List.map_cons] at hk
    rw [← hk] at a3
    injection a3 with a3 _
    injection a3 with a3 _
    exact cells_ne a3.symm
theorem RoomAt.lst {R : Addr} {H H' : Hp} {r x q : Addr} {nm : List Nat} {l : List V} (h : RoomAt R H r x nm) (e0 : H q = some (.lst l)) (k : Keep q H H') : RoomAt R H' r x nm := by
  obtain ⟨dx, e⟩ := h.ex
  exact ⟨dx, k _ _ e (ne_of e e0 (by intro z; cases z))⟩
theorem PlanAt.lst {C : Addr} {H H' : Hp} {x q : Addr} {ks : List Nat} {ps : List (List Nat)} {l : List V} (h : PlanAt C H x ks ps) (e0 : H q = some (.lst l)) (k : Keep q H H') : PlanAt C H' x ks ps := by
  obtain ⟨dx, t, d, a1, a2, a3⟩ := h.ex
  exact ⟨dx, t, d, k _ _ a1 (ne_of a1 e0 (by intro z; cases z)), k _ _ a2 (ne_of a2 e0 (by intro z; cases z)), k _ _ a3 (ne_of a3 e0 (by intro z; cases z))⟩
end
section
open PySem PySem.Spec L2
/-- a room and a text -/
def spRoomEqS (R : Addr) : Sp := fun vs H Q _ => ∃ (r : Addr) (z : Str), vs = [.ref r, .str z] ∧ Q (.bl false) H
section
variable {P : Program} {w : World} {K : PySem.W.Frag} {mg : Str → Option Value} {base : Heap} {C R O : Addr}
end
end
section
open PySem PySem.Spec L2
def spPick : Sp := fun vs H Q _ => ∃ (g : Pen) (n : Nat) (q : Addr) (xs : List V), vs = [.ref g.p, .ref q] ∧ H q = some (.lst xs) ∧ 0 < xs.length ∧ xs.length < 1000000 ∧ PenAt g H n ∧ n < 1000000 ∧ q ≠ g.p ∧
  ∀ v H', v ∈ xs → PenAt g H' (n + 1) → Keep g.p H H' → Q v H'
section
variable {P : Program} {w : World} {K : PySem.W.Frag} {mg : Str → Option Value} {base : Heap}
abbrev stpick : Stmt := (top 24)
abbrev Npick : List Str := ["_law_pen_here", "_law_items"]
theorem scpick : FnScope Npick ["_law_pen_here", "_law_items"] (defScope stpick) := ⟨rfl, rfl, rfl, by decide +kernel, rfl, by decide +kernel, by decide +kernel⟩

theorem ok_pick (F : FnAt K mg "_law_pick" stpick) (T : Txt K mg) (D_draw : Def P w K mg base CX0 1 "_law_draw" ["_law_pen_here", "_law_many"] spDraw) : Def P w K mg base CX0 2 "_law_pick" ["_law_pen_here", "_law_items"] spPick := by
  refine F.ok scpick (fun _ _ _ _ _ _ us hl => match us, hl with | [_, _], _ => rfl) (fun vs H Q E h => ?_) (fun f cdv A outer s H vs Q E hr h => ?_)
  · obtain ⟨g, n, q, xs, rfl, _⟩ := h
    rfl
  obtain ⟨g, n, q, xs, rfl, hq, h0, h1, hp, hn, hne, k⟩ := h
  have hu := hu_of hr
  have nd := scpick.nd
  refine ⟨_, (pss_one (ps_ret (pe_ix (ix_LK (K := K) rfl) (pv 1) (pe_cd D_draw hr pass0 (pa_cons (pv 0) (pa_cons (pe_callB (c_lenK (K := K) rfl) (by rfl) T.len PySem.boot_len (pa_cons (pv 1) pa_nil)) pa_nil))) (fun _ _ => rfl)))), ?_⟩
  refine s_start [some _, some _] rfl ?_
  walk_at "go"
  refine ⟨g, xs.length, n, rfl, by omega, by omega, hp, hn, fun z H1 z0 z1 p1 k1 => ?_⟩
  walk_at "go"
  have hz : z.toNat < xs.length := by omega
  refine v_ixL (k1 _ _ hq hne) (at_of (j := z.toNat) (by omega) (List.getElem?_eq_getElem hz)) ?_
  exact k _ H1 (List.getElem_mem hz) p1 k1
end
end
section
open PySem PySem.Spec L2
structure TxtH (K : PySem.W.Frag) (mg : Str → Option Value) : Prop extends Txt K mg where
  range : mg "range" = none
section
variable {P : Program} {w : World} {K : PySem.W.Frag} {mg : Str → Option Value} {base : Heap}
end
end
section
open PySem PySem.Spec L2
structure TxtV (K : PySem.W.Frag) (mg : Str → Option Value) : Prop extends TxtH K mg where
  tuple : mg "tuple" = none
  min : mg "min" = none
  dict : mg "dict" = none
section
variable {P : Program} {w : World} {K : PySem.W.Frag} {mg : Str → Option Value} {base : Heap}
end
end
section
open PySem PySem.Spec L2
section
variable {P : Program} {w : World} {K : PySem.W.Frag} {mg : Str → Option Value} {base : Heap}
end
end
section
open PySem PySem.Spec L2
section
variable {P : Program} {w : World} {K : PySem.W.Frag} {mg : Str → Option Value} {base : Heap}
end
end
section
open PySem PySem.Spec L2
section
variable {P : Program} {w : World} {K : PySem.W.Frag} {mg : Str → Option Value} {base : Heap}
end
end
section
open PySem PySem.Spec L2
theorem if_nI {c A B : Prop} {inst : Decidable c} (h : c) (q : B) : if (!decide c) = true then A else B := if_ndec (fun z => absurd h z) (fun _ => q)
theorem if_I {c A B : Prop} {inst : Decidable c} (h : c) (q : A) : if decide c = true then A else B := if_dec (fun _ => q) (fun z => absurd h z)
/-! ### rooms of one plan -/
theorem RoomAt.go {R : Addr} {H H' : Hp} {r x : Addr} {name : List Nat} (s : Same H H') (h : RoomAt R H r x name) : RoomAt R H' r x name := h.same s
theorem PlanAt.go {C : Addr} {H H' : Hp} {x : Addr} {ks : List Nat} {ps : List (List Nat)} (s : Same H H') (h : PlanAt C H x ks ps) : PlanAt C H' x ks ps := h.same s
section
variable {K : PySem.W.Frag} {H : Hp} {Q : VK} {C R r r' x : Addr} {a b : List Nat} {ks : List Nat} {ps : List (List Nat)} {E : XK}
theorem v_rname {P : V → Prop} (h : RoomAt R H r x a) (c : Cls K R) (n : NoAttr K R "name") (q : P (.str (tx a))) : ∃ a' C dx fs v, V.ref r = .ref a' ∧ H a' = some (.ins C dx fs) ∧ Cls K C ∧ NoAttr K C "name" ∧ fs.lookup ("name" : Str) = some v ∧ P v := by
  obtain ⟨dx, e⟩ := h.ex
  exact v_fld e c n roomF_n q
theorem v_rnameG {P : V → Prop} (q : ∃ R x a, RoomAt R H r x a ∧ Cls K R ∧ NoAttr K R "name" ∧ P (.str (tx a))) : ∃ a' C dx fs v, V.ref r = .ref a' ∧ H a' = some (.ins C dx fs) ∧ Cls K C ∧ NoAttr K C "name" ∧ fs.lookup ("name" : Str) = some v ∧ P v := by
  obtain ⟨R, x, a, h, c, n, q⟩ := q
  exact v_rname h c n q
theorem v_rplan {P : V → Prop} (h : RoomAt R H r x a) (c : Cls K R) (n : NoAttr K R "plan") (q : P (.ref x)) : ∃ a' C dx fs v, V.ref r = .ref a' ∧ H a' = some (.ins C dx fs) ∧ Cls K C ∧ NoAttr K C "plan" ∧ fs.lookup ("plan" : Str) = some v ∧ P v := by
  obtain ⟨dx, e⟩ := h.ex
  exact v_fld e c n roomF_p q
theorem v_rplanG {P : V → Prop} (q : ∃ R x a, RoomAt R H r x a ∧ Cls K R ∧ NoAttr K R "plan" ∧ P (.ref x)) : ∃ a' C dx fs v, V.ref r = .ref a' ∧ H a' = some (.ins C dx fs) ∧ Cls K C ∧ NoAttr K C "plan" ∧ fs.lookup ("plan" : Str) = some v ∧ P v := by
  obtain ⟨R, x, a, h, c, n, q⟩ := q
  exact v_rplan h c n q
theorem rooms2 (h1 : RoomAt R H r x a) (h2 : RoomAt R H r' x b) (pl : PlanAt C H x ks ps) (ok : PsOk ps) (la : a.length ≤ 2000) (lb : b.length ≤ 2000) : Rooms2 C R H r x a r' x b true := ⟨h1, h2, ⟨ks, ks, ps, ps, pl, pl, ok, ok, (decide_eq_true ⟨rfl, rfl⟩).symm⟩, la, lb⟩
theorem v_req (h1 : RoomAt R H r x a) (h2 : RoomAt R H r' x b) (pl : PlanAt C H x ks ps) (ok : PsOk ps) (la : a.length ≤ 2000) (lb : b.length ≤ 2000) (q : Q (.bl (decide (a = b))) H) : rM2 R (spRoomEq C R) E (.ref r) (.ref r') H Q := by
  obtain ⟨dx, e1⟩ := h1.ex
  obtain ⟨dy, e2⟩ := h2.ex
  refine v_M2 e1 e2 ⟨_, _, _, _, _, _, _, rfl, rooms2 h1 h2 pl ok la lb, ?_⟩
  rw [Bool.true_and]
  exact q
theorem v_rne (h1 : RoomAt R H r x a) (h2 : RoomAt R H r' x b) (pl : PlanAt C H x ks ps) (ok : PsOk ps) (la : a.length ≤ 2000) (lb : b.length ≤ 2000) (q : Q (.bl (!decide (a = b))) H) : rM2n R (spRoomEq C R) E (.ref r) (.ref r') H Q := by
  obtain ⟨dx, e1⟩ := h1.ex
  obtain ⟨dy, e2⟩ := h2.ex
  refine v_M2n e1 e2 ⟨_, _, _, _, _, _, _, rfl, rooms2 h1 h2 pl ok la lb, ?_⟩
  rw [Bool.true_and]
  exact ⟨_, rfl, q⟩
theorem v_rlen (h : RoomAt R H r x a) (l : a.length ≤ 100000) (q : Q (.int a.length) H) : rLenM R (spRoomLen R) E [.ref r] H Q := by
  obtain ⟨dx, e⟩ := h.ex
  exact v_lenM e ⟨_, _, _, rfl, h, l, a.length, rfl, by omega, q⟩
theorem v_reqT {z : Str} (h : RoomAt R H r x a) (q : Q (.bl false) H) : rMS R (spRoomEqS R) E (.ref r) (.str z) H Q := by
  obtain ⟨dx, e⟩ := h.ex
  exact v_MS e ⟨_, _, rfl, q⟩
theorem v_rlenG (q : ∃ x a, RoomAt R H r x a ∧ a.length ≤ 100000 ∧ Q (.int a.length) H) : rLenM R (spRoomLen R) E [.ref r] H Q := by
  obtain ⟨x, a, h, l, q⟩ := q
  exact v_rlen h l q
theorem v_reqG (q : ∃ x a b ks ps, RoomAt R H r x a ∧ RoomAt R H r' x b ∧ PlanAt C H x ks ps ∧ PsOk ps ∧ a.length ≤ 2000 ∧ b.length ≤ 2000 ∧ Q (.bl (decide (a = b))) H) : rM2 R (spRoomEq C R) E (.ref r) (.ref r') H Q := by
  obtain ⟨x, a, b, ks, ps, h1, h2, h3, h4, h5, h6, q⟩ := q
  exact v_req h1 h2 h3 h4 h5 h6 q
theorem v_rneG (q : ∃ x a b ks ps, RoomAt R H r x a ∧ RoomAt R H r' x b ∧ PlanAt C H x ks ps ∧ PsOk ps ∧ a.length ≤ 2000 ∧ b.length ≤ 2000 ∧ Q (.bl (!decide (a = b))) H) : rM2n R (spRoomEq C R) E (.ref r) (.ref r') H Q := by
  obtain ⟨x, a, b, ks, ps, h1, h2, h3, h4, h5, h6, q⟩ := q
  exact v_rne h1 h2 h3 h4 h5 h6 q
theorem v_reqTG {z : Str} (q : ∃ x a, RoomAt R H r x a ∧ Q (.bl false) H) : rMS R (spRoomEqS R) E (.ref r) (.str z) H Q := by
  obtain ⟨x, a, h, q⟩ := q
  exact v_reqT h q
theorem v_peqS {x : Addr} (pl : PlanAt C H x ks ps) (ok : PsOk ps) (q : Q (.bl true) H) : rM2 C (spPlanEq C) E (.ref x) (.ref x) H Q := by
  obtain ⟨dx, t, d, e, _⟩ := pl.ex
  refine v_M2 e e ⟨_, _, _, _, _, _, rfl, pl, pl, ok, ok, ?_⟩
  rw [decide_eq_true ⟨rfl, rfl⟩]
  exact q
theorem v_peqG {x : Addr} (q : ∃ ks ps, PlanAt C H x ks ps ∧ PsOk ps ∧ Q (.bl true) H) : rM2 C (spPlanEq C) E (.ref x) (.ref x) H Q := by
  obtain ⟨ks, ps, h1, h2, q⟩ := q
  exact v_peqS h1 h2 q
end
/-! ### rooms of a drawn floor -/
section
variable {K : PySem.W.Frag} {H : Hp} {Q : VK} {C R r x : Addr} {ls : List Nat} {fn : Nat → List Nat} {a b w : List Nat} {k : Nat} {E : XK}
end
theorem v_mdRG {R r : Addr} {H : Hp} {m : Str} {P : Prop} (q : ∃ x a, RoomAt R H r x a ∧ (¬ m = "name" ∧ ¬ m = "plan") ∧ P) : ∃ a dx fs, V.ref r = .ref a ∧ H a = some (.ins R dx fs) ∧ fs.lookup m = none ∧ P := by
  obtain ⟨x, a, h, ⟨h1, h2⟩, q⟩ := q
  obtain ⟨dx, e⟩ := h.ex
  exact ⟨r, dx, _, rfl, e, roomF_no h1 h2, q⟩
end
section
open PySem PySem.Spec L2
section
variable {P : Program} {w : World} {K : PySem.W.Frag} {mg : Str → Option Value} {base : Heap} {C : Addr}
end
end
section
open PySem PySem.Spec L2
section
variable {P : Program} {w : World} {K : PySem.W.Frag} {mg : Str → Option Value} {base : Heap} {C R O : Addr}
end
end
section
open PySem PySem.Spec L2
section
variable {P : Program} {w : World} {K : PySem.W.Frag} {mg : Str → Option Value} {base : Heap} {C R O : Addr}
end
/-! ### of a drawn floor -/
section
variable {K : PySem.W.Frag} {H : Hp} {Q : VK} {C R O r r' x : Addr} {ls : List Nat} {fn : Nat → List Nat} {a b : List Nat} {E : XK}
end
end
section
open PySem PySem.Spec L2
structure TxtA0 (K : PySem.W.Frag) (mg : Str → Option Value) (C : Addr) : Prop extends TxtP K mg C where
  any : mg "any" = none
structure TxtA (K : PySem.W.Frag) (mg : Str → Option Value) (C R O : Addr) : Prop extends TxtR K mg C R O where
  any : mg "any" = none
def strsG (Gs : List (List Nat)) : List V := Gs.map fun G => V.str (tx G)
theorem planF_no {ks : List Nat} {t d : Addr} {m : Str} (h : ¬ m = "kinds" ∧ ¬ m = "pairs" ∧ ¬ m = "own_crossing") : (planF ks t d).lookup m = none := by
  unfold planF
  rw [lookup_putF, if_neg h.2.2, lookup_putF, if_neg h.2.1, lookup_putF, if_neg h.1]
  rfl
theorem v_mdP {P : Prop} {C x : Addr} {H : Hp} {ks : List Nat} {ps : List (List Nat)} {m : Str} (h : PlanAt C H x ks ps) (n : ¬ m = "kinds" ∧ ¬ m = "pairs" ∧ ¬ m = "own_crossing") (q : P) : ∃ a dx fs, V.ref x = .ref a ∧ H a = some (.ins C dx fs) ∧ fs.lookup m = none ∧ P := by
  obtain ⟨dx, t, d, e, _, _⟩ := h.ex
  exact ⟨x, dx, _, rfl, e, planF_no n, q⟩
section
variable {P : Program} {w : World} {K : PySem.W.Frag} {mg : Str → Option Value} {base : Heap} {C R O : Addr}
end
end
section
open PySem PySem.Spec L2
/-- two plans whose sum is a plan -/
structure Sum2 (C : Addr) (H : Hp) (x y : Addr) (l m : List Nat) (ps qs : List (List Nat)) : Prop where
  px : PlanAt C H x l ps
  py : PlanAt C H y m qs
  dis : ∀ c ∈ l, ¬ c ∈ m
  ndl : l.Nodup
  ndm : m.Nodup
  ltl : ∀ c ∈ l, c ∈ LET
  ltm : ∀ c ∈ m, c ∈ LET
  len : l.length + m.length ≤ 8
  ip : PairsIn l ps
  iq : PairsIn m qs
  lp : ps.length ≤ 100
  lq : qs.length ≤ 100
theorem PairsIn.mono {l m : List Nat} {ps : List (List Nat)} (h : PairsIn l ps) (s : ∀ c ∈ l, c ∈ m) : PairsIn m ps := fun q hq => by
  obtain ⟨a, b, e, n, ha, hb⟩ := h q hq
  exact ⟨a, b, e, n, s a ha, s b hb⟩
theorem PairsIn.app {l : List Nat} {ps qs : List (List Nat)} (h : PairsIn l ps) (k : PairsIn l qs) : PairsIn l (ps ++ qs) := fun q hq => (List.mem_append.mp hq).elim (h q) (k q)
theorem op_catTK {X : Cx} {K : PySem.W.Frag} (h : X.K = K) : OpR X (binaryOp .Add) (rCatA K) := h ▸ op_catA
theorem v_catT {K : PySem.W.Frag} {H : Hp} {Q : VK} {a b : Addr} {xs ys : List V} (h1 : H a = some (.tup xs)) (h2 : H b = some (.tup ys)) (hl : xs.length + ys.length ≤ 1000000) (q : ∀ p H', Same H H' → H' p = some (.tup (xs ++ ys)) → Q (.ref p) H') : rCatA K (.ref a) (.ref b) H Q := by
  refine ⟨a, b, xs, ys, rfl, rfl, SqT.of h1, SqT.of h2, szl hl, fun e => ?_, fun _ e => ?_, fun _ _ p hp => q p _ (Same.new hp) upd_same⟩
  · subst e
    exact q b H (Same.refl _) h2
  · subst e
    exact q a H (Same.refl _) (by rw [List.append_nil]; exact h1)
theorem lc2_outer {te0 t1 te : TE} {tt tt1 : TT} {g g1 : TG} {vs vs1 : List Nat} {σ : L2.St} {H : Hp} {Q : VK} {la : List Nat} (h : ∀ R : VK, R (.str (tx la)) H → te0 σ H R) (q : tLc2 (iStr (tC (.str (tx la)))) g tt (iStr t1) g1 tt1 te vs vs1 σ H Q) : tLc2 (iStr te0) g tt (iStr t1) g1 tt1 te vs vs1 σ H Q := h _ q
theorem flatMap_congr' {α β : Type} {f g : α → List β} : ∀ {l : List α}, (∀ a ∈ l, f a = g a) → l.flatMap f = l.flatMap g
  | [], _ => rfl
  | a :: r, h => by rw [List.flatMap_cons, List.flatMap_cons, h a (List.mem_cons_self ..), flatMap_congr' fun b hb => h b (List.mem_cons_of_mem _ hb)]
theorem strsV_app (ps qs : List (List Nat)) : strsV (ps ++ qs) = strsV ps ++ strsV qs := by unfold strsV; rw [List.map_append]
theorem strsV_len (ps : List (List Nat)) : (strsV ps).length = ps.length := by unfold strsV; rw [List.length_map]
section
variable {P : Program} {w : World} {K : PySem.W.Frag} {mg : Str → Option Value} {base : Heap} {C : Addr}
end
end
section
open PySem PySem.Spec L2
def ringP (l : List Nat) : List (List Nat) := (List.range l.length).map fun k => [l.getD (if k = 0 then l.length - 1 else k - 1) 0, l.getD k 0]
theorem at_prev {l : List Nat} {k : Nat} (hk : k < l.length) : atI l ((k : Int) - 1) = some (l.getD (if k = 0 then l.length - 1 else k - 1) 0) := by
  have get : ∀ i, i < l.length → l[i]? = some (l.getD i 0) := fun i hi => by
    rw [List.getD_eq_getElem?_getD, List.getElem?_eq_getElem hi]
    rfl
  by_cases h : k = 0
  · subst h
    rw [if_pos rfl]
    unfold atI ixN
    rw [if_neg (by omega), if_pos (by omega)]
    show l[((((0 : Nat) : Int) - 1) + (l.length : Int)).toNat]? = _
    rw [show ((((0 : Nat) : Int) - 1) + (l.length : Int)).toNat = l.length - 1 by omega]
    exact get _ (by omega)
  · rw [if_neg h]
    rw [show ((k : Int) - 1) = ((k - 1 : Nat) : Int) by omega]
    exact atI_nat (j := k - 1) (get (k - 1) (by omega))
structure TxtG (K : PySem.W.Frag) (mg : Str → Option Value) (C : Addr) : Prop extends TxtP K mg C where
  range : mg "range" = none
section
variable {P : Program} {w : World} {K : PySem.W.Frag} {mg : Str → Option Value} {base : Heap} {C : Addr}
end
end
section
open PySem PySem.Spec L2
theorem Keep.free {p x : Addr} {H H' : Hp} (k : Keep p H H') (h : H' x = none) (n : x ≠ p) : H x = none := by
  cases z : H x with
  | none => rfl
  | some o =>
    have := k _ _ z n
    rw [h] at this
    cases this
section
variable {P : Program} {w : World} {K : PySem.W.Frag} {mg : Str → Option Value} {base : Heap} {C R O : Addr}
end
end
section
open PySem PySem.Spec L2
section
variable {P : Program} {w : World} {K : PySem.W.Frag} {mg : Str → Option Value} {base : Heap}
end
end
section
open PySem PySem.Spec L2
inductive WayO where
  | good (way : List Nat)
  | bad (i : Nat)
  | long (n : Nat)
/-- what is let out of a wrong way -/
structure OutW (IW TL : Addr) (E : XK) (H : Hp) (o : WayO) : Prop where
  bad : ∀ i, o = .bad i → ∀ H' d, Same H H' → H' d = some (.xd [("index", .int (i : Nat))]) → E (.ref IW) (some d) H'
  long : ∀ n, o = .long n → ∀ H' d, Same H H' → H' d = some (.xd [("length", .int (n : Nat))]) → E (.ref TL) (some d) H'
theorem OutW.same {IW TL : Addr} {E : XK} {H H1 : Hp} {o : WayO} (h : OutW IW TL E H o) (s : Same H H1) : OutW IW TL E H1 o := ⟨fun i e H' d s' => h.bad i e H' d (s.trans s'), fun i e H' d s' => h.long i e H' d (s.trans s')⟩
/-- no kind -/
def NoKind (K : PySem.W.Frag) (H : Hp) (ks : List Nat) (v : V) : Prop := NoTx K H v ∨ ∃ l : List Nat, v = .str (tx l) ∧ (∀ k ∈ ks, l ≠ [k]) ∧ l.length ≤ 100000
def spIsKindE (K : PySem.W.Frag) (C : Addr) : Sp := fun vs H Q _ => ∃ (x : Addr) (ks : List Nat) (ps : List (List Nat)) (v : V), vs = [.ref x, v] ∧ PlanAt C H x ks ps ∧ ((∃ k ∈ ks, v = .str (tx [k]) ∧ Q (.bl true) H) ∨ (NoKind K H ks v ∧ Q (.bl false) H))
def spNeedKindE (K : PySem.W.Frag) (C IK : Addr) : Sp := fun vs H Q E => ∃ (x : Addr) (ks : List Nat) (ps : List (List Nat)) (v : V), vs = [.ref x, v] ∧ PlanAt C H x ks ps ∧
  ((∃ k ∈ ks, v = .str (tx [k]) ∧ Q v H) ∨ (NoKind K H ks v ∧ ∀ H' d, Same H H' → H' d = some (.xd [("value", v)]) → E (.ref IK) (some d) H'))
section
variable {P : Program} {w : World} {K : PySem.W.Frag} {mg : Str → Option Value} {base : Heap} {C R O IW IK TL : Addr}
abbrev stis_kindE : Stmt := (top 11)
abbrev Nis_kindE : List Str := ["plan", "value"]
theorem scis_kindE : FnScope Nis_kindE ["plan", "value"] (defScope stis_kindE) := ⟨rfl, rfl, rfl, by decide +kernel, rfl, by decide +kernel, by decide +kernel⟩

theorem ok_is_kindE (F : FnAt K mg "is_kind" stis_kindE) (T : TxtP K mg C) : Def P w K mg base CX0 1 "is_kind" ["plan", "value"] (spIsKindE K C) := by
  refine F.ok scis_kindE (fun _ _ _ _ _ _ us hl => match us, hl with | [_, _], _ => rfl) (fun vs H Q E h => ?_) (fun f cdv A outer s H vs Q E hr h => ?_)
  · obtain ⟨x, ks, ps, v, rfl, _⟩ := h
    rfl
  obtain ⟨x, ks, ps, v, rfl, h1, h2⟩ := h
  have hu := hu_of hr
  have nd := scis_kindE.nd
  refine ⟨_, (pss_one (ps_ret (pe_and (pe_callB (c_isiK (K := K) rfl) (by rfl) T.isinstance (by decide +kernel) (pa_cons (pv 1) (pa_cons (pe_bltn (v := .ty "str") (u := .type "str") (by rfl) T.str (by decide +kernel) rfl) pa_nil))) (pe_and (pe_cmpR op_eq (pe_callB c_lenS (by rfl) T.len PySem.boot_len (pa_cons (pv 1) pa_nil)) pe_int (nomark _)) (pe_one (pe_cmpR op_inS (pv 1) (pe_flK (K := K) rfl (pv 0) rfl) (by rfl))))))), ?_⟩
  refine s_start [some _, some _] rfl ?_
  obtain ⟨dx, t, d, a1, a2, a3⟩ := h1.ex
  rcases h2 with ⟨k, hk, rfl, q⟩ | ⟨nt | ⟨l, rfl, hl, ll⟩, q⟩
  · have l1 : [k].length ≤ 1000000 := by simp
    walk_at "go"
    refine if_dec (fun c => ?_) (fun c => (c (by rfl)).elim)
    walk_at "go"
    refine v_fld a1 T.Plan.cl T.nK planF_k ?_
    walk_at "go"
    rw [decide_eq_true hk]
    exact q
  · walk_at "go"
    refine v_isiN nt ?_
    walk_at "go"
    exact q
  · have l1 : l.length ≤ 1000000 := by omega
    walk_at "go"
    refine if_dec (fun c => ?_) (fun c => ?_)
    · obtain ⟨k, rfl⟩ : ∃ k, l = [k] := by
        match l, c with
        | [k], _ => exact ⟨k, rfl⟩
        | [], c => exact absurd c (by decide)
        | a :: b :: r, c => exact absurd (V.int.inj c) (by simp only [List.length_cons]; omega)
      walk_at "go"
      refine v_fld a1 T.Plan.cl T.nK planF_k ?_
      walk_at "go"
      rw [decide_eq_false fun z => hl k z rfl]
      exact q
    · walk_at "go"
      exact q
abbrev stneed_kindE : Stmt := (top 12)
abbrev Nneed_kindE : List Str := ["plan", "value"]
theorem scneed_kindE : FnScope Nneed_kindE ["plan", "value"] (defScope stneed_kindE) := ⟨rfl, rfl, rfl, by decide +kernel, rfl, by decide +kernel, by decide +kernel⟩

theorem ok_need_kindE (F : FnAt K mg "need_kind" stneed_kindE) (D_is_kind : Def P w K mg base CX0 1 "is_kind" ["plan", "value"] (spIsKindE K C)) (X_InvalidKind : XDef P w K mg base 1 "InvalidKind" IK 1 (fun ws => [("value", ws.getD 0 .non)])) : Def P w K mg base (L2.CX P w) 3 "need_kind" ["plan", "value"] (spNeedKindE K C IK) := by
  refine F.okX scneed_kindE (fun _ _ _ _ _ _ us hl => match us, hl with | [_, _], _ => rfl) (fun vs H Q E h => ?_) (fun f cdv A outer s H vs Q E hr h => ?_)
  · obtain ⟨x, ks, ps, v, rfl, _⟩ := h
    rfl
  obtain ⟨x, ks, ps, v, rfl, h1, h2⟩ := h
  have hu := hu_of hr
  have nd := scneed_kindE.nd
  replace D_is_kind := D_is_kind.mono (show 1 ≤ 2 by decide)
  refine ⟨_, (pss_cons (ps_if (pt_not (pt_val (pe_cd D_is_kind hr pass0 (pa_cons (pv 0) (pa_cons (pv 1) pa_nil)))))
      (pss_one (ps_raise rfl (takes_of rfl rfl rfl rfl) (pmk_E X_InvalidKind hr (pa_cons (pv 1) pa_nil))))
      pss_nil)
      (pss_one (ps_ret (pv 1)))), ?_⟩
  refine s_start [some _, some _] rfl ?_
  rcases h2 with ⟨k, hk, rfl, q⟩ | ⟨nk, q⟩
  · walk_at "go"
    refine ⟨x, ks, ps, _, rfl, h1, .inl ⟨k, hk, rfl, ?_⟩⟩
    walk_at "go"
    exact q
  · walk_at "go"
    refine ⟨x, ks, ps, v, rfl, h1, .inr ⟨nk, ?_⟩⟩
    walk_at "go"
    refine (e_mkE ?_ : tMkO IK (spE IK 1 (fun ws => [("value", ws.getD 0 .non)])) [] (tCons (tVar 1) tNil) _ H fun cls d H' => E cls d H')
    walk_at "go"
    refine v_mkE (n := 1) (ws := [v]) rfl (by decide) fun d hd => ?_
    exact q _ d (Same.new hd) upd_same
end
end
local macro_rules | `(tactic| walk_at "ro") => `(tactic| first | assumption | ((apply RoomAt.go (by assumption)); walk_at "ro"))
local macro_rules | `(tactic| walk_at "pl") => `(tactic| first | assumption | ((apply PlanAt.go (by assumption)); walk_at "pl"))
local macro_rules | `(tactic| walk_at "st2") => `(tactic| first
  | (walk_at "st")
  | ((with_reducible refine v_rnameG ?_); refine ⟨_, _, _, (by walk_at "ro"), (by assumption), (by assumption), ?_⟩)
  | ((with_reducible refine v_rplanG ?_); refine ⟨_, _, _, (by walk_at "ro"), (by assumption), (by assumption), ?_⟩)
  | ((with_reducible refine v_rlenG ?_); refine ⟨_, _, (by walk_at "ro"), (by omega), ?_⟩)
  | ((with_reducible refine v_reqG ?_); refine ⟨_, _, _, _, _, (by walk_at "ro"), (by walk_at "ro"), (by walk_at "pl"), (by assumption), (by omega), (by omega), ?_⟩)
  | ((with_reducible refine v_rneG ?_); refine ⟨_, _, _, _, _, (by walk_at "ro"), (by walk_at "ro"), (by walk_at "pl"), (by assumption), (by omega), (by omega), ?_⟩)
  | ((with_reducible refine v_reqTG ?_); refine ⟨_, _, (by walk_at "ro"), ?_⟩)
  | ((with_reducible refine v_peqG ?_); refine ⟨_, _, (by walk_at "pl"), (by assumption), ?_⟩)
  | (with_reducible refine if_nI rfl ?_)
  | (with_reducible refine if_I rfl ?_)
  | ((with_reducible refine v_mdRG ?_); refine ⟨_, _, (by walk_at "ro"), (by decide +kernel), ?_⟩)
  | (with_reducible refine s_asgL ?_) | (with_reducible refine e_MN ?_)
  | (with_reducible refine e_CN ?_) | (refine ⟨rfl, rfl, ?_⟩))
local macro_rules | `(tactic| walk_at "go2") => `(tactic| repeat walk_at "st2")
section
open PySem PySem.Spec L2
/-- no pair of the kinds -/
def BadPair (K : PySem.W.Frag) (H : Hp) (ks : List Nat) (u : V) : Prop := (∀ H', LamX.ExtN H H' → NoTx K H' u) ∨ ∃ l : List Nat, u = .str (tx l) ∧ l.length < 1000 ∧ ¬ ∃ a b, l = [a, b] ∧ a ≠ b ∧ a ∈ ks ∧ b ∈ ks
theorem BadPair.same {K : PySem.W.Frag} {H H1 : Hp} {ks : List Nat} {u : V} (h : BadPair K H ks u) (s : Same H H1) : BadPair K H1 ks u := h.elim (fun z => .inl fun H' x => z H' ((ext_of s).trans x)) .inr
/-- xs: good pairs of the kinds up to the place n, where a bad one stands, or the end -/
structure UptoB (K : PySem.W.Frag) (H : Hp) (ks : List Nat) (xs : List V) (ps : List (List Nat)) (o : Option V) : Prop where
  pre : ∃ r, xs = strsV ps ++ r ∧ (o = none → r = []) ∧ ∀ u, o = some u → ∃ r', r = u :: r'
  good : PairsIn ks ps
  bad : ∀ u, o = some u → BadPair K H ks u
  len : xs.length < 1000
def spCheckedE (K : PySem.W.Frag) (IP : Addr) : Sp := fun vs H Q E => ∃ (ks : List Nat) (p : Addr) (xs : List V) (ps : List (List Nat)) (o : Option V), vs = [.str (tx ks), .ref p] ∧ SeqO K H p xs ∧ UptoB K H ks xs ps o ∧ (∀ c ∈ ks, c ∈ LET) ∧
  (∀ u, o = some u → ∀ H' d, Same H H' → H' d = some (.xd [("value", u)]) → E (.ref IP) (some d) H') ∧
  (o = none → ∀ t H', H t = none → Same H H' → H' t = some (.tup (strsV (pairsOf (ps.map ascOf)))) → Q (.ref t) H')
def spNeedFewE (TM : Addr) : Sp := fun vs H Q E => ∃ l : List Nat, vs = [.str (tx l)] ∧ l.length ≤ 1000 ∧ (l.length ≤ 8 → Q .non H) ∧ (8 < l.length → ∀ H' d, Same H H' → H' d = some (.xd [("most", .int 8)]) → E (.ref TM) (some d) H')
def spSameKindE (SK : Addr) : Sp := fun vs H Q E => ∃ a b : List Nat, vs = [.str (tx a), .str (tx b)] ∧ ((∀ c ∈ ascOf a, ¬ c ∈ b) → ∀ H', Same H H' → Q .non H') ∧ ∀ c r, (ascOf a).filter (fun c => decide (c ∈ b)) = c :: r → ∀ H' d, Same H H' → H' d = some (.xd [("kind", .str (tx [c]))]) → E (.ref SK) (some d) H'
section
variable {P : Program} {w : World} {K : PySem.W.Frag} {mg : Str → Option Value} {base : Heap} {C IP IK SK TM : Addr}
abbrev stchecked_pairsE : Stmt := (top 16)
abbrev Nchecked_pairsE : List Str := ["kinds", "crossing", "found", "pair", "a", "b"]
theorem scchecked_pairsE : FnScope Nchecked_pairsE ["kinds", "crossing"] (defScope stchecked_pairsE) := ⟨rfl, rfl, rfl, by decide +kernel, rfl, by decide +kernel, by decide +kernel⟩

theorem ok_checked_pairsE (F : FnAt K mg "checked_pairs" stchecked_pairsE) (T : TxtP K mg C) (D_is_list : Def P w K mg base CX0 1 "is_list" ["value"] (spIsList K)) (D_are_letters : Def P w K mg base CX0 1 "are_letters" ["value"] spAreLetters) (D_ascending : Def P w K mg base CX0 1 "ascending" ["letters"] spAscending) (X_InvalidPlan : XDef P w K mg base 1 "InvalidPlan" IP 1 (fun ws => [("value", ws.getD 0 .non)])) :
    Def P w K mg base (L2.CX P w) 3 "checked_pairs" ["kinds", "crossing"] (spCheckedE K IP) := by
  refine F.okX scchecked_pairsE (fun _ _ _ _ _ _ us hl => match us, hl with | [_, _], _ => rfl) (fun vs H Q E h => ?_) (fun f cdv A outer s H vs Q E hr h => ?_)
  · obtain ⟨ks, p, xs, ps, o, rfl, _⟩ := h
    rfl
  obtain ⟨ks, p, xs, ps, o, rfl, hp, up, hks, qb, qg⟩ := h
  have hu := hu_of hr
  have nd := scchecked_pairsE.nd
  replace D_is_list := D_is_list.mono (show 1 ≤ 2 by decide)
  replace D_are_letters := D_are_letters.mono (show 1 ≤ 2 by decide)
  replace D_ascending := D_ascending.mono (show 1 ≤ 2 by decide)
  refine ⟨_, (pss_cons (ps_if (pt_not (pt_val (pe_cd D_is_list hr pass0 (pa_cons (pv 1) pa_nil))))
      (pss_one (ps_raise rfl (takes_of rfl rfl rfl rfl) (pmk_E X_InvalidPlan hr (pa_cons (pv 1) pa_nil))))
      pss_nil)
      (pss_cons (ps_set (i := 2) nd rfl (Or.inr rfl) (pe_lst pa_nil))
      (pss_cons (ps_for PassesOwn.leaving rfl (pi_or (pi_listK (K := K) rfl (pv 1)) (pi_tupK (K := K) rfl (pv 1))) (pg_name (i := 3) nd rfl (Or.inl rfl))
      (pss_cons (ps_if (PW.pt (pw_or (pt_not (pt_val (pe_callB (c_isiK (K := K) rfl) (by rfl) T.isinstance (by decide +kernel) (pa_cons (pv 3) (pa_cons (pe_bltn (v := .ty "str") (u := .type "str") (by rfl) T.str (by decide +kernel) rfl) pa_nil))))) (pw_or (pt_cmpR op_ne (pe_callB c_lenS (by rfl) T.len PySem.boot_len (pa_cons (pv 3) pa_nil)) pe_int (nomark _)) (pw_or1 (pt_not (pt_val (pe_cd D_are_letters hr pass0 (pa_cons (pv 3) pa_nil))))))))
        (pss_one (ps_raise rfl (takes_of rfl rfl rfl rfl) (pmk_E X_InvalidPlan hr (pa_cons (pv 3) pa_nil))))
        pss_nil)
        (pss_cons (ps_if (PW.pt (pw_or (pt_cmpR op_notInS (pe_ix ix_str (pv 3) pe_int (fun _ _ => rfl)) (pv 0) (by rfl)) (pw_or1 (pt_cmpR op_notInS (pe_ix ix_str (pv 3) pe_int (fun _ _ => rfl)) (pv 0) (by rfl)))))
        (pss_one (ps_raise rfl (takes_of rfl rfl rfl rfl) (pmk_E X_InvalidPlan hr (pa_cons (pv 3) pa_nil))))
        pss_nil)
        (pss_one (ps_expr (pe_appK (K := K) rfl (pv 2) (pe_cd D_ascending hr pass0 (pa_cons (pv 3) pa_nil))))))))
      (pss_one (ps_ret (pe_callTy (c_tupleK (K := K) rfl) (by rfl) T.tuple (by decide +kernel) (pa_cons (pe_lc2 (own := [("a", 4), ("b", 5)]) (vs1 := [5]) (by rfl) nd (pi_str (pe_globS T.g_LETTERS)) (blkOk_by (own := [("a", 4), ("b", 5)]) (N := Nchecked_pairsE) (sc := defScope stchecked_pairsE) (by decide +kernel)) (by decide) (fun _ _ _ _ _ => (pg_name (i := 4) nd rfl (Or.inl rfl))) (fun _ _ _ _ _ => pts_nil) (fun _ _ _ _ _ => (pi_str (pe_globS T.g_LETTERS))) (fun _ _ _ _ _ => (pg_name (i := 5) nd rfl (Or.inl rfl))) (fun _ _ _ _ _ => (pts_one (pt_cmpR (op_inLK (K := K) rfl) (pe_op op_addS (pv 4) (pv 5)) (pv 2) (by rfl)))) (fun _ _ _ _ _ => (pe_op op_addS (pv 4) (pv 5)))) pa_nil))))))), ?_⟩
  refine s_start [some _, some _, none, none, none, none] rfl ?_
  obtain ⟨⟨rest, exs, r0, r1⟩, hps, hbad, hlen⟩ := up
  have lps : (strsV ps).length = ps.length := strsV_len ps
  have lxs : ps.length ≤ xs.length := by rw [exs, List.length_append, lps]; omega
  walk_at "go"
  refine ⟨p, _, rfl, hp, fun H1 s1 => ?_⟩
  walk_at "go"
  intro q H2 hq s2 e2
  walk_at "go"
  refine e_forSeq (xs := xs) hp (s1.trans s2) (fun Q q => by walk_at "go"; exact q) (fun k σ H' => k ≤ ps.length ∧ ∃ x, σ = [some (.str (tx ks)), some (.ref p), some (.ref q), x, none, none] ∧ Same H H' ∧ H' q = some (.lst (strsV ((ps.take k).map ascOf)))) ⟨Nat.zero_le _, _, rfl, s1.trans s2, e2⟩ ?_ ?_ ?_
  · rintro i σ H' ⟨_, x, rfl, s3, e3⟩
    exact s3
  · rintro i v σ H3 H4 hi ⟨hin, x, rfl, s3, e3⟩ ⟨rfl, hv⟩
    rcases Nat.lt_or_ge i ps.length with hi' | hi'
    · have hv2 : xs[i]? = some (V.str (tx ps[i])) := by
        rw [exs, List.getElem?_append_left (by rw [lps]; exact hi')]
        unfold strsV
        rw [List.getElem?_map, List.getElem?_eq_getElem hi']
        rfl
      obtain ⟨a, b, hab, hne, ha, hb⟩ := hps _ (List.getElem_mem hi')
      have hv' : v = .str (tx [a, b]) := by
        rw [hv, hab] at hv2
        exact Option.some.inj hv2
      subst hv'
      have ha2 := hks a ha
      have hb2 := hks b hb
      have e5 : decide ((∀ c ∈ [a, b], c ∈ LET) ∧ [a, b].Nodup) = true := by
        rw [decide_eq_true_iff]
        refine ⟨?_, by simp [hne]⟩
        intro c hc
        simp only [List.mem_cons, List.not_mem_nil, or_false] at hc
        rcases hc with rfl | rfl <;> assumption
      walk_at "go"
      refine if_ndec (fun c => absurd rfl c) (fun _ => ?_)
      walk_at "go"
      refine ⟨[a, b], rfl, by simp, fun H5 s5 => ?_⟩
      rw [e5]
      walk_at "go"
      refine v_ixS (c := a) (by simp) rfl ?_
      walk_at "go"
      refine if_ndec (fun c => absurd ha c) (fun _ => ?_)
      walk_at "go"
      refine v_ixS (c := b) (by simp) rfl ?_
      walk_at "go"
      refine if_ndec (fun c => absurd hb c) (fun _ => ?_)
      have e6 := s5 _ _ e3
      walk_at "go"
      refine ⟨[a, b], rfl, fun H7 s7 => ?_⟩
      walk_at "go"
      refine v_app (s7 _ _ e6) ?_ fun H8 s8 e8 => ?_
      · simp only [strsV, List.length_map, List.length_take]
        omega
      refine ⟨hi', _, rfl, fun b' o hb' => s8 _ _ (s7 _ _ (s5 _ _ (s3 _ _ hb'))) (ne_of_none hb' (L2.Same.free s1 hq)), ?_⟩
      rw [e8, List.take_add_one, List.getElem?_eq_getElem hi', hab, List.map_append]
      simp only [strsV, List.map_append]
      rfl
    · have ei : i = ps.length := by omega
      subst ei
      obtain ⟨u, ho⟩ : ∃ u, o = some u := by
        cases o with
        | some u => exact ⟨u, rfl⟩
        | none =>
          rw [exs, r0 rfl, List.append_nil, lps] at hi
          exact absurd hi (Nat.lt_irrefl _)
      obtain ⟨r', hr'⟩ := r1 u ho
      have hv2 : v = u := by
        rw [exs, hr', List.getElem?_append_right (by omega), lps, Nat.sub_self] at hv
        exact (Option.some.inj hv).symm
      subst hv2
      have qq := qb v ho
      have bp := (hbad v ho).same s3
      have raise : ∀ {H5 : Hp}, Same H4 H5 → tMkO IP (spE IP 1 fun ws => [("value", ws.getD 0 V.non)]) [] (tCons (tVar 3) tNil) [some (.str (tx ks)), some (.ref p), some (.ref q), some v, none, none] H5 fun cls d H' => E cls d H' := fun {H5} s5 => by
        refine e_mkE ?_
        walk_at "go"
        refine v_mkE (n := 1) (ws := [v]) rfl (by decide) fun d hd => ?_
        exact qq _ d ((s3.trans s5).trans (Same.new hd)) upd_same
      walk_at "go"
      rcases bp with nt | ⟨l, rfl, ll, nb⟩
      · refine v_isiN (nt _ (LamX.ExtN.refl _)) ?_
        walk_at "go"
        exact raise (Same.refl _)
      · have l1 : l.length ≤ 1000000 := by omega
        walk_at "go"
        refine if_ndec (fun c => raise (Same.refl _)) (fun c => ?_)
        obtain ⟨a, b, rfl⟩ : ∃ a b, l = [a, b] := by
          match l, c with
          | [a, b], _ => exact ⟨a, b, rfl⟩
          | [], c => exact absurd c (by decide)
          | [_], c => exact absurd (V.int.inj c) (by simp)
          | _ :: _ :: _ :: r, c => exact absurd (V.int.inj c) (by simp only [List.length_cons]; omega)
        walk_at "go"
        refine ⟨[a, b], rfl, ll, fun H5 s5 => ?_⟩
        walk_at "go"
        by_cases c2 : (∀ c ∈ [a, b], c ∈ LET) ∧ [a, b].Nodup
        · rw [decide_eq_true c2]
          walk_at "go"
          have ne : a ≠ b := by
            have := c2.2
            simpa using this
          refine v_ixS (c := a) (by simp) rfl ?_
          walk_at "go"
          refine if_ndec (fun c => raise s5) (fun ha => ?_)
          walk_at "go"
          refine v_ixS (c := b) (by simp) rfl ?_
          walk_at "go"
          refine if_ndec (fun c => raise s5) (fun hb => ?_)
          exact absurd ⟨a, b, rfl, ne, ha, hb⟩ nb
        · rw [decide_eq_false c2]
          walk_at "go"
          exact raise s5
  · rintro σ H3 ⟨hin, x, rfl, s3, e3⟩
    have ho : o = none := by
      cases o with
      | none => rfl
      | some u =>
        obtain ⟨r', hr'⟩ := r1 u rfl
        rw [exs, hr', List.length_append, lps, List.length_cons] at hin
        omega
    rw [exs, r0 ho, List.append_nil, lps, List.take_length] at e3
    walk_at "go"
    refine v_lc2S (lb := LET) (b := fun a b => decide ([a, b] ∈ ps.map ascOf)) (f := fun a b => V.str (tx [a, b])) (by decide) (by decide) (fun c _ H1 s1 R r => r) (fun c d _ _ H1 s1 R r => ?_) (fun c d _ _ _ H1 s1 R r => ?_) (fun D H5 hD s5 e5 => ?_)
    · have e1 := s1 _ _ e3
      walk_at "go"
      exact r H1 (Same.refl _)
    · walk_at "go"
      exact r H1 (Same.refl _)
    · walk_at "go"
      refine v_tuple e5 fun t H6 ht s6 e6 => ?_
      refine qg ho t H6 (L2.Same.free s3 (L2.Same.free s5 ht)) ((s3.trans s5).trans s6) ?_
      rw [e6]
      unfold strsV pairsOf
      rw [List.map_flatMap]
      simp only [List.map_map]
      rfl
end
end
section
open PySem PySem.Spec L2
theorem filter_first {α : Type} {p : α → Bool} : ∀ {l : List α} {i : Nat} {c : α}, l[i]? = some c → p c = true → (∀ j z, j < i → l[j]? = some z → p z = false) → ∃ r, l.filter p = c :: r
  | [], _, _, h, _, _ => by simp at h
  | a :: t, 0, c, h, hc, _ => by
    rw [List.getElem?_cons_zero] at h
    cases h
    exact ⟨t.filter p, by rw [List.filter_cons, if_pos hc]⟩
  | a :: t, i + 1, c, h, hc, hb => by
    have ha := hb 0 a (by omega) rfl
    obtain ⟨r, hr⟩ := filter_first (l := t) (i := i) (c := c) (by rwa [List.getElem?_cons_succ] at h) hc fun j z hj hz => hb (j + 1) z (by omega) (by rwa [List.getElem?_cons_succ])
    exact ⟨r, by rw [List.filter_cons, if_neg (by rw [ha]; exact Bool.false_ne_true), hr]⟩
/-- never a text, whatever is made meanwhile -/
abbrev NvTx (K : PySem.W.Frag) (H : Hp) (v : V) : Prop := ∀ H', LamX.ExtN H H' → NoTx K H' v
theorem NvTx.same {K : PySem.W.Frag} {H H1 : Hp} {v : V} (h : NvTx K H v) (s : Same H H1) : NvTx K H1 v := fun H' x => h H' ((ext_of s).trans x)
theorem NvTx.now {K : PySem.W.Frag} {H : Hp} {v : V} (h : NvTx K H v) : NoTx K H v := h H (LamX.ExtN.refl _)
/-- a raise of the class X with the one field f -/
abbrev Rz (E : XK) (H : Hp) (X : Addr) (f : Str) (v : V) : Prop := ∀ H' d, Same H H' → H' d = some (.xd [(f, v)]) → E (.ref X) (some d) H'
theorem Rz.same {E : XK} {H H1 : Hp} {X : Addr} {f : Str} {v : V} (h : Rz E H X f v) (s : Same H H1) : Rz E H1 X f v := fun H' d s' e => h H' d (s.trans s') e
/-- no letters, each once -/
def BadKs (K : PySem.W.Frag) (H : Hp) (v : V) : Prop := NvTx K H v ∨ ∃ l : List Nat, v = .str (tx l) ∧ l.length < 1000 ∧ ¬ ((∀ c ∈ l, c ∈ LET) ∧ l.Nodup)
def spAreLettersE (K : PySem.W.Frag) : Sp := fun vs H Q _ => ∃ v : V, vs = [v] ∧ ((NoTx K H v ∧ Q (.bl false) H) ∨ ∃ l : List Nat, v = .str (tx l) ∧ l.length < 1000 ∧ ∀ H', Same H H' → Q (.bl (decide ((∀ c ∈ l, c ∈ LET) ∧ l.Nodup))) H')
def PlanR (K : PySem.W.Frag) (IP TM : Addr) (H : Hp) (kv : V) (p : Addr) (E : XK) (good : List Nat → List (List Nat) → Prop) : Prop :=
  (BadKs K H kv ∧ Rz E H IP "value" kv) ∨
  ∃ (l : List Nat) (xs : List V) (ps : List (List Nat)) (o : Option V), kv = .str (tx l) ∧ SeqO K H p xs ∧ UptoB K H l xs ps o ∧ (∀ c ∈ l, c ∈ LET) ∧ l.Nodup ∧ l.length < 1000 ∧ (∀ u, o = some u → Rz E H IP "value" u) ∧ (o = none → 8 < l.length → Rz E H TM "most" (.int 8)) ∧ (o = none → l.length ≤ 8 → good l ps)
theorem PlanR.imp {K : PySem.W.Frag} {IP TM : Addr} {H : Hp} {kv : V} {p : Addr} {E : XK} {g g' : List Nat → List (List Nat) → Prop} (h : PlanR K IP TM H kv p E g) (i : ∀ l ps, g l ps → g' l ps) : PlanR K IP TM H kv p E g' := by
  rcases h with h | ⟨l, xs, ps, o, a, b, c, d, e, f, h1, h2, h3⟩
  · exact .inl h
  · exact .inr ⟨l, xs, ps, o, a, b, c, d, e, f, h1, h2, fun x y => i _ _ (h3 x y)⟩
def spPlan0E (K : PySem.W.Frag) (C IP TM : Addr) : Sp := fun vs H Q E => ∃ (x dx : Addr) (kv : V) (p : Addr) (H0 : Hp), vs = [.ref x, kv, .ref p] ∧ H x = some (.ins C dx []) ∧ H0 x = none ∧ Same H0 H ∧
  PlanR K IP TM H0 kv p E fun l ps => ∀ H', Same H0 H' → PlanAt C H' x (kindsOf l) (prsOf ps) → (∀ b o, H0 b = some o → PlanOff C H' x b) → Q .non H'
def spPlanE (K : PySem.W.Frag) (C IP TM : Addr) : Sp := fun vs H Q E => ∃ (kv : V) (p : Addr), vs = [kv, .ref p] ∧
  PlanR K IP TM H kv p E fun l ps => ∀ x H', H x = none → Same H H' → PlanAt C H' x (kindsOf l) (prsOf ps) → (∀ b o, H b = some o → PlanOff C H' x b) → Q (.ref x) H'
theorem conv_planE (K : PySem.W.Frag) (C IP TM : Addr) : Conv C (spPlan0E K C IP TM) (spPlanE K C IP TM) := by
  rintro vs H Q E ⟨kv, p, rfl, h⟩ x dx hx hdx hne
  refine ⟨x, dx, kv, p, H, rfl, upd_same, hx, fun b u hb => ?_, h.imp fun l ps g H' s' a off => ⟨rfl, g x H' hx s' a off⟩⟩
  rw [upd_ne (ne_of_none hb hx), upd_ne (ne_of_none hb hdx)]
  exact hb
theorem UptoB.asc {K : PySem.W.Frag} {H H1 : Hp} {l : List Nat} {xs : List V} {ps : List (List Nat)} {o : Option V} (u : UptoB K H l xs ps o) (s : Same H H1) (hl : ∀ c ∈ l, c ∈ LET) : UptoB K H1 (ascOf l) xs ps o := by
  refine ⟨u.pre, fun q hq => ?_, fun v hv => ?_, u.len⟩
  · obtain ⟨a, b, e, n, ha, hb⟩ := u.good q hq
    exact ⟨a, b, e, n, ascOf_mem.mpr ⟨hl a ha, ha⟩, ascOf_mem.mpr ⟨hl b hb, hb⟩⟩
  · rcases (u.bad v hv).same s with h | ⟨m, e, lm, h⟩
    · exact .inl h
    · exact .inr ⟨m, e, lm, fun ⟨a, b, e2, n, ha, hb⟩ => h ⟨a, b, e2, n, (ascOf_mem.mp ha).2, (ascOf_mem.mp hb).2⟩⟩
theorem uptoB_all {K : PySem.W.Frag} {H : Hp} {l : List Nat} {ps : List (List Nat)} (h : PairsIn l ps) (hl : ps.length < 1000) : UptoB K H l (strsV ps) ps none := ⟨⟨[], (List.append_nil _).symm, fun _ => rfl, fun u z => nomatch z⟩, h, (fun u z => nomatch z), by rw [strsV_len]; exact hl⟩
structure Sum2E (C : Addr) (H : Hp) (x y : Addr) (l m : List Nat) (ps qs : List (List Nat)) : Prop where
  px : PlanAt C H x l ps
  py : PlanAt C H y m qs
  ndl : l.Nodup
  ndm : m.Nodup
  ltl : ∀ c ∈ l, c ∈ LET
  ltm : ∀ c ∈ m, c ∈ LET
  lenl : l.length ≤ 8
  lenm : m.length ≤ 8
  ip : PairsIn l ps
  iq : PairsIn m qs
  lp : ps.length ≤ 100
  lq : qs.length ≤ 100
def spSumE (C SK TM : Addr) : Sp := fun vs H Q E => ∃ (x y : Addr) (l m : List Nat) (ps qs : List (List Nat)), vs = [.ref x, .ref y] ∧ Sum2E C H x y l m ps qs ∧
  ((∃ c r, (ascOf l).filter (fun c => decide (c ∈ m)) = c :: r ∧ Rz E H SK "kind" (.str (tx [c]))) ∨
   ((∀ c ∈ l, ¬ c ∈ m) ∧ (8 < l.length + m.length → Rz E H TM "most" (.int 8)) ∧ (l.length + m.length ≤ 8 → ∀ v H', Same H H' → Q v H')))
def spRingE (K : PySem.W.Frag) (IP TM : Addr) : Sp := fun vs H Q E => ∃ v : V, vs = [v] ∧
  (((BadKs K H v ∨ ∃ l : List Nat, v = .str (tx l) ∧ l.length < 4) ∧ Rz E H IP "value" v) ∨
   ∃ l : List Nat, v = .str (tx l) ∧ (∀ c ∈ l, c ∈ LET) ∧ l.Nodup ∧ 8 < l.length ∧ l.length < 900 ∧ Rz E H TM "most" (.int 8))
def spCrossesE (K : PySem.W.Frag) (C IK : Addr) : Sp := fun vs H Q E => ∃ (x : Addr) (ks : List Nat) (ps : List (List Nat)) (a b : V), vs = [.ref x, a, b] ∧ PlanAt C H x ks ps ∧
  ((NoKind K H ks a ∧ Rz E H IK "value" a) ∨ ∃ k ∈ ks, a = .str (tx [k]) ∧ NoKind K H ks b ∧ Rz E H IK "value" b)
section
variable {P : Program} {w : World} {K : PySem.W.Frag} {mg : Str → Option Value} {base : Heap} {C IP IK SK TM : Addr}
abbrev stare_lettersE : Stmt := (top 14)
abbrev Nare_lettersE : List Str := ["value", "letter"]
theorem scare_lettersE : FnScope Nare_lettersE ["value"] (defScope stare_lettersE) := ⟨rfl, rfl, rfl, by decide +kernel, rfl, by decide +kernel, by decide +kernel⟩

theorem ok_are_lettersE (F : FnAt K mg "are_letters" stare_lettersE) (T : TxtP K mg C) : Def P w K mg base CX0 1 "are_letters" ["value"] (spAreLettersE K) := by
  refine F.ok scare_lettersE (fun _ _ _ _ _ _ us hl => match us, hl with | [_], _ => rfl) (fun vs H Q E h => ?_) (fun f cdv A outer s H vs Q E hr h => ?_)
  · obtain ⟨v, rfl, _⟩ := h
    rfl
  obtain ⟨v, rfl, h⟩ := h
  have hu := hu_of hr
  have nd := scare_lettersE.nd
  refine ⟨_, (pss_one (ps_ret (pe_and (pe_callB (c_isiK (K := K) rfl) (by rfl) T.isinstance (by decide +kernel) (pa_cons (pv 0) (pa_cons (pe_bltn (v := .ty "str") (u := .type "str") (by rfl) T.str (by decide +kernel) rfl) pa_nil))) (pe_and (pe_callB (c_allK (K := K) rfl rfl) (by rfl) T.all (by decide +kernel) (pa_cons (pe_lc (own := [("letter", 1)]) (g := gName 1) (by rfl) nd (pi_str (pv 0)) (blkOk_by (own := [("letter", 1)]) (N := Nare_lettersE) (sc := defScope stare_lettersE) (by decide +kernel)) (fun _ _ _ _ _ => (pg_name (i := 1) nd rfl (Or.inl rfl))) (fun _ _ _ _ _ => pts_nil) (fun _ _ _ _ _ => (pe_cmpR op_inS (pv 1) (pe_globS T.g_LETTERS) (by rfl)))) pa_nil)) (pe_one (pe_cmpR op_eq (pe_callB c_lenSet (by rfl) T.len PySem.boot_len (pa_cons (pe_callTy (c_setS rfl) (by rfl) T.set (by decide +kernel) (pa_cons (pv 0) pa_nil)) pa_nil)) (pe_callB c_lenS (by rfl) T.len PySem.boot_len (pa_cons (pv 0) pa_nil)) (nomark _))))))), ?_⟩
  refine s_start [some _, none] rfl ?_
  rcases h with ⟨nt, k⟩ | ⟨l, rfl, hl, k⟩
  · walk_at "go"
    refine v_isiN nt ?_
    walk_at "go"
    exact k
  walk_at "go"
  refine v_lcS (b := fun _ => true) (f := fun c => V.bl (decide (c ∈ LET))) (by omega) (fun c _ H1 s1 R r => ?_) (fun c _ _ H1 s1 R r => ?_) (fun D H1 hD s1 e1 => ?_)
  · walk_at "go"
    exact r H1 (Same.refl _)
  · walk_at "go"
    exact r H1 (Same.refl _)
  walk_at "go"
  have e2 : H1 D = some (.lst ((l.map fun c => decide (c ∈ LET)).map V.bl)) := by
    rw [e1, List.map_map, filter_yes]
    rfl
  refine v_all e2 ?_
  walk_at "go"
  have ha : (l.map fun c => decide (c ∈ LET)).all id = decide (∀ c ∈ l, c ∈ LET) := by
    rw [Bool.eq_iff_iff, List.all_eq_true, decide_eq_true_iff]
    simp
  rw [ha]
  refine if_dec (fun c => ?_) (fun c => ?_)
  · walk_at "go"
    refine v_setS (by omega) fun p H2 hp s2 e2 => ?_
    walk_at "go"
    have e3 : decide (V.int ((metOf (l.map fun c => tx [c])).length : Int) = V.int (l.length : Int)) = decide ((∀ c ∈ l, c ∈ LET) ∧ l.Nodup) := by
      rw [dec_int, Bool.eq_iff_iff, decide_eq_true_iff, beq_iff_eq]
      have := metOf_ones l
      constructor
      · intro e
        exact ⟨c, this.mp (by omega)⟩
      · intro e
        have := this.mpr e.2
        omega
    rw [e3]
    exact k H2 (s1.trans s2)
  · have e3 : decide ((∀ c ∈ l, c ∈ LET) ∧ l.Nodup) = false := decide_eq_false fun z => c z.1
    rw [e3] at k
    exact k H1 s1
abbrev stneed_fewE : Stmt := (top 18)
abbrev Nneed_fewE : List Str := ["kinds"]
theorem scneed_fewE : FnScope Nneed_fewE ["kinds"] (defScope stneed_fewE) := ⟨rfl, rfl, rfl, by decide +kernel, rfl, by decide +kernel, by decide +kernel⟩

theorem ok_need_fewE (F : FnAt K mg "need_few" stneed_fewE) (T : TxtP K mg C) (X_TooMany : XDef P w K mg base 1 "TooMany" TM 1 (fun ws => [("most", ws.getD 0 .non)])) : Def P w K mg base (L2.CX P w) 3 "need_few" ["kinds"] (spNeedFewE TM) := by
  refine F.okX scneed_fewE (fun _ _ _ _ _ _ us hl => match us, hl with | [_], _ => rfl) (fun vs H Q E h => ?_) (fun f cdv A outer s H vs Q E hr h => ?_)
  · obtain ⟨l, rfl, _⟩ := h
    rfl
  obtain ⟨l, rfl, hl, q, qe⟩ := h
  have hu := hu_of hr
  have nd := scneed_fewE.nd
  refine ⟨_, (pss_one (ps_if (pt_cmpR op_gt (pe_callB c_lenS (by rfl) T.len PySem.boot_len (pa_cons (pv 0) pa_nil)) (pe_globI T.g_MOST_KINDS) (nomark _))
      (pss_one (ps_raise rfl (takes_of rfl rfl rfl rfl) (pmk_E X_TooMany hr (pa_cons (pe_globI T.g_MOST_KINDS) pa_nil))))
      pss_nil)), ?_⟩
  refine s_start [some _] rfl ?_
  have hl2 : l.length ≤ 1000000 := by omega
  walk_at "go"
  refine if_dec (fun c => ?_) (fun c => ?_)
  · refine (e_mkE ?_ : tMkO TM (spE TM 1 (fun ws => [("most", ws.getD 0 .non)])) [] (tCons (tC (.int 8)) tNil) _ H fun cls d H' => E cls d H')
    walk_at "go"
    refine v_mkE (n := 1) (ws := [.int 8]) rfl (by decide) fun d hd => ?_
    exact qe (by omega) _ d (Same.new hd) upd_same
  · exact q (by omega)
abbrev stsame_kindE : Stmt := (top 17)
abbrev Nsame_kindE : List Str := ["one", "other", "kind"]
theorem scsame_kindE : FnScope Nsame_kindE ["one", "other"] (defScope stsame_kindE) := ⟨rfl, rfl, rfl, by decide +kernel, rfl, by decide +kernel, by decide +kernel⟩

theorem ok_same_kindE (F : FnAt K mg "same_kind" stsame_kindE) (D_ascending : Def P w K mg base CX0 1 "ascending" ["letters"] spAscending) (X_SameKind : XDef P w K mg base 1 "SameKind" SK 1 (fun ws => [("kind", ws.getD 0 .non)])) : Def P w K mg base (L2.CX P w) 3 "same_kind" ["one", "other"] (spSameKindE SK) := by
  refine F.okX scsame_kindE (fun _ _ _ _ _ _ us hl => match us, hl with | [_, _], _ => rfl) (fun vs H Q E h => ?_) (fun f cdv A outer s H vs Q E hr h => ?_)
  · obtain ⟨a, b, rfl, _⟩ := h
    rfl
  obtain ⟨a, b, rfl, q, qe⟩ := h
  have hu := hu_of hr
  have nd := scsame_kindE.nd
  replace D_ascending := D_ascending.mono (show 1 ≤ 2 by decide)
  refine ⟨_, (pss_one (ps_for PassesOwn.leaving rfl (pi_str (pe_cd D_ascending hr pass0 (pa_cons (pv 0) pa_nil))) (pg_name (i := 2) nd rfl (Or.inl rfl))
      (pss_one (ps_if (pt_cmpR op_inS (pv 2) (pv 1) (by rfl))
        (pss_one (ps_raise rfl (takes_of rfl rfl rfl rfl) (pmk_E X_SameKind hr (pa_cons (pv 2) pa_nil))))
        pss_nil)))), ?_⟩
  refine s_start [some _, some _, none] rfl ?_
  walk_at "go"
  refine ⟨a, rfl, fun H1 s1 => ?_⟩
  walk_at "go"
  refine for_it (walk_tx (ascOf a)) (fun i σ H' => (∀ j z, j < i → (ascOf a)[j]? = some z → ¬ z ∈ b) ∧ ∃ z, σ = [some (.str (tx a)), some (.str (tx b)), z] ∧ Same H H') ⟨fun j z hj => absurd hj (Nat.not_lt_zero _), _, rfl, s1⟩ (fun _ _ _ _ _ => trivial) ?_ ?_
  · rintro i v σ H2 H3 hi ⟨hn, z, rfl, s2⟩ ⟨rfl, rfl⟩
    have hg : (ascOf a)[i]? = some ((ascOf a).getD i 0) := by
      rw [List.getD_eq_getElem?_getD, List.getElem?_eq_getElem hi]
      rfl
    generalize (ascOf a).getD i 0 = c at *
    walk_at "go"
    refine if_dec (fun e => ?_) (fun e => ?_)
    · obtain ⟨r, hr⟩ := filter_first (p := fun c => decide (c ∈ b)) hg (decide_eq_true e) fun j z hj hz => decide_eq_false (hn j z hj hz)
      refine (e_mkE ?_ : tMkO SK (spE SK 1 (fun ws => [("kind", ws.getD 0 .non)])) [] (tCons (tVar 2) tNil) _ _ fun cls d H' => E cls d H')
      walk_at "go"
      refine v_mkE (n := 1) (ws := [.str (tx [c])]) rfl (by decide) fun d hd => ?_
      exact qe c r hr _ d (s2.trans (Same.new hd)) upd_same
    · walk_at "go"
      refine ⟨fun j z hj hz => ?_, _, rfl, s2⟩
      rcases Nat.lt_or_ge j i with w | w
      · exact hn j z w hz
      · obtain rfl : j = i := by omega
        rw [hg] at hz
        cases hz
        exact e
  · rintro σ H2 ⟨hn, z, rfl, s2⟩
    refine q (fun c hc => ?_) H2 s2
    obtain ⟨j, hj, rfl⟩ := List.getElem_of_mem hc
    exact hn j _ hj (List.getElem?_eq_getElem hj)
abbrev stPlan_initE : Stmt := (inClass (top 19) 0)
abbrev NPlan_initE : List Str := ["self", "kinds", "crossing"]
theorem scPlan_initE : FnScope NPlan_initE ["self", "kinds", "crossing"] (defScope stPlan_initE) := ⟨rfl, rfl, rfl, by decide +kernel, rfl, by decide +kernel, by decide +kernel⟩

theorem ok_PlanE {dvs : List V} (F : MAtD K C "__init__" "Plan.__init__" stPlan_initE dvs) (hd : dvs.length = 1) (T : TxtP K mg C) (D_are_letters : Def P w K mg base CX0 1 "are_letters" ["value"] (spAreLettersE K)) (D_ascending : Def P w K mg base CX0 1 "ascending" ["letters"] spAscending)
    (D_checked_pairs : Def P w K mg base (L2.CX P w) 3 "checked_pairs" ["kinds", "crossing"] (spCheckedE K IP)) (D_need_few : Def P w K mg base (L2.CX P w) 3 "need_few" ["kinds"] (spNeedFewE TM)) (D_crossing_table : Def P w K mg base CX0 1 "crossing_table" ["kinds", "pairs"] spCross) (X_InvalidPlan : XDef P w K mg base 1 "InvalidPlan" IP 1 (fun ws => [("value", ws.getD 0 .non)])) :
    CMk P w K mg base (L2.CX P w) 4 "Plan" C (spPlanE K C IP TM) ["self", "kinds", "crossing"] "Plan.__init__" stPlan_initE dvs := by
  refine F.makeX (sp0 := spPlan0E K C IP TM) T.Plan scPlan_initE (by intro z; rw [z] at hd; cases hd) (fun T kV doc pm an cdv ct us its l1 l2 => ?_) (fun vs H Q E h => ?_) (conv_planE K C IP TM) (fun f cdv A outer s H vs Q E hr h => ?_)
  · rw [hd] at l2 ⊢
    match us, l1, its, l2 with
    | [_, _, _], _, [_], _ => exact ⟨_, rfl, rfl⟩
  · obtain ⟨x, dx, kv, p, H0, rfl, _⟩ := h
    rfl
  obtain ⟨x, dx, kv, p, H0, rfl, hx, h0, s0, h⟩ := h
  have hu := hu_of hr
  have nd := scPlan_initE.nd
  replace D_are_letters := D_are_letters.mono (show 1 ≤ 3 by decide)
  replace D_ascending := D_ascending.mono (show 1 ≤ 3 by decide)
  replace D_crossing_table := D_crossing_table.mono (show 1 ≤ 3 by decide)
  replace X_InvalidPlan := X_InvalidPlan.mono (show 1 ≤ 2 by decide)
  refine ⟨_, (pss_cons (ps_if (pt_not (pt_val (pe_cd D_are_letters hr pass0 (pa_cons (pv 1) pa_nil))))
      (pss_one (ps_raise rfl (takes_of rfl rfl rfl rfl) (pmk_E X_InvalidPlan hr (pa_cons (pv 1) pa_nil))))
      pss_nil)
      (pss_cons (ps_flK (K := K) rfl (pv 0) (pe_cd D_ascending hr pass0 (pa_cons (pv 1) pa_nil)) rfl)
      (pss_cons (ps_flK (K := K) rfl (pv 0) (pe_cd D_checked_pairs hr (passes_call (takes_of rfl rfl rfl rfl) (fun _ _ _ _ h => h)) (pa_cons (pe_flK (K := K) rfl (pv 0) rfl) (pa_cons (pv 2) pa_nil))) rfl)
      (pss_cons (ps_expr (pe_cd D_need_few hr (passes_call (takes_of rfl rfl rfl rfl) (fun _ _ _ _ h => h)) (pa_cons (pe_flK (K := K) rfl (pv 0) rfl) pa_nil)))
      (pss_one (ps_flK (K := K) rfl (pv 0) (pe_cd D_crossing_table hr pass0 (pa_cons (pe_flK (K := K) rfl (pv 0) rfl) (pa_cons (pe_flK (K := K) rfl (pv 0) rfl) pa_nil))) rfl)))))), ?_⟩
  refine s_start [some _, some _, some _] rfl ?_
  have raise : ∀ {H5 : Hp} {pv : V}, Same H0 H5 → Rz E H0 IP "value" kv → tMkO IP (spE IP 1 fun ws => [("value", ws.getD 0 V.non)]) [] (tCons (tVar 1) tNil) [some (.ref x), some kv, some pv] H5 fun cls d H' => E cls d H' := fun {H5 pv} s5 rz => by
    refine e_mkE ?_
    walk_at "go"
    refine v_mkE (n := 1) (ws := [kv]) rfl (by decide) fun d hd => ?_
    exact rz _ d (s5.trans (Same.new hd)) upd_same
  rcases h with ⟨nt | ⟨l, rfl, ll, nb⟩, rz⟩ | ⟨l, xs, ps, o, rfl, hp, up, h3, h4, h5, r1, r2, k⟩
  · walk_at "go"
    refine ⟨_, rfl, .inl ⟨(nt.same s0).now, ?_⟩⟩
    walk_at "go"
    exact raise s0 rz
  · walk_at "go"
    refine ⟨_, rfl, .inr ⟨l, rfl, ll, fun H1 s1 => ?_⟩⟩
    rw [decide_eq_false nb]
    walk_at "go"
    exact raise (s0.trans s1) rz
  walk_at "go"
  refine ⟨_, rfl, .inr ⟨l, rfl, h5, fun H1 s1 => ?_⟩⟩
  rw [decide_eq_true (show (∀ c ∈ l, c ∈ LET) ∧ l.Nodup from ⟨h3, h4⟩)]
  walk_at "go"
  refine ⟨l, rfl, fun H2 s2 => ?_⟩
  walk_at "go"
  have s12 := s1.trans s2
  refine v_sfld (s12 _ _ hx) T.Plan.cl T.nK (by decide) fun H3 s3 e3 => ?_
  have z3 : Same H0 H3 := fun b u hb => s3 _ _ (s12 _ _ (s0 _ _ hb)) (ne_of_none hb h0)
  walk_at "go"
  refine v_fld e3 T.Plan.cl T.nK (by rw [lookup_putF, if_pos rfl]) ?_
  walk_at "go"
  refine ⟨ascOf l, p, xs, ps, o, rfl, hp.same z3, up.asc z3 h3, fun c hc => (ascOf_mem.mp hc).1, fun u hu => (r1 u hu).same z3, fun ho t H4 ht s4 e4 => ?_⟩
  walk_at "go"
  refine v_sfld (s4 _ _ e3) T.Plan.cl T.nP (by show 1 < 1000; decide) fun H5 s5 e5 => ?_
  have nt : t ≠ x := fun z => by rw [z, e3] at ht; cases ht
  have e5t := s5 _ _ e4 nt
  have z5 : Same H0 H5 := fun b u hb => s5 _ _ (s4 _ _ (z3 _ _ hb)) (ne_of_none hb h0)
  walk_at "go"
  refine v_fld e5 T.Plan.cl T.nK (by rw [lookup_putF, if_neg nkp, lookup_putF, if_pos rfl]) ?_
  walk_at "go"
  refine ⟨ascOf l, rfl, by rw [asc_len h3 h4]; omega, fun l8 => ?_, fun l8 => (r2 ho (by rw [asc_len h3 h4] at l8; exact l8)).same z5⟩
  rw [asc_len h3 h4] at l8
  walk_at "go"
  refine v_fld e5 T.Plan.cl T.nK (by rw [lookup_putF, if_neg nkp, lookup_putF, if_pos rfl]) ?_
  walk_at "go"
  refine v_fld e5 T.Plan.cl T.nP (by rw [lookup_putF, if_pos rfl]) ?_
  walk_at "go"
  refine ⟨ascOf l, t, _, rfl, e5t, by have := ascOf_len l; omega, ascOf_nodup l, fun d H6 hd s6 e6 => ?_⟩
  walk_at "go"
  refine v_sfld (s6 _ _ e5) T.Plan.cl T.nO (by show 2 < 1000; decide) fun H7 s7 e7 => ?_
  have ndx : d ≠ x := fun z => by rw [z, e5] at hd; cases hd
  refine k ho l8 H7 (fun b u hb => s7 _ _ (s6 _ _ (z5 _ _ hb)) (ne_of_none hb h0)) ⟨dx, t, d, e7, s7 _ _ (s6 _ _ e5t) nt, s7 _ _ e6 ndx⟩ fun b u hb => ⟨dx, _, t, d, e7, ?_, ?_⟩
  · exact ne_of_none (z3 _ _ hb) ht
  · exact ne_of_none (z5 _ _ hb) hd
end
end
section
open PySem PySem.Spec L2
theorem StAt.okX {P : Program} {w : World} {K : PySem.W.Frag} {mg : Str → Option Value} {base : Heap} {k : Nat} {C : Addr} {f qual : Str} {ps N : List Str} {sp : Sp} {st : Stmt} (F : StAt K C f qual st) (S : FnScope N ps (defScope st))
    (hb : ∀ (kV doc pm : Value) (an : Option Addr) (cdv ct : Value) (us : List Value), us.length = ps.length → bindArgs (PySem.W.fnOf f qual (defArgs st) (defBody st) (defScope st) .none kV doc pm an cdv ct) ⟨us, []⟩ = pure (ps.zip us))
    (len : ∀ vs H Q E, sp vs H Q E → vs.length = ps.length)
    (hbody : ∀ (f : Addr) (cdv : Value) (A : Around) (outer : List Env) (s : Shared) (H : Hp) (vs : List V) (Q : VK) (E : XK), Room k (A.deeper (PyProof.Rows.envOfC qual (defScope st) s.heap.objs.size f cdv)) → sp vs H Q E →
      ∃ t, PSs (cxOf (L2.CX P w) P w K mg base N qual (defScope st) f cdv A outer s H E) (defBody st) t ∧ t { nx := fun _ H' => Q .non H', rt := Q } (start N vs) H) : StDef P w K mg base (L2.CX P w) (k + 1) C f sp := by
  obtain ⟨mc, p, g, rest, fd, a, b, c, G⟩ := F.ex
  exact ⟨mc, p, g, rest, fd, ps, a, b, c, G.kp, G.binds hb, G.okX S len fun cdv A outer s H vs Q E hr h => hbody g cdv A outer s H vs Q E hr h⟩
section
variable {P : Program} {w : World} {K : PySem.W.Frag} {mg : Str → Option Value} {base : Heap} {C IP IK SK TM : Addr}
abbrev stPlan_addE : Stmt := (inClass (top 19) 3)
abbrev NPlan_addE : List Str := ["self", "other"]
theorem scPlan_addE : FnScope NPlan_addE ["self", "other"] (defScope stPlan_addE) := ⟨rfl, rfl, rfl, by decide +kernel, rfl, by decide +kernel, by decide +kernel⟩

theorem ok_Plan_addE (F : MAt K C "__add__" "Plan.__add__" stPlan_addE) (T : TxtP K mg C) (D_same_kind : Def P w K mg base (L2.CX P w) 3 "same_kind" ["one", "other"] (spSameKindE SK)) (C_Plan : CDef P w K mg base (L2.CX P w) 4 "Plan" C (spPlanE K C IP TM)) : MDef P w K mg base (L2.CX P w) 6 C "__add__" ["self", "other"] (spSumE C SK TM) := by
  refine F.okX scPlan_addE (fun _ _ _ _ _ _ us hl => match us, hl with | [_, _], _ => rfl) (fun vs H Q E h => ?_) (fun f cdv A outer s H vs Q E hr h => ?_)
  · obtain ⟨x, y, l, m, ps, qs, rfl, _⟩ := h
    rfl
  obtain ⟨x, y, l, m, ps, qs, rfl, S, h⟩ := h
  have hu := hu_of hr
  have nd := scPlan_addE.nd
  replace D_same_kind := D_same_kind.mono (show 3 ≤ 5 by decide)
  refine ⟨_, (pss_cons (ps_if (pt_not (pt_val (pe_callB (c_isiK (K := K) rfl) (by rfl) T.isinstance (by decide +kernel) (pa_cons (pv 1) (pa_cons (pe_globC T.Plan.at) pa_nil)))))
      (pss_one ps_never)
      pss_nil)
      (pss_cons (ps_expr (pe_cd D_same_kind hr (passes_call (takes_of rfl rfl rfl rfl) (fun _ _ _ _ h => h)) (pa_cons (pe_flK (K := K) rfl (pv 0) rfl) (pa_cons (pe_flK (K := K) rfl (pv 1) rfl) pa_nil))))
      (pss_one (ps_ret (pe_mk C_Plan hr (passes_call (takes_of rfl rfl rfl rfl) (fun _ _ _ _ h => h)) (pa_cons (pe_op op_addS (pe_flK (K := K) rfl (pv 0) rfl) (pe_flK (K := K) rfl (pv 1) rfl)) (pa_cons (pe_op (op_catTK (K := K) rfl) (pe_flK (K := K) rfl (pv 0) rfl) (pe_flK (K := K) rfl (pv 1) rfl)) pa_nil))))))), ?_⟩
  refine s_start [some _, some _] rfl ?_
  obtain ⟨dx, t, d, a1, a2, a3⟩ := S.px.ex
  obtain ⟨dy, t', d', b1, b2, b3⟩ := S.py.ex
  walk_at "go"
  refine v_isiC T.Plan b1 ?_
  walk_at "go"
  refine v_fld a1 T.Plan.cl T.nK planF_k ?_
  walk_at "go"
  refine v_fld b1 T.Plan.cl T.nK planF_k ?_
  walk_at "go"
  rcases h with ⟨c, r, ec, rz⟩ | ⟨dis, rt, k⟩
  · refine ⟨l, m, rfl, fun nh => ?_, fun c' r' e' H' d s' ed => ?_⟩
    · have hc : c ∈ (ascOf l).filter (fun c => decide (c ∈ m)) := by rw [ec]; exact List.mem_cons_self ..
      rw [List.mem_filter] at hc
      exact absurd (of_decide_eq_true hc.2) (nh c hc.1)
    · rw [ec] at e'
      cases e'
      exact rz H' d s' ed
  have lp := S.lp
  have lq := S.lq
  have ll := S.lenl
  have lm := S.lenm
  refine ⟨l, m, rfl, fun _ H1 s1 => ?_, fun c' r' e' H' d s' ed => ?_⟩
  rotate_left
  · have hc : c' ∈ (ascOf l).filter (fun c => decide (c ∈ m)) := by rw [e']; exact List.mem_cons_self ..
    rw [List.mem_filter] at hc
    exact absurd (of_decide_eq_true hc.2) (dis c' (ascOf_mem.mp hc.1).2)
  walk_at "go"
  refine v_fld (s1 _ _ a1) T.Plan.cl T.nK planF_k ?_
  walk_at "go"
  refine v_fld (s1 _ _ b1) T.Plan.cl T.nK planF_k ?_
  refine v_addS (by omega) ?_
  walk_at "go"
  refine v_fld (s1 _ _ a1) T.Plan.cl T.nP planF_p ?_
  walk_at "go"
  refine v_fld (s1 _ _ b1) T.Plan.cl T.nP planF_p ?_
  refine v_catT (s1 _ _ a2) (s1 _ _ b2) (by rw [strsV_len, strsV_len]; omega) fun p H2 s2 e2 => ?_
  rw [← strsV_app] at e2
  have s12 := s1.trans s2
  walk_at "go"
  have pin : PairsIn (l ++ m) (ps ++ qs) := (S.ip.mono fun c hc => List.mem_append_left _ hc).app (S.iq.mono fun c hc => List.mem_append_right _ hc)
  refine ⟨_, p, rfl, .inr ⟨l ++ m, _, ps ++ qs, none, rfl, .inr (.inl e2), uptoB_all pin (by rw [List.length_append]; omega), fun c hc => (List.mem_append.mp hc).elim (S.ltl c) (S.ltm c), List.nodup_append.mpr ⟨S.ndl, S.ndm, fun a ha b hb e => dis a ha (e ▸ hb)⟩, by rw [List.length_append]; omega, (fun u z => nomatch z), fun _ h8 => (rt (by rw [List.length_append] at h8; exact h8)).same s12, fun _ h8 z H3 hz s3 pl _ => ?_⟩⟩
  walk_at "go"
  exact k (by rw [List.length_append] at h8; exact h8) _ H3 (s12.trans s3)
abbrev stPlan_mulE : Stmt := (inClass (top 19) 4)
abbrev NPlan_mulE : List Str := ["self", "other", "between", "a", "b"]
theorem scPlan_mulE : FnScope NPlan_mulE ["self", "other"] (defScope stPlan_mulE) := ⟨rfl, rfl, rfl, by decide +kernel, rfl, by decide +kernel, by decide +kernel⟩

theorem ok_Plan_mulE (F : MAt K C "__mul__" "Plan.__mul__" stPlan_mulE) (T : TxtP K mg C) (D_same_kind : Def P w K mg base (L2.CX P w) 3 "same_kind" ["one", "other"] (spSameKindE SK)) (C_Plan : CDef P w K mg base (L2.CX P w) 4 "Plan" C (spPlanE K C IP TM)) : MDef P w K mg base (L2.CX P w) 6 C "__mul__" ["self", "other"] (spSumE C SK TM) := by
  refine F.okX scPlan_mulE (fun _ _ _ _ _ _ us hl => match us, hl with | [_, _], _ => rfl) (fun vs H Q E h => ?_) (fun f cdv A outer s H vs Q E hr h => ?_)
  · obtain ⟨x, y, l, m, ps, qs, rfl, _⟩ := h
    rfl
  obtain ⟨x, y, l, m, ps, qs, rfl, S, h⟩ := h
  have hu := hu_of hr
  have nd := scPlan_mulE.nd
  replace D_same_kind := D_same_kind.mono (show 3 ≤ 5 by decide)
  refine ⟨_, (pss_cons (ps_if (pt_not (pt_val (pe_callB (c_isiK (K := K) rfl) (by rfl) T.isinstance (by decide +kernel) (pa_cons (pv 1) (pa_cons (pe_globC T.Plan.at) pa_nil)))))
      (pss_one ps_never)
      pss_nil)
      (pss_cons (ps_expr (pe_cd D_same_kind hr (passes_call (takes_of rfl rfl rfl rfl) (fun _ _ _ _ h => h)) (pa_cons (pe_flK (K := K) rfl (pv 0) rfl) (pa_cons (pe_flK (K := K) rfl (pv 1) rfl) pa_nil))))
      (pss_cons (ps_set (i := 2) nd rfl (Or.inl rfl) (pe_callTy (c_tupleK (K := K) rfl) (by rfl) T.tuple (by decide +kernel) (pa_cons (pe_lc2 (own := [("a", 3), ("b", 4)]) (vs1 := [4]) (by rfl) nd (pi_str (pe_flK (K := K) rfl (pv 0) rfl)) (blkOk_by (own := [("a", 3), ("b", 4)]) (N := NPlan_mulE) (sc := defScope stPlan_mulE) (by decide +kernel)) (by decide) (fun _ _ _ _ _ => (pg_name (i := 3) nd rfl (Or.inl rfl))) (fun _ _ _ _ _ => pts_nil) (fun _ _ _ _ _ => (pi_str (pe_flK (K := K) rfl (pv 1) rfl))) (fun _ _ _ _ _ => (pg_name (i := 4) nd rfl (Or.inl rfl))) (fun _ _ _ _ _ => pts_nil) (fun _ _ _ _ _ => (pe_op op_addS (pv 3) (pv 4)))) pa_nil)))
      (pss_one (ps_ret (pe_mk C_Plan hr (passes_call (takes_of rfl rfl rfl rfl) (fun _ _ _ _ h => h)) (pa_cons (pe_op op_addS (pe_flK (K := K) rfl (pv 0) rfl) (pe_flK (K := K) rfl (pv 1) rfl)) (pa_cons (pe_op (op_catTK (K := K) rfl) (pe_op (op_catTK (K := K) rfl) (pe_flK (K := K) rfl (pv 0) rfl) (pe_flK (K := K) rfl (pv 1) rfl)) (pv 2)) pa_nil)))))))), ?_⟩
  refine s_start [some _, some _, none, none, none] rfl ?_
  obtain ⟨dx, t, d, a1, a2, a3⟩ := S.px.ex
  obtain ⟨dy, t', d', b1, b2, b3⟩ := S.py.ex
  walk_at "go"
  refine v_isiC T.Plan b1 ?_
  walk_at "go"
  refine v_fld a1 T.Plan.cl T.nK planF_k ?_
  walk_at "go"
  refine v_fld b1 T.Plan.cl T.nK planF_k ?_
  walk_at "go"
  rcases h with ⟨c, r, ec, rz⟩ | ⟨dis, rt, k⟩
  · refine ⟨l, m, rfl, fun nh => ?_, fun c' r' e' H' d s' ed => ?_⟩
    · have hc : c ∈ (ascOf l).filter (fun c => decide (c ∈ m)) := by rw [ec]; exact List.mem_cons_self ..
      rw [List.mem_filter] at hc
      exact absurd (of_decide_eq_true hc.2) (nh c hc.1)
    · rw [ec] at e'
      cases e'
      exact rz H' d s' ed
  have lp := S.lp
  have lq := S.lq
  have ll := S.lenl
  have lm := S.lenm
  refine ⟨l, m, rfl, fun _ H1 s1 => ?_, fun c' r' e' H' d s' ed => ?_⟩
  rotate_left
  · have hc : c' ∈ (ascOf l).filter (fun c => decide (c ∈ m)) := by rw [e']; exact List.mem_cons_self ..
    rw [List.mem_filter] at hc
    exact absurd (of_decide_eq_true hc.2) (dis c' (ascOf_mem.mp hc.1).2)
  walk_at "go"
  refine lc2_outer (la := l) (fun R r => ?_) ?_
  · walk_at "go"
    exact v_fld (s1 _ _ a1) T.Plan.cl T.nK planF_k r
  refine v_lc2S (la := l) (lb := m) (b := fun _ _ => true) (f := fun a b => V.str (tx [a, b])) (by omega) ?_ (fun c _ H2 s2 R r => ?_) (fun c d _ _ H2 s2 R r => ?_) (fun c d _ _ _ H2 s2 R r => ?_) (fun D H2 hD s2 e2 => ?_)
  · exact Nat.lt_of_le_of_lt (Nat.mul_le_mul ll lm) (by decide)
  · walk_at "go"
    exact v_fld (s2 _ _ (s1 _ _ b1)) T.Plan.cl T.nK planF_k r
  · walk_at "go"
    exact r H2 (Same.refl _)
  · walk_at "go"
    exact r H2 (Same.refl _)
  have e2 : H2 D = some (.lst (strsV (l.flatMap fun a => m.map fun b => [a, b]))) := by
    rw [e2]
    unfold strsV
    rw [List.map_flatMap]
    congr 2
    refine flatMap_congr' fun c _ => ?_
    rw [filter_yes, List.map_map]
    rfl
  have lc : (l.flatMap fun a => m.map fun b => [a, b]).length ≤ 64 := by
    have key : ∀ l' : List Nat, (l'.flatMap fun a => m.map fun b => [a, b]).length = l'.length * m.length := by
      intro l'
      induction l' with
      | nil => simp
      | cons a r ih => rw [List.flatMap_cons, List.length_append, List.length_map, ih, List.length_cons, Nat.succ_mul, Nat.add_comm]
    rw [key]
    exact Nat.mul_le_mul ll lm
  have inB : PairsIn (l ++ m) (l.flatMap fun a => m.map fun b => [a, b]) := fun q hq => by
    obtain ⟨a, ha, h⟩ := List.mem_flatMap.mp hq
    obtain ⟨b, hb, rfl⟩ := List.mem_map.mp h
    exact ⟨a, b, rfl, fun e => dis a ha (e ▸ hb), List.mem_append_left _ ha, List.mem_append_right _ hb⟩
  generalize (l.flatMap fun a => m.map fun b => [a, b]) = B at *
  walk_at "go"
  refine v_tuple e2 fun p3 H3 hp3 s3 e3 => ?_
  have s13 := (s1.trans s2).trans s3
  walk_at "go"
  refine v_fld (s13 _ _ a1) T.Plan.cl T.nK planF_k ?_
  walk_at "go"
  refine v_fld (s13 _ _ b1) T.Plan.cl T.nK planF_k ?_
  refine v_addS (by omega) ?_
  walk_at "go"
  refine v_fld (s13 _ _ a1) T.Plan.cl T.nP planF_p ?_
  walk_at "go"
  refine v_fld (s13 _ _ b1) T.Plan.cl T.nP planF_p ?_
  refine v_catT (s13 _ _ a2) (s13 _ _ b2) (by rw [strsV_len, strsV_len]; omega) fun p4 H4 s4 e4 => ?_
  rw [← strsV_app] at e4
  walk_at "go"
  refine v_catT e4 (s4 _ _ e3) (by rw [strsV_len, strsV_len, List.length_append]; omega) fun p5 H5 s5 e5 => ?_
  rw [← strsV_app] at e5
  have s15 := (s13.trans s4).trans s5
  walk_at "go"
  have pin : PairsIn (l ++ m) (ps ++ qs ++ B) := ((S.ip.mono fun c hc => List.mem_append_left _ hc).app (S.iq.mono fun c hc => List.mem_append_right _ hc)).app inB
  refine ⟨_, p5, rfl, .inr ⟨l ++ m, _, ps ++ qs ++ B, none, rfl, .inr (.inl e5), uptoB_all pin (by rw [List.length_append, List.length_append]; omega), fun c hc => (List.mem_append.mp hc).elim (S.ltl c) (S.ltm c), List.nodup_append.mpr ⟨S.ndl, S.ndm, fun a ha b hb e => dis a ha (e ▸ hb)⟩, by rw [List.length_append]; omega, (fun u z => nomatch z), fun _ h8 => (rt (by rw [List.length_append] at h8; exact h8)).same s15, fun _ h8 z H3 hz s3 pl _ => ?_⟩⟩
  walk_at "go"
  exact k (by rw [List.length_append] at h8; exact h8) _ H3 (s15.trans s3)
abbrev stPlan_crossesE : Stmt := (inClass (top 19) 6)
abbrev NPlan_crossesE : List Str := ["self", "a", "b", "partners"]
theorem scPlan_crossesE : FnScope NPlan_crossesE ["self", "a", "b"] (defScope stPlan_crossesE) := ⟨rfl, rfl, rfl, by decide +kernel, rfl, by decide +kernel, by decide +kernel⟩

theorem ok_Plan_crossesE (F : MAt K C "crosses" "Plan.crosses" stPlan_crossesE) (T : TxtP K mg C) (D_need_kind : Def P w K mg base (L2.CX P w) 3 "need_kind" ["plan", "value"] (spNeedKindE K C IK)) : MDef P w K mg base (L2.CX P w) 4 C "crosses" ["self", "a", "b"] (spCrossesE K C IK) := by
  refine F.okX scPlan_crossesE (fun _ _ _ _ _ _ us hl => match us, hl with | [_, _, _], _ => rfl) (fun vs H Q E h => ?_) (fun f cdv A outer s H vs Q E hr h => ?_)
  · obtain ⟨x, ks, ps, a, b, rfl, _⟩ := h
    rfl
  obtain ⟨x, ks, ps, a, b, rfl, pl, h⟩ := h
  have hu := hu_of hr
  have nd := scPlan_crossesE.nd
  refine ⟨_, (pss_cons (ps_set (i := 3) nd rfl (Or.inl rfl) (pe_dget hu (pe_flK (K := K) rfl (pv 0) rfl) (pe_cd D_need_kind hr (passes_call (takes_of rfl rfl rfl rfl) (fun _ _ _ _ h => h)) (pa_cons (pv 0) (pa_cons (pv 1) pa_nil))) (fun _ _ => rfl)))
      (pss_one (ps_ret (pe_cmpR op_inS (pe_cd D_need_kind hr (passes_call (takes_of rfl rfl rfl rfl) (fun _ _ _ _ h => h)) (pa_cons (pv 0) (pa_cons (pv 2) pa_nil))) (pv 3) (by rfl))))), ?_⟩
  refine s_start [some _, some _, some _, none] rfl ?_
  obtain ⟨dx, t, d, a1, a2, a3⟩ := pl.ex
  walk_at "go"
  refine v_fld a1 T.Plan.cl T.nO planF_o ?_
  walk_at "go"
  rcases h with ⟨nk, rz⟩ | ⟨k, hk, rfl, nk, rz⟩
  · exact ⟨x, ks, ps, a, rfl, pl, .inr ⟨nk, rz⟩⟩
  · refine ⟨x, ks, ps, _, rfl, pl, .inl ⟨k, hk, rfl, ?_⟩⟩
    refine v_dget (dget_let (g := fun k => V.str (tx (crossOf ks ps k))) a3 hk) ?_
    walk_at "go"
    exact ⟨x, ks, ps, b, rfl, pl, .inr ⟨nk, rz⟩⟩
abbrev stPlan_ringE : Stmt := (inClass (top 19) 1)
abbrev NPlan_ringE : List Str := ["kinds", "at"]
theorem scPlan_ringE : FnScope NPlan_ringE ["kinds"] (defScope stPlan_ringE) := ⟨rfl, rfl, rfl, by decide +kernel, rfl, by decide +kernel, by decide +kernel⟩

theorem ok_Plan_ringE (F : StAt K C "ring" "Plan.ring" stPlan_ringE) (T : TxtG K mg C) (D_are_letters : Def P w K mg base CX0 1 "are_letters" ["value"] (spAreLettersE K)) (C_Plan : CDef P w K mg base (L2.CX P w) 4 "Plan" C (spPlanE K C IP TM)) (X_InvalidPlan : XDef P w K mg base 1 "InvalidPlan" IP 1 (fun ws => [("value", ws.getD 0 .non)])) : StDef P w K mg base (L2.CX P w) 6 C "ring" (spRingE K IP TM) := by
  refine F.okX scPlan_ringE (fun _ _ _ _ _ _ us hl => match us, hl with | [_], _ => rfl) (fun vs H Q E h => ?_) (fun f cdv A outer s H vs Q E hr h => ?_)
  · obtain ⟨v, rfl, _⟩ := h
    rfl
  obtain ⟨v, rfl, h⟩ := h
  have hu := hu_of hr
  have nd := scPlan_ringE.nd
  replace D_are_letters := D_are_letters.mono (show 1 ≤ 5 by decide)
  replace X_InvalidPlan := X_InvalidPlan.mono (show 1 ≤ 4 by decide)
  refine ⟨_, (pss_cons (ps_if (PW.pt (pw_or (pt_not (pt_val (pe_cd D_are_letters hr pass0 (pa_cons (pv 0) pa_nil)))) (pw_or1 (pt_cmpR op_lt (pe_callB c_lenS (by rfl) T.len PySem.boot_len (pa_cons (pv 0) pa_nil)) pe_int (nomark _)))))
      (pss_one (ps_raise rfl (takes_of rfl rfl rfl rfl) (pmk_E X_InvalidPlan hr (pa_cons (pv 0) pa_nil))))
      pss_nil)
      (pss_one (ps_ret (pe_mk C_Plan hr (passes_call (takes_of rfl rfl rfl rfl) (fun _ _ _ _ h => h)) (pa_cons (pv 0) (pa_cons (pe_lc (own := [("at", 1)]) (g := gName 1) (by rfl) nd (pi_range1 (by rfl) T.range (pa_cons (pe_callB c_lenS (by rfl) T.len PySem.boot_len (pa_cons (pv 0) pa_nil)) pa_nil)) (blkOk_by (own := [("at", 1)]) (N := NPlan_ringE) (sc := defScope stPlan_ringE) (by decide +kernel)) (fun _ _ _ _ _ => (pg_name (i := 1) nd rfl (Or.inl rfl))) (fun _ _ _ _ _ => pts_nil) (fun _ _ _ _ _ => (pe_op op_addS (pe_ix ix_str (pv 0) (pe_op op_sub (pv 1) pe_int) (fun _ _ => rfl)) (pe_ix ix_str (pv 0) (pv 1) (fun _ _ => rfl))))) pa_nil)))))), ?_⟩
  refine s_start [some _, none] rfl ?_
  have raise : ∀ {H5 : Hp} {pv : V}, Same H H5 → Rz E H IP "value" v → tMkO IP (spE IP 1 fun ws => [("value", ws.getD 0 V.non)]) [] (tCons (tVar 0) tNil) [some v, none] H5 fun cls d H' => E cls d H' := fun {H5 pv} s5 rz => by
    refine e_mkE ?_
    walk_at "go"
    refine v_mkE (n := 1) (ws := [v]) rfl (by decide) fun d hd => ?_
    exact rz _ d (s5.trans (Same.new hd)) upd_same
  rcases h with ⟨(nt | ⟨l, rfl, ll, nb⟩) | ⟨l, rfl, l4⟩, rz⟩ | ⟨l, rfl, h1, h2, l8, l9, rz⟩
  · walk_at "go"
    refine ⟨_, rfl, .inl ⟨nt.now, ?_⟩⟩
    walk_at "go"
    exact raise (pv := .non) (Same.refl _) rz
  · walk_at "go"
    refine ⟨_, rfl, .inr ⟨l, rfl, ll, fun H1 s1 => ?_⟩⟩
    rw [decide_eq_false nb]
    walk_at "go"
    exact raise (pv := .non) s1 rz
  · have ll : l.length ≤ 1000000 := by omega
    walk_at "go"
    refine ⟨_, rfl, .inr ⟨l, rfl, by omega, fun H1 s1 => ?_⟩⟩
    walk_at "go"
    refine if_bool (fun _ => ?_) (fun _ => ?_)
    · exact raise (pv := .non) s1 rz
    · walk_at "go"
      refine if_dec (fun _ => ?_) (fun e => absurd (show ((l.length : Int) < 4) by omega) e)
      exact raise (pv := .non) s1 rz
  walk_at "go"
  refine ⟨_, rfl, .inr ⟨l, rfl, by omega, fun H1 s1 => ?_⟩⟩
  rw [decide_eq_true (show (∀ c ∈ l, c ∈ LET) ∧ l.Nodup from ⟨h1, h2⟩)]
  have l10 : l.length ≤ 1000000 := by omega
  walk_at "go"
  refine if_dec (fun e => absurd e (by omega)) (fun _ => ?_)
  walk_at "go"
  refine lc_gen (n := l.length) (b := fun _ => true) (it := fun k => .int ((k : Nat) : Int)) (f := fun k => V.str (tx [l.getD (if k = 0 then l.length - 1 else k - 1) 0, l.getD k 0])) (walk_rI (fun k => ((k : Nat) : Int)) (fun k => Int.zero_add _)) (fun _ _ => trivial) (by omega) (fun k hk H2 s2 R r => ?_) (fun k hk _ H2 s2 R r => ?_) (fun D H2 hD s2 e2 => ?_)
  · walk_at "go"
    exact r H2 (Same.refl _)
  · walk_at "go"
    have hg : l[k]? = some (l.getD k 0) := by
      rw [List.getD_eq_getElem?_getD, List.getElem?_eq_getElem hk]
      rfl
    refine v_ixS (by omega) (at_prev hk) ?_
    walk_at "go"
    refine v_ixS (by omega) (atI_nat (j := k) hg) ?_
    walk_at "go"
    exact r H2 (Same.refl _)
  have e2 : H2 D = some (.lst (strsV (ringP l))) := by
    rw [e2, filter_yes]
    unfold strsV ringP
    rw [List.map_map]
    rfl
  walk_at "go"
  have lr : (ringP l).length = l.length := by unfold ringP; rw [List.length_map, List.length_range]
  have pin : PairsIn l (ringP l) := fun q hq => by
    obtain ⟨k, hk, rfl⟩ := List.mem_map.mp hq
    have hk := List.mem_range.mp hk
    have hm : (if k = 0 then l.length - 1 else k - 1) < l.length := by split <;> omega
    refine ⟨_, _, rfl, fun e => ?_, getD_mem hm, getD_mem hk⟩
    rw [List.getD_eq_getElem?_getD, List.getD_eq_getElem?_getD, List.getElem?_eq_getElem hm, List.getElem?_eq_getElem hk] at e
    have := (List.getElem_inj h2).mp (show l[if k = 0 then l.length - 1 else k - 1] = l[k] from e)
    split at this <;> omega
  exact ⟨_, D, rfl, .inr ⟨l, _, ringP l, none, rfl, .inl e2, uptoB_all pin (by omega), h1, h2, by omega, (fun u z => nomatch z), fun _ _ => rz.same (s1.trans s2), fun _ h8 => absurd h8 (by omega)⟩⟩
end
end
section
open PySem PySem.Spec L2
/-- what the top has left of the four errors -/
structure Txt02 (P : Program) (K : PySem.W.Frag) (mg : Str → Option Value) (C IP SK TM IK G : Addr) (st1 st2 st3 st4 : Stmt) : Prop extends TxtP K mg C where
  eP : ExcE P K mg "InvalidPlan" IP "InvalidPlan.__init__" st1
  eS : ExcE P K mg "SameKind" SK "SameKind.__init__" st2
  eM : ExcE P K mg "TooMany" TM "TooMany.__init__" st3
  eK : ExcE P K mg "InvalidKind" IK "InvalidKind.__init__" st4
  IP_value : PySem.W.findIn K (.ref IP) "value" = some none
  SK_kind : PySem.W.findIn K (.ref SK) "kind" = some none
  TM_most : PySem.W.findIn K (.ref TM) "most" = some none
  IK_value : PySem.W.findIn K (.ref IK) "value" = some none
  FloorError : mg "FloorError" = some (.ref G)
  pp : PySem.W.exmOne K (.ref IP) (.ref IP) = some true
  sp : PySem.W.exmOne K (.ref SK) (.ref IP) = some false
  ss : PySem.W.exmOne K (.ref SK) (.ref SK) = some true
  mp : PySem.W.exmOne K (.ref TM) (.ref IP) = some false
  ms : PySem.W.exmOne K (.ref TM) (.ref SK) = some false
  mm : PySem.W.exmOne K (.ref TM) (.ref TM) = some true
  kp : PySem.W.exmOne K (.ref IK) (.ref IP) = some false
  ks : PySem.W.exmOne K (.ref IK) (.ref SK) = some false
  km : PySem.W.exmOne K (.ref IK) (.ref TM) = some false
  kk : PySem.W.exmOne K (.ref IK) (.ref IK) = some true
/-- the four errors: their class, their field, their mark -/
def Kind02 (IP SK TM IK : Addr) (X : Addr) (f : Str) (m : List Nat) : Prop := (X = IP ∧ f = "value" ∧ m = [112, 108, 97, 110]) ∨ (X = SK ∧ f = "kind" ∧ m = [115, 97, 109, 101]) ∨ (X = TM ∧ f = "most" ∧ m = [109, 97, 110, 121]) ∨ (X = IK ∧ f = "value" ∧ m = [107, 105, 110, 100])
/-- what is told of an error -/
def toldOf02 (IP SK TM IK : Addr) (Q : VK) (cls : Value) (d : Option Addr) (H : Hp) : Prop := ∃ (dd X : Addr) (f : Str) (m : List Nat) (v : V), d = some dd ∧ cls = .ref X ∧ Kind02 IP SK TM IK X f m ∧ H dd = some (.xd [(f, v)]) ∧ ∀ t H', Same H H' → H' t = some (.tup [.str (tx m), v]) → Q (.ref t) H'
def TT02 (IP SK TM IK : Addr) : (XK → Hp → VK → Prop) → Hp → VK → Prop := fun tl H Q => tl (toldOf02 IP SK TM IK Q) H fun _ H' => Q .non H'
theorem rz_told {IP SK TM IK X : Addr} {f : Str} {m : List Nat} {v : V} {H : Hp} {Q : VK} (k : Kind02 IP SK TM IK X f m) (q : ∀ t H', Same H H' → H' t = some (.tup [.str (tx m), v]) → Q (.ref t) H') : Rz (toldOf02 IP SK TM IK Q) H X f v := fun H' d s e => ⟨d, X, f, m, v, rfl, rfl, k, e, fun t H2 s2 e2 => q t H2 (s.trans s2) e2⟩
theorem two_of {α : Type} {l : List α} (h : l.length = 2) : ∃ a b, l = [a, b] := by
  match l, h with
  | [a, b], _ => exact ⟨a, b, rfl⟩
theorem e_xf2 {σ : L2.St} {H : Hp} {Q : VK} {a C : Addr} {cls : Value} {d : Option Addr} {f : Str} {te : TE} (q : te σ H fun x H1 => x = .ref a ∧ cls = .ref C ∧ ∃ (dd : Addr) (fs : List (Str × V)) (v : V), d = some dd ∧ H1 dd = some (.xd fs) ∧ fs.lookup f = some v ∧ Q v H1) : tXf a cls d C f te σ H Q := q
section
variable {X : Cx} {C IP SK TM IK G : Addr} {st1 st2 st3 st4 : Stmt}
abbrev sttold : Stmt := (top 27)
abbrev Ntold : List Str := ["_law_ask", "e"]
theorem sctold : FnScope Ntold ["_law_ask"] (defScope sttold) := ⟨rfl, rfl, rfl, by decide +kernel, rfl, by decide +kernel, by decide +kernel⟩

theorem told_gives02 (T : Txt02 X.prog X.K X.mg C IP SK TM IK G st1 st2 st3 st4) {g : Addr} {cdg : Value} {q : Str} {k : Nat} (hk : 2 ≤ k) (hr : ∀ s : Shared, Room k (X.A.deeper (PyProof.Rows.envOfC "_law_told" (defScope sttold) s.heap.objs.size g cdg))) :
    LamX.GivesTo X Ntold "_law_told" (defScope sttold) g cdg (defBody sttold) "_law_ask" q (TT02 IP SK TM IK) := by
  intro f c' s H Q tl act hc h
  have nd := sctold.nd
  refine ⟨_, pss_cons (ps_try_manyA (X := (cxOf CX0 X.prog X.w X.K X.mg X.base Ntold "_law_told" (defScope sttold) g cdg X.A X.stack s H E0).nox) (n := "e") (i := 1)
      (tb := fun W D σ H => ∃ Ech : XK, (∀ cls d σ' H', Ech cls d H' → W cls d σ' H') ∧ σ[0]? = some (some (.ref f)) ∧ H c' = some (LamX.CodeO c' q) ∧ tl Ech H (fun v H' => D.nx σ H'))
      rfl rfl nd rfl rfl LamX.takes0 (fun W pn xe tk _ => ?_)
      (.cons (c := .ref IP) ⟨rfl, by decide, .inl T.eP.at⟩ (fun a oe cls d pn hz hf => pss_given (q := cls = .ref IP) fun hq => pss_one (ps_ret (pe_tup (pa_cons (pe_tx [112, 108, 97, 110] (by decide +kernel)) (pa_cons (pe_xf T.eP.xf T.IP_value hz hf (pv 1)) pa_nil)))))
      (.cons (c := .ref SK) ⟨rfl, by decide, .inl T.eS.at⟩ (fun a oe cls d pn hz hf => pss_given (q := cls = .ref SK) fun hq => pss_one (ps_ret (pe_tup (pa_cons (pe_tx [115, 97, 109, 101] (by decide +kernel)) (pa_cons (pe_xf T.eS.xf T.SK_kind hz hf (pv 1)) pa_nil)))))
      (.cons (c := .ref TM) ⟨rfl, by decide, .inl T.eM.at⟩ (fun a oe cls d pn hz hf => pss_given (q := cls = .ref TM) fun hq => pss_one (ps_ret (pe_tup (pa_cons (pe_tx [109, 97, 110, 121] (by decide +kernel)) (pa_cons (pe_xf T.eM.xf T.TM_most hz hf (pv 1)) pa_nil)))))
      (.cons (c := .ref IK) ⟨rfl, by decide, .inl T.eK.at⟩ (fun a oe cls d pn hz hf => pss_given (q := cls = .ref IK) fun hq => pss_one (ps_ret (pe_tup (pa_cons (pe_tx [107, 105, 110, 100] (by decide +kernel)) (pa_cons (pe_xf T.eK.xf T.IK_value hz hf (pv 1)) pa_nil)))))
      (.cons (c := .ref G) ⟨rfl, by decide, .inl T.FloorError⟩ (fun a oe cls d pn hz hf => pss_one (ps_ret (pe_tup (pa_cons (pe_tx [111, 116, 104, 101, 114] (by decide +kernel)) (pa_cons pe_int pa_nil)))))
      .nil)))))) (pss_one (ps_ret pe_non)), ?_⟩
  · refine ⟨fun pins s' σ H' D I h' => ?_⟩
    obtain ⟨Ech, hW, h1, h2, h3⟩ := h'
    exact (pss_one (ps_expr (act W pn xe Ech _ _ tk hW))).run pins s' σ H' D I ⟨h1, h2, h3⟩
  · refine ⟨toldOf02 IP SK TM IK Q, fun cls d σ' H' ht => ?_, rfl, hc, ?_⟩
    · obtain ⟨dd, X', f', m, v, rfl, rfl, kd, ed, k1⟩ := ht
      rcases kd with ⟨rfl, rfl, rfl⟩ | ⟨rfl, rfl, rfl⟩ | ⟨rfl, rfl, rfl⟩ | ⟨rfl, rfl, rfl⟩
      · refine ⟨true, T.pp, fun _ a ha hl => ⟨rfl, ?_⟩, fun z => nomatch z⟩
        obtain ⟨y0, y1, rfl⟩ := two_of hl
        walk_at "go"
        refine e_xf2 ?_
        walk_at "go"
        refine ⟨rfl, rfl, dd, _, v, rfl, ed, rfl, ?_⟩
        walk_at "go"
        intro t H2 ht s2 e2
        exact k1 t H2 s2 e2
      · refine ⟨false, T.sp, (fun z => nomatch z), fun _ => ⟨true, T.ss, fun _ a ha hl => ⟨rfl, ?_⟩, fun z => nomatch z⟩⟩
        obtain ⟨y0, y1, rfl⟩ := two_of hl
        walk_at "go"
        refine e_xf2 ?_
        walk_at "go"
        refine ⟨rfl, rfl, dd, _, v, rfl, ed, rfl, ?_⟩
        walk_at "go"
        intro t H2 ht s2 e2
        exact k1 t H2 s2 e2
      · refine ⟨false, T.mp, (fun z => nomatch z), fun _ => ⟨false, T.ms, (fun z => nomatch z), fun _ => ⟨true, T.mm, fun _ a ha hl => ⟨rfl, ?_⟩, fun z => nomatch z⟩⟩⟩
        obtain ⟨y0, y1, rfl⟩ := two_of hl
        walk_at "go"
        refine e_xf2 ?_
        walk_at "go"
        refine ⟨rfl, rfl, dd, _, v, rfl, ed, rfl, ?_⟩
        walk_at "go"
        intro t H2 ht s2 e2
        exact k1 t H2 s2 e2
      · refine ⟨false, T.kp, (fun z => nomatch z), fun _ => ⟨false, T.ks, (fun z => nomatch z), fun _ => ⟨false, T.km, (fun z => nomatch z), fun _ => ⟨true, T.kk, fun _ a ha hl => ⟨rfl, ?_⟩, fun z => nomatch z⟩⟩⟩⟩
        obtain ⟨y0, y1, rfl⟩ := two_of hl
        walk_at "go"
        refine e_xf2 ?_
        walk_at "go"
        refine ⟨rfl, rfl, dd, _, v, rfl, ed, rfl, ?_⟩
        walk_at "go"
        intro t H2 ht s2 e2
        exact k1 t H2 s2 e2
    · exact h
/-- _law_told(lambda: body) -/
theorem pe_told02 (F : FnAt X.K X.mg "_law_told" sttold) (T : Txt02 X.prog X.K X.mg C IP SK TM IK G st1 st2 st3 st4) {Ts : List (Addr × Str)} {c Pt : Addr} {k : Nat} {t : XK → TE} {params : Arguments} {body : Expr} {scope : Scope} {p lpos pos : PySem.Pos}
    (TB : LamX.TabB X.base X.mg c Pt) (hmT : (Pt, X.env.qual ++ "<lambda>") ∈ Ts) (hu : ∀ p ∈ Ts, p.1 = Pt → p.2 = X.env.qual ++ "<lambda>") (hr : Room (k + 2) X.A) (hk : 2 ≤ k) (L : LamX.LamS X.env.scope scope)
    (hbody : ∀ (A : Around) (outer : List Env) (s : Shared) (H : Hp) (E : XK) (f c' : Addr), Room k (A.deeper (LamX.lamEnv X scope s.heap.objs.size f c')) → PE (LamX.lamCx X A outer s H E scope f c') body (t E))
    (hg : Gl X "_law_told" := by rfl) (hcode : X.env.code = .ref c := by rfl) (hdef : defaultsOf params X.env = ([], []) := by rfl)
    (hbind : ∀ (q : Str) (cl : List (Str × Addr)) (pm cv ctv : Value), bindArgs (PySem.W.kla_fn "<lambda>" q params body scope cl pm cv ctv) ⟨[], []⟩ = pure [] := by intro _ _ _ _ _; rfl) :
    PE X (.Call (.Name "_law_told" p) [.Lambda params body scope lpos] [] pos) (LamX.tLam Ts (TT02 IP SK TM IK) t) := by
  obtain ⟨g, fd, hm, G⟩ := F.ex
  have hb : Binds X.K fd ["_law_ask"] [] := G.binds fun _ _ _ _ _ _ us hl => match us, hl with | [_], _ => rfl
  obtain ⟨oc, od, kV, doc, pm, an, cdv, ct, osl, rfl, lk, hcd⟩ := G.ex
  exact LamX.pe_lamcall hg hm G.kp lk hcd hb sctold rfl (Or.inl rfl) (told_gives02 T (k := k + 1) (by omega) fun s => hr.deeper _) TB hcode hmT hu hr L hdef hbind hbody
end
end
section
open PySem PySem.Spec L2
def spLPlan : Sp := fun vs H Q _ => ∃ (g : Pen) (n : Nat), vs = [.ref g.p, .int 8] ∧ PenAt g H n ∧ n < 950000 ∧
  ∀ (q0 q : Addr) (ls : List Nat) (ps : List (List Nat)) (H' : Hp), H q = none → LPlan ls ps → H' q0 = some (.tup [.str (tx ls), .ref q]) → H' q = some (.lst (strsG ps)) → PenAt g H' (n + 100) → Keep g.p H H' → Q (.ref q0) H'
theorem plan_letters {l : List Nat} (h : goodL l = true) {m : Nat} (hm : m ≤ 8) : (l.take m).length = m ∧ (l.take m).Pairwise (· < ·) ∧ (∀ c ∈ l.take m, c ∈ LET) ∧ ∀ c ∈ l.take m, c ≠ 122 := by
  unfold goodL at h
  rw [Bool.and_eq_true, Bool.and_eq_true, Bool.and_eq_true, decide_eq_true_iff, decide_eq_true_iff, decide_eq_true_iff, List.all_eq_true] at h
  obtain ⟨⟨⟨h1, h2⟩, h3⟩, h4⟩ := h
  have e : l.take m = (l.take 8).take m := by rw [List.take_take, Nat.min_eq_left hm]
  have s : ∀ c ∈ l.take m, c ∈ LET ∧ c ≠ 122 := fun c hc => of_decide_eq_true (h4 c (by rw [e] at hc; exact List.mem_of_mem_take hc))
  exact ⟨by rw [List.length_take]; omega, by rw [e]; exact h3.sublist (List.take_sublist _ _), fun c hc => (s c hc).1, fun c hc => (s c hc).2⟩
theorem strsG_len (ws : List (List Nat)) : (strsG ws).length = ws.length := by unfold strsG; rw [List.length_map]
theorem strsG_app (ps qs : List (List Nat)) : strsG (ps ++ qs) = strsG ps ++ strsG qs := by unfold strsG; rw [List.map_append]
/-- the pairs told so far -/
structure UpP (ls : List Nat) (ps : List (List Nat)) (i j : Nat) : Prop where
  srt : ps.Pairwise pairLt
  mem : ∀ p ∈ ps, ∃ a b, a < b ∧ b < ls.length ∧ p = [ls.getD a 0, ls.getD b 0] ∧ (a < i ∨ (a = i ∧ b < j))
  len : ps.length ≤ 8 * i + j
theorem asc_at {ls : List Nat} (h : ls.Pairwise (· < ·)) {a b : Nat} (l : a < b) (hb : b < ls.length) : ls.getD a 0 < ls.getD b 0 := by
  rw [List.getD_eq_getElem?_getD, List.getD_eq_getElem?_getD, List.getElem?_eq_getElem hb, List.getElem?_eq_getElem (show a < ls.length by omega)]
  exact List.pairwise_iff_getElem.mp h a b (by omega) hb l
theorem UpP.more {ls : List Nat} {ps : List (List Nat)} {i j j' : Nat} (h : UpP ls ps i j) (l : j ≤ j') : UpP ls ps i j' := ⟨h.srt, fun p hp => by
  obtain ⟨a, b, h1, h2, h3, h4⟩ := h.mem p hp
  exact ⟨a, b, h1, h2, h3, by omega⟩, by have := h.len; omega⟩
theorem UpP.next {ls : List Nat} {ps : List (List Nat)} {i j : Nat} (h : UpP ls ps i j) (l : j ≤ 8) : UpP ls ps (i + 1) 0 := ⟨h.srt, fun p hp => by
  obtain ⟨a, b, h1, h2, h3, h4⟩ := h.mem p hp
  exact ⟨a, b, h1, h2, h3, by omega⟩, by have := h.len; omega⟩
theorem UpP.add {ls : List Nat} {ps : List (List Nat)} {i j : Nat} (h : UpP ls ps i j) (asc : ls.Pairwise (· < ·)) (l : i < j) (hj : j < ls.length) : UpP ls (ps ++ [[ls.getD i 0, ls.getD j 0]]) i (j + 1) := by
  refine ⟨List.pairwise_append.mpr ⟨h.srt, List.pairwise_singleton _ _, fun p hp q hq => ?_⟩, fun p hp => ?_, by have := h.len; rw [List.length_append, List.length_singleton]; omega⟩
  · rw [List.mem_singleton.mp hq]
    obtain ⟨a, b, h1, h2, rfl, h4⟩ := h.mem p hp
    refine pairLt_mk.mpr ?_
    rcases h4 with h4 | ⟨rfl, h4⟩
    · exact .inl (asc_at asc h4 (by omega))
    · exact .inr ⟨rfl, asc_at asc h4 hj⟩
  · rcases List.mem_append.mp hp with z | z
    · obtain ⟨a, b, h1, h2, h3, h4⟩ := h.mem p z
      exact ⟨a, b, h1, h2, h3, by omega⟩
    · exact ⟨i, j, l, hj, List.mem_singleton.mp z, .inr ⟨rfl, by omega⟩⟩
theorem UpP.prs {ls : List Nat} {ps : List (List Nat)} {i j : Nat} (h : UpP ls ps i j) (asc : ls.Pairwise (· < ·)) : Prs ls ps := ⟨h.srt, fun p hp => by
  obtain ⟨a, b, h1, h2, h3, h4⟩ := h.mem p hp
  exact ⟨_, _, h3, asc_at asc h1 h2, getD_mem (by omega), getD_mem h2⟩⟩
section
variable {P : Program} {w : World} {K : PySem.W.Frag} {mg : Str → Option Value} {base : Heap}
abbrev stlplan : Stmt := (top 25)
abbrev Nlplan : List Str := ["_law_pen_here", "_law_most", "_law_many", "_law_letters", "_law_step", "_law_front", "_law_kinds", "_law_lot", "_law_pairs", "_law_i", "_law_j", "_law_near", "_law_sorts", "_law_told_here"]
theorem sclplan : FnScope Nlplan ["_law_pen_here", "_law_most"] (defScope stlplan) := ⟨rfl, rfl, rfl, by decide +kernel, rfl, by decide +kernel, by decide +kernel⟩

theorem ok_lplan (F : FnAt K mg "_law_plan" stlplan) (T : TxtH K mg) (D_draw : Def P w K mg base CX0 1 "_law_draw" ["_law_pen_here", "_law_many"] spDraw) (D_pick : Def P w K mg base CX0 2 "_law_pick" ["_law_pen_here", "_law_items"] spPick) : Def P w K mg base CX0 3 "_law_plan" ["_law_pen_here", "_law_most"] spLPlan := by
  refine F.ok sclplan (fun _ _ _ _ _ _ us hl => match us, hl with | [_, _], _ => rfl) (fun vs H Q E h => ?_) (fun f cdv A outer s H vs Q E hr h => ?_)
  · obtain ⟨g, n, rfl, _⟩ := h
    rfl
  obtain ⟨g, n, rfl, hp, hn, k⟩ := h
  have hu := hu_of hr
  have nd := sclplan.nd
  replace D_draw := D_draw.mono (show 1 ≤ 2 by decide)
  refine ⟨_, (pss_cons (ps_set (i := 2) nd rfl (Or.inl rfl) (pe_cd D_draw hr pass0 (pa_cons (pv 0) (pa_cons (pe_op op_add (pv 1) pe_int) pa_nil))))
      (pss_cons (ps_set (i := 3) nd rfl (Or.inl rfl) (pe_tx [97, 98, 99, 100, 101, 102, 103, 104, 105, 106, 107, 108, 109, 110, 111, 112, 113, 114, 115, 116, 117, 118, 119, 120, 121, 122] (by decide +kernel)))
      (pss_cons (ps_par (i := 4) (j := 5) (by rfl) nd rfl rfl (by decide) rfl rfl (pa_cons (pe_cd D_pick hr pass0 (pa_cons (pv 0) (pa_cons (pe_lst (pa_cons pe_int (pa_cons pe_int (pa_cons pe_int pa_nil)))) pa_nil))) (pa_cons (pe_cd D_draw hr pass0 (pa_cons (pv 0) (pa_cons pe_int pa_nil))) pa_nil)) (by rfl))
      (pss_cons (ps_set (i := 6) nd rfl (Or.inl rfl) (pe_slice sl_S (pe_slSt (pv 3) (po_some (pv 5)) po_none (po_some (pv 4))) po_none (po_some (pv 2))))
      (pss_cons (ps_set (i := 7) nd rfl (Or.inl rfl) (pe_cd D_draw hr pass0 (pa_cons (pv 0) (pa_cons pe_int pa_nil))))
      (pss_cons (ps_set (i := 8) nd rfl (Or.inl rfl) (pe_lst pa_nil))
      (pss_cons (ps_for PassesOwn.never rfl (pi_range1 (by rfl) T.range (pa_cons (pv 2) pa_nil)) (pg_name (i := 9) nd rfl (Or.inl rfl))
      (pss_one (ps_for PassesOwn.never rfl (pi_range2 (by rfl) T.range (pa_cons (pe_op op_add (pv 9) pe_int) (pa_cons (pv 2) pa_nil))) (pg_name (i := 10) nd rfl (Or.inl rfl))
        (pss_cons (ps_set (i := 11) nd rfl (Or.inl rfl) (pe_cut (pe_or (pe_cmpR op_eq (pv 10) (pe_op op_add (pv 9) pe_int) (nomark _)) (pe_one (pe_and (pe_cmpR op_eq (pv 9) pe_int (nomark _)) (pe_and (pe_cmpR op_eq (pv 10) (pe_op op_sub (pv 2) pe_int) (nomark _)) (pe_one (pe_cmpR op_gt (pv 2) pe_int (nomark _)))))))))
          (pss_cons (ps_set (i := 12) nd rfl (Or.inl rfl) (pe_lst (pa_cons (pv 11) (pa_cons (pe_cut (pe_and (pv 11) (pe_one (pe_cmpR op_eq (pv 10) (pe_op op_add (pv 9) pe_int) (nomark _))))) (pa_cons pe_bl (pa_cons pe_bl (pa_cons (pe_cmpR op_gt (pe_op op_sub (pv 10) (pv 9)) pe_int (nomark _)) pa_nil)))))))
          (pss_cons (ps_set (i := 13) nd rfl (Or.inl rfl) (pe_cut (pe_ifExp (pt_cmpR op_lt (pv 7) pe_int (nomark _)) (pe_ix (ix_LK (K := K) rfl) (pv 12) (pv 7) (fun _ _ => rfl)) (pe_cmpR op_eq (pe_cd D_draw hr pass0 (pa_cons (pv 0) (pa_cons pe_int pa_nil))) pe_int (nomark _)))))
          (pss_one (ps_if (pt_val (pv 13))
          (pss_one (ps_expr (pe_appK (K := K) rfl (pv 8) (pe_op op_addS (pe_ix ix_str (pv 6) (pv 9) (fun _ _ => rfl)) (pe_ix ix_str (pv 6) (pv 10) (fun _ _ => rfl))))))
          pss_nil))))))))
      (pss_one (ps_ret (pe_tup (pa_cons (pv 6) (pa_cons (pv 8) pa_nil)))))))))))), ?_⟩
  refine s_start [some _, some _, none, none, none, none, none, none, none, none, none, none, none, none] rfl ?_
  walk_at "go"
  refine ⟨g, 9, n, rfl, by omega, by omega, hp, by omega, fun z H1 z0 z1 p1 k1 => ?_⟩
  obtain ⟨m, rfl⟩ : ∃ m : Nat, z = (m : Int) := ⟨z.toNat, by omega⟩
  have m8 : m ≤ 8 := by omega
  walk_at "go"
  intro q H2 hq s2 e2
  walk_at "go"
  refine ⟨g, n + 1, q, _, rfl, e2, by decide, by decide, p1.same s2, by omega, (p1.p_ne hq).symm, fun v H3 hv p3 k3 => ?_⟩
  obtain ⟨st, hst, rfl⟩ : ∃ st : Int, (st = 1 ∨ st = 3) ∧ v = V.int st := by
    simp only [List.mem_cons, List.not_mem_nil, or_false] at hv
    rcases hv with rfl | rfl | rfl
    · exact ⟨_, .inl rfl, rfl⟩
    · exact ⟨_, .inl rfl, rfl⟩
    · exact ⟨_, .inr rfl, rfl⟩
  walk_at "go"
  refine ⟨g, 3, n + 2, rfl, by omega, by omega, p3, by omega, fun z H4 z0 z1 p4 k4 => ?_⟩
  obtain ⟨f, rfl⟩ : ∃ f : Nat, z = (f : Int) := ⟨z.toNat, by omega⟩
  have gd := step_good f (by omega) st hst
  walk_at "go"
  refine v_slSt ?_
  walk_at "go"
  have gl : (stepS LET (some (f : Int)) none st).length ≤ 26 := by
    have gd := gd
    unfold goodL at gd
    rw [Bool.and_eq_true, Bool.and_eq_true, Bool.and_eq_true, decide_eq_true_iff, decide_eq_true_iff] at gd
    exact gd.1.1.2
  refine ⟨LET, st, rfl, rfl, by omega, by omega, ?_⟩
  walk_at "go"
  refine v_slTo (by omega) (by omega) ?_
  rw [show ((m : Nat) : Int).toNat = m by omega]
  obtain ⟨g1, g2, g3, g4⟩ := plan_letters gd m8
  generalize (stepS LET (some (f : Int)) none st).take m = ls at *
  have kA : Keep g.p H H4 := fun b o hb nb => k4 _ _ (k3 _ _ (s2 _ _ (k1 _ _ hb nb)) nb) nb
  clear e2 hv gl gd k1 s2 k3 k4 p1 p3
  walk_at "go"
  refine ⟨g, 7, _, rfl, by omega, by omega, p4, by omega, fun z H5 z0 z1 p5 k5 => ?_⟩
  obtain ⟨so, rfl⟩ : ∃ so : Nat, z = (so : Int) := ⟨z.toNat, by omega⟩
  walk_at "go"
  intro q H6 hq s6 e6
  have hqH : H q = none := by
    cases z : H q with
    | none => rfl
    | some o =>
      by_cases e : q = g.p
      · exact absurd e (p5.p_ne hq).symm
      · have := k5 _ _ (kA _ _ z e) e
        rw [hq] at this
        cases this
  have nqp := (p5.p_ne hq)
  have nqc := (p5.cl_ne hq)
  have p6 := p5.same s6
  have k6 : Keep g.p H H6 := fun b o hb nb => s6 _ _ (k5 _ _ (kA _ _ hb nb) nb)
  clear p4 p5 kA k5 s6
  walk_at "go"
  refine for_it (walk_rI (fun i => ((i : Nat) : Int)) (fun k => Int.zero_add _)) (fun i σ H' => ∃ x9 x10 x11 x12 x13 ps, σ = [some (.ref g.p), some (.int 8), some (.int (m : Nat)), some (.str (tx LET)), some (.int st), some (.int (f : Nat)), some (.str (tx ls)), some (.int (so : Nat)), some (.ref q), x9, x10, x11, x12, x13] ∧ PenAt g H' (n + 4 + 8 * i) ∧ Keep g.p H H' ∧ UpP ls ps i 0 ∧ H' q = some (.lst (strsG ps))) ⟨_, _, _, _, _, [], rfl, p6, k6, ⟨.nil, fun _ h => (by cases h), by simp⟩, e6⟩ (fun _ _ _ _ _ => trivial) ?_ ?_
  · rintro i v σ H7 H8 hi ⟨x9, x10, x11, x12, x13, ps, rfl, p7, k7, u7, e7⟩ ⟨rfl, rfl⟩
    have hi' : i < ls.length := by omega
    walk_at "go"
    refine for_it (walk_rI (fun j => ((i + 1 + j : Nat) : Int)) (fun k => by omega)) (fun j σ H' => ∃ x10 x11 x12 x13 ps, σ = [some (.ref g.p), some (.int 8), some (.int (m : Nat)), some (.str (tx LET)), some (.int st), some (.int (f : Nat)), some (.str (tx ls)), some (.int (so : Nat)), some (.ref q), some (.int (i : Nat)), x10, x11, x12, x13] ∧ PenAt g H' (n + 4 + 8 * i + j) ∧ Keep g.p H H' ∧ UpP ls ps i (i + 1 + j) ∧ H' q = some (.lst (strsG ps))) ⟨_, _, _, _, ps, rfl, p7, k7, u7.more (by omega), e7⟩ (fun _ _ _ _ _ => trivial) ?_ ?_
    · rintro j v σ H9 H10 hj ⟨y10, y11, y12, y13, ps, rfl, p9, k9, u9, e9⟩ ⟨rfl, rfl⟩
      have hj' : i + 1 + j < ls.length := by omega
      walk_at "go"
      refine e_cut (fun v H' => (∃ b, v = .bl b) ∧ H' = H10) ?_ ?_
      · walk_at "go"
        refine if_dec (fun _ => ⟨⟨_, rfl⟩, rfl⟩) (fun _ => ?_)
        walk_at "go"
        refine if_dec (fun _ => ?_) (fun _ => ⟨⟨_, rfl⟩, rfl⟩)
        walk_at "go"
        refine if_dec (fun _ => ?_) (fun _ => ⟨⟨_, rfl⟩, rfl⟩)
        walk_at "go"
        exact ⟨⟨_, rfl⟩, rfl⟩
      rintro v H11 ⟨⟨b1, rfl⟩, rfl⟩
      walk_at "go"
      refine e_cut (fun v H' => (∃ b, v = .bl b) ∧ H' = H11) ?_ ?_
      · walk_at "go"
        refine if_bool (fun _ => ?_) (fun _ => ⟨⟨_, rfl⟩, rfl⟩)
        walk_at "go"
        exact ⟨⟨_, rfl⟩, rfl⟩
      rintro v H12 ⟨⟨b2, rfl⟩, rfl⟩
      walk_at "go"
      intro q2 H13 hq2 s13 e13
      have e9' := s13 _ _ e9
      have p13 := p9.same s13
      have k13 : Keep g.p H H13 := fun b o hb nb => s13 _ _ (k9 _ _ hb nb)
      walk_at "go"
      refine e_cut (fun v H' => (∃ b, v = .bl b) ∧ PenAt g H' (n + 4 + 8 * i + j + 1) ∧ Keep g.p H13 H') ?_ ?_
      · walk_at "go"
        refine if_dec (fun c => ?_) (fun c => ?_)
        · walk_at "go"
          have hso : so < 5 := by omega
          obtain ⟨bb, hbb⟩ : ∃ bb, [V.bl b1, V.bl b2, V.bl false, V.bl true, V.bl (decide (((1 : Int)) < ((i + 1 + j : Nat) : Int) - ((i : Nat) : Int)))][so]? = some (V.bl bb) := by
            have : so = 0 ∨ so = 1 ∨ so = 2 ∨ so = 3 ∨ so = 4 := by omega
            rcases this with e | e | e | e | e <;> rw [e] <;> exact ⟨_, rfl⟩
          refine v_ixL e13 (at_of (j := so) (by omega) hbb) ?_
          exact ⟨⟨_, rfl⟩, p13.mono (by omega), Keep.refl _ _⟩
        · walk_at "go"
          refine ⟨g, 2, _, rfl, by omega, by omega, p13, by omega, fun z2 H14 _ _ p14 k14 => ?_⟩
          walk_at "go"
          exact ⟨⟨_, rfl⟩, p14, k14⟩
      rintro v H14 ⟨⟨b3, rfl⟩, p14, k14⟩
      have e14 := k14 _ _ e9' nqp.symm
      have k14' : Keep g.p H H14 := fun b o hb nb => k14 _ _ (k13 _ _ hb nb) nb
      walk_at "go"
      cases b3 with
      | false =>
        walk_at "go"
        exact ⟨_, _, _, _, ps, rfl, p14, k14', u9.more (by omega), e14⟩
      | true =>
        walk_at "go"
        refine v_ixS (by omega) (at_getD hi') ?_
        walk_at "go"
        refine v_ixS (by omega) (at_getD hj') ?_
        walk_at "go"
        refine v_app e14 (by rw [strsG_len]; have := u9.len; omega) fun H15 k15 e15 => ?_
        refine ⟨_, _, _, _, ps ++ [[ls.getD i 0, ls.getD (i + 1 + j) 0]], rfl, p14.keep k15 nqp nqc, fun b o hb nb => k15 _ _ (k14' _ _ hb nb) (ne_of_none hb hqH), u9.add g2 (by omega) hj', ?_⟩
        rw [e15, strsG_app]
        rfl
    · rintro σ H9 ⟨y10, y11, y12, y13, ps, rfl, p9, k9, u9, e9⟩
      exact ⟨_, _, _, _, _, ps, rfl, p9.mono (by omega), k9, u9.next (by omega), e9⟩
  · rintro σ H7 ⟨x9, x10, x11, x12, x13, ps, rfl, p7, k7, u7, e7⟩
    walk_at "go"
    intro q0 H8 hq0 s8 e8
    have u7 : UpP ls ps ls.length 0 := by rw [show ls.length = ((m : Nat) : Int).toNat by omega]; exact u7
    exact k q0 q ls ps H8 hqH ⟨u7.prs g2, g2, g3, g4, by omega⟩ e8 (s8 _ _ e7) ((p7.same s8).mono (by omega)) fun b o hb nb => s8 _ _ (k7 _ _ hb nb)
end
end
section
open PySem PySem.Spec L2
/-- all but the pen and the tables of code objects stays -/
def KeepT (p : Addr) (H H' : Hp) : Prop := ∀ b o, H b = some o → b ≠ p → (∀ ps, o ≠ HO.tbl ps) → H' b = some o
theorem KeepT.trans {p : Addr} {H H1 H2 : Hp} (h : KeepT p H H1) (k : KeepT p H1 H2) : KeepT p H H2 := fun b o e n t => k b o (h b o e n t) n t
theorem KeepT.of {p : Addr} {H H1 : Hp} (h : Same H H1) : KeepT p H H1 := fun b o e _ _ => h b o e
theorem KeepT.ofK {p : Addr} {H H1 : Hp} (h : Keep p H H1) : KeepT p H H1 := fun b o e n _ => h b o e n
theorem KeepT.ofE {p : Addr} {H H1 : Hp} (h : LamX.ExtN H H1) : KeepT p H H1 := fun b o e _ t => h b o e t
theorem PlanAt.ext {C : Addr} {H H' : Hp} {x : Addr} {ks : List Nat} {ps : List (List Nat)} (h : PlanAt C H x ks ps) (e : LamX.ExtN H H') : PlanAt C H' x ks ps := by
  obtain ⟨dx, t, d, a, b, c⟩ := h.ex
  exact ⟨dx, t, d, e _ _ a (fun ps z => nomatch z), e _ _ b (fun ps z => nomatch z), e _ _ c (fun ps z => nomatch z)⟩
theorem PenAt.ext {g : Pen} {H H' : Hp} {n : Nat} (h : PenAt g H n) (e : LamX.ExtN H H') : PenAt g H' n := by
  obtain ⟨a, r, h1, h2, h3, h4, h5, h6⟩ := h.ex
  exact ⟨a, r, e _ _ h1 (fun ps z => nomatch z), e _ _ h2 (fun ps z => nomatch z), h3, h4, h5, h6⟩
theorem tabs_pen {Ts : List (Addr × Str)} {g : Pen} {H H' : Hp} {n : Nat} (t : LamX.Tabs Ts H) (p : PenAt g H n) (k : Keep g.p H H') : LamX.Tabs Ts H' := by
  obtain ⟨a, r, h1, _⟩ := p.ex
  exact tabs_keep t k h1 (fun ps z => nomatch z) (fun c q => codeO_dK)
/-- what is due: none, or an error's mark and field -/
def DueIs (H : Hp) (v : V) : Option (List Nat × V) → Prop
  | none => v = .non
  | some (m, u) => Plainly u ∧ ∃ q, v = .ref q ∧ H q = some (.tup [.str (tx m), u])
theorem DueIs.ext {H H1 : Hp} {v : V} : ∀ {o : Option (List Nat × V)}, DueIs H v o → LamX.ExtN H H1 → DueIs H1 v o
  | none, h, _ => h
  | some (m, u), ⟨p, q, e, h⟩, s => ⟨p, q, e, s _ _ h fun ps z => nomatch z⟩
theorem DueIs.same {H H1 : Hp} {v : V} {o : Option (List Nat × V)} (h : DueIs H v o) (s : Same H H1) : DueIs H1 v o := h.ext (ext_of s)
theorem plain2 {m : List Nat} {u : V} (p : Plainly u) : ∀ v ∈ [V.str (tx m), u], Plainly v := by
  intro v hv
  simp only [List.mem_cons, List.not_mem_nil, or_false] at hv
  rcases hv with rfl | rfl
  · exact .inl rfl
  · exact p
theorem ne_due {H : Hp} {Q : VK} {v w : V} : ∀ {o : Option (List Nat × V)}, DueIs H v o → DueIs H w o → Q (.bl false) H → rNe v w H Q ∨ rNeS v w H Q
  | none, h1, h2, q => by
    cases (show v = .non from h1)
    cases (show w = .non from h2)
    exact .inl (v_ne rfl q)
  | some (m, u), ⟨p, a, e1, h1⟩, ⟨_, b, e2, h2⟩, q => .inr ⟨a, b, _, e1, e2, h1, h2, plain2 p, q⟩
theorem v_isNT {H : Hp} {Q : VK} (q : Q (.bl true) H) : rIsN .non .non H Q := ⟨rfl, q⟩
theorem v_isNF {H : Hp} {Q : VK} {a : Addr} (q : Q (.bl false) H) : rIsN (.ref a) .non H Q := ⟨rfl, q⟩
/-- what is a bool -/
def BoolIs (K : PySem.W.Frag) (H : Hp) (v : V) (b : Bool) : Prop := ∃ t, TyX K H v t ∧ PySem.W.kitOne K t (.type "bool") = some b
theorem v_isiBl {K : PySem.W.Frag} {H : Hp} {Q : VK} {v : V} {b : Bool} (h : BoolIs K H v b) (q : Q (.bl b) H) : rIsi K [v, .ty "bool"] H Q := by
  obtain ⟨t, a, c⟩ := h
  exact ⟨v, .ty "bool", t, .type "bool", b, rfl, .ty "bool", a, c, q⟩
structure Txt03 (P : Program) (K : PySem.W.Frag) (mg : Str → Option Value) (C IP SK TM IK G : Addr) (st1 st2 st3 st4 : Stmt) : Prop extends Txt02 P K mg C IP SK TM IK G st1 st2 st3 st4 where
  sfC : PySem.W.selfFirst K C = true
  range : mg "range" = none
  bool : mg "bool" = none
def spLike (K : PySem.W.Frag) : Sp := fun vs H Q _ => ∃ (v w : V) (o : Option (List Nat × V)), vs = [v, w] ∧ DueIs H v o ∧ DueIs H w o ∧ (∀ m u, o = some (m, u) → ∃ b, BoolIs K H u b) ∧ Q (.bl true) H
/-- letters that are no kinds -/
structure MoreOf (ks mr : List Nat) : Prop where
  nd : mr.Nodup
  lt : ∀ c ∈ mr, c ∈ LET
  dis : ∀ c ∈ mr, ¬ c ∈ ks
  le : mr.length ≤ 10
  ge : 10 ≤ mr.length + ks.length
def spLPut (K : PySem.W.Frag) (C : Addr) (Ts : List (Addr × Str)) : Sp := fun vs H Q _ => ∃ (g : Pen) (n : Nat) (x : Addr) (ks : List Nat) (ps : List (List Nat)) (mr : List Nat), vs = [.ref g.p, .ref x, .str (tx mr)] ∧ LamX.Tabs Ts H ∧ PenAt g H n ∧ n < 900000 ∧ PlanAt C H x ks ps ∧ LPlan ks ps ∧ MoreOf ks mr ∧
  ∀ H', PenAt g H' (n + 2) → KeepT g.p H H' → LamX.Tabs Ts H' → Q (.bl true) H'
theorem cutV_head (xs : List V) (n : Nat) : cutV xs none (some (n : Int)) = xs.take n := by
  unfold cutV
  rw [HT.sIx_none, HT.sIx_nat, List.drop_zero, Nat.sub_zero, List.take_eq_take_iff]
  omega
theorem cutV_tail (xs : List V) (n : Nat) : cutV xs (some (n : Int)) none = xs.drop n := by
  unfold cutV
  rw [HT.sIx_none, HT.sIx_nat]
  by_cases h : n ≤ xs.length
  · rw [Nat.min_eq_left h, List.take_of_length_le (by rw [List.length_drop]; omega)]
  · rw [Nat.min_eq_right (by omega), List.drop_eq_nil_of_le (Nat.le_refl _), List.drop_eq_nil_of_le (by omega), List.take_nil]
theorem asc_uniq {l m : List Nat} (hl : l.Pairwise (· < ·)) (hm : m.Pairwise (· < ·)) (h : ∀ c, c ∈ l ↔ c ∈ m) : l = m :=
  List.Perm.eq_of_pairwise (fun a b _ _ h k => by omega) hl hm ((List.perm_ext_iff_of_nodup (hl.imp fun {a b} z e => by omega) (hm.imp fun {a b} z e => by omega)).mpr h)
theorem ascOf_asc (l : List Nat) : (ascOf l).Pairwise (· < ·) := (show LET.Pairwise (· < ·) by decide).filter _
theorem asc_first {l : List Nat} (as : l.Pairwise (· < ·)) (lt : ∀ c ∈ l, c ∈ LET) : ascOf l = l := by
  have h1 : (ascOf l).Pairwise (· < ·) := (show LET.Pairwise (· < ·) by decide).filter _
  refine List.Perm.eq_of_pairwise (fun a b _ _ h k => by omega) h1 as ?_
  exact (List.perm_ext_iff_of_nodup (ascOf_nodup l) (as.imp fun {a b} z e => by omega)).mpr fun c => ⟨fun h => (ascOf_mem.mp h).2, fun h => ascOf_mem.mpr ⟨lt c h, h⟩⟩
section
variable {P : Program} {w : World} {K : PySem.W.Frag} {mg : Str → Option Value} {base : Heap} {C IP SK TM IK G e0 : Addr} {st1 st2 st3 st4 : Stmt} {Ts : List (Addr × Str)} {c Pt : Addr}
abbrev stlike : Stmt := (top 28)
abbrev Nlike : List Str := ["_law_one", "_law_other"]
theorem sclike : FnScope Nlike ["_law_one", "_law_other"] (defScope stlike) := ⟨rfl, rfl, rfl, by decide +kernel, rfl, by decide +kernel, by decide +kernel⟩

theorem ok_like (F : FnAt K mg "_law_like" stlike) (T : Txt03 P K mg C IP SK TM IK G st1 st2 st3 st4) : Def P w K mg base CX0 1 "_law_like" ["_law_one", "_law_other"] (spLike K) := by
  refine F.ok sclike (fun _ _ _ _ _ _ us hl => match us, hl with | [_, _], _ => rfl) (fun vs H Q E h => ?_) (fun f cdv A outer s H vs Q E hr h => ?_)
  · obtain ⟨v, w, o, rfl, _⟩ := h
    rfl
  obtain ⟨v, w, o, rfl, h1, h2, hb, q⟩ := h
  have hu := hu_of hr
  have nd := sclike.nd
  refine ⟨_, (pss_cons (ps_if (PW.pt (pw_or (pt_cmpR op_isN1 (pv 0) pe_non (nomark _)) (pw_or1 (pt_cmpR op_isN1 (pv 1) pe_non (nomark _)))))
      (pss_one (ps_ret (pe_and (pe_cmpR op_isN1 (pv 0) pe_non (nomark _)) (pe_one (pe_cmpR op_isN1 (pv 1) pe_non (nomark _))))))
      pss_nil)
      (pss_one (ps_ret (pe_and (pe_cmpR (op_eqS hu) (pv 0) (pv 1) (nomark _)) (pe_one (pe_cmpR op_eq (pe_callB (c_isiK (K := K) rfl) (by rfl) T.isinstance (by decide +kernel) (pa_cons (pe_ix (ix_TK (K := K) rfl) (pv 0) pe_int (fun _ _ => rfl)) (pa_cons (pe_bltn (v := .ty "bool") (u := .type "bool") (by rfl) T.bool (by decide +kernel) rfl) pa_nil))) (pe_callB (c_isiK (K := K) rfl) (by rfl) T.isinstance (by decide +kernel) (pa_cons (pe_ix (ix_TK (K := K) rfl) (pv 1) pe_int (fun _ _ => rfl)) (pa_cons (pe_bltn (v := .ty "bool") (u := .type "bool") (by rfl) T.bool (by decide +kernel) rfl) pa_nil))) (nomark _))))))), ?_⟩
  refine s_start [some _, some _] rfl ?_
  cases o with
  | none =>
    cases (show v = .non from h1)
    cases (show w = .non from h2)
    walk_at "go"
    refine v_isNT ?_
    walk_at "go"
    refine v_isNT ?_
    walk_at "go"
    refine v_isNT ?_
    walk_at "go"
    exact q
  | some mu =>
    obtain ⟨m, u⟩ := mu
    obtain ⟨p, a, rfl, e1⟩ := h1
    obtain ⟨_, b, rfl, e2⟩ := h2
    obtain ⟨bb, hb⟩ := hb m u rfl
    walk_at "go"
    refine v_isNF ?_
    walk_at "go"
    refine v_isNF ?_
    walk_at "go"
    refine ⟨a, b, _, rfl, rfl, e1, e2, plain2 p, ?_⟩
    walk_at "go"
    refine v_ixT e1 (atI_nat (j := 1) rfl) ?_
    walk_at "go"
    refine v_isiBl hb ?_
    walk_at "go"
    refine v_ixT e2 (atI_nat (j := 1) rfl) ?_
    walk_at "go"
    refine v_isiBl hb ?_
    walk_at "go"
    rw [show decide (V.bl bb = V.bl bb) = true from decide_eq_true rfl]
    exact q
abbrev stputs : Stmt := (top 29)
abbrev Nputs : List Str := ["_law_pen_here", "_law_one", "_law_more", "_law_two", "_law_due", "_law_third", "_law_odd"]
theorem scputs : FnScope Nputs ["_law_pen_here", "_law_one", "_law_more"] (defScope stputs) := ⟨rfl, rfl, rfl, by decide +kernel, rfl, by decide +kernel, by decide +kernel⟩

theorem ok_puts (F : FnAtC K mg "_law_put_together" stputs c) (F_told : FnAt K mg "_law_told" sttold) (T : Txt03 P K mg C IP SK TM IK G st1 st2 st3 st4) (kt : ∀ H : Hp, SeqO K H e0 []) (TBp : LamX.TabB base mg c Pt) (hmP : (Pt, ("_law_put_together" : Str) ++ ".<locals>." ++ "<lambda>") ∈ Ts) (huP : ∀ p ∈ Ts, p.1 = Pt → p.2 = ("_law_put_together" : Str) ++ ".<locals>." ++ "<lambda>")
    (D_draw : Def P w K mg base CX0 1 "_law_draw" ["_law_pen_here", "_law_many"] spDraw) (D_pick : Def P w K mg base CX0 2 "_law_pick" ["_law_pen_here", "_law_items"] spPick) (C_Plan_1 : CDefN P w K mg base CX0 3 "Plan" C (spPlan K C) 1 [] [.pos 0, .dfl 0] [.ref e0])
    (M_Plan_addE : MDef P w K mg base (L2.CX P w) 6 C "__add__" ["self", "other"] (spSumE C SK TM)) (M_Plan_mulE : MDef P w K mg base (L2.CX P w) 6 C "__mul__" ["self", "other"] (spSumE C SK TM)) (S_Plan_ringE : StDef P w K mg base (L2.CX P w) 6 C "ring" (spRingE K IP TM)) : Def P w K mg base CX0 9 "_law_put_together" ["_law_pen_here", "_law_one", "_law_more"] (spLPut K C Ts) := by
  refine F.ok scputs (fun _ _ _ _ _ _ us hl => match us, hl with | [_, _, _], _ => rfl) (fun vs H Q E h => ?_) (fun f A outer s H vs Q E hr h => ?_)
  · obtain ⟨g, n, x, ks, ps, mr, rfl, _⟩ := h
    rfl
  obtain ⟨g, n, x, ks, ps, mr, rfl, t0, hp, hn, px, L, M, k⟩ := h
  have hu := hu_of hr
  have nd := scputs.nd
  replace D_draw := D_draw.mono (show 1 ≤ 8 by decide)
  replace D_pick := D_pick.mono (show 2 ≤ 8 by decide)
  replace C_Plan_1 := C_Plan_1.mono (show 3 ≤ 7 by decide)
  refine ⟨_, (pss_cons (ps_set (i := 3) nd rfl (Or.inr rfl) (pe_mkN C_Plan_1 hr pass0 (pa_cons (pe_slice sl_S (pv 2) po_none (po_some (pe_cd D_draw hr pass0 (pa_cons (pv 0) (pa_cons pe_int pa_nil))))) pa_nil) pk_nil))
      (pss_cons (ps_set (i := 4) nd rfl (Or.inl rfl) (pe_cut (pe_ifExp (pt_cmpR op_gt (pe_callB c_lenS (by rfl) T.len PySem.boot_len (pa_cons (pe_op op_addS (pe_flK (K := K) rfl (pv 1) rfl) (pe_flK (K := K) rfl (pv 3) rfl)) pa_nil)) pe_int (nomark _)) (pe_tup (pa_cons (pe_tx [109, 97, 110, 121] (by decide +kernel)) (pa_cons pe_int pa_nil))) pe_non)))
      (pss_cons (ps_if (pt_cut (pt_cmpR (OpR.or op_ne (op_neS hu)) (pe_told02 F_told T.toTxt02 TBp hmP huP hr (by decide) (LamX.lamS_by (show LamX.lamSB (defScope stputs) _ = true by decide +kernel)) (fun A outer s H E f c hr => (pe_op (op_addP M_Plan_addE T.sfC hr (passes_call (takes_of rfl rfl rfl rfl) (fun _ _ _ _ h => h))) (pv 1) (pv 3)))) (pv 4) (nomark _)))
      (pss_one (ps_ret pe_bl))
      pss_nil)
      (pss_cons (ps_if (pt_cut (pt_cmpR (OpR.or op_ne (op_neS hu)) (pe_told02 F_told T.toTxt02 TBp hmP huP hr (by decide) (LamX.lamS_by (show LamX.lamSB (defScope stputs) _ = true by decide +kernel)) (fun A outer s H E f c hr => (pe_op (op_mulP M_Plan_mulE T.sfC hr (passes_call (takes_of rfl rfl rfl rfl) (fun _ _ _ _ h => h))) (pv 3) (pv 1)))) (pv 4) (nomark _)))
      (pss_one (ps_ret pe_bl))
      pss_nil)
      (pss_cons (ps_set (i := 5) nd rfl (Or.inr rfl) (pe_mkN C_Plan_1 hr pass0 (pa_cons (pe_cut (pe_ifExp (pt_cmpR op_lt (pe_callB c_lenS (by rfl) T.len PySem.boot_len (pa_cons (pe_flK (K := K) rfl (pv 1) rfl) pa_nil)) pe_int (nomark _)) (pe_op op_addS (pe_slice sl_S (pe_flK (K := K) rfl (pv 1) rfl) (po_some pe_int) po_none) (pe_slice sl_S (pv 2) po_none (po_some pe_int))) (pe_slice sl_S (pe_flK (K := K) rfl (pv 1) rfl) (po_some pe_int) po_none))) pa_nil) pk_nil))
      (pss_cons (ps_set (i := 4) nd rfl (Or.inl rfl) (pe_cut (pe_ifExp (pt_cmpR op_gt (pe_callB c_lenS (by rfl) T.len PySem.boot_len (pa_cons (pe_flK (K := K) rfl (pv 1) rfl) pa_nil)) pe_int (nomark _)) (pe_tup (pa_cons (pe_tx [115, 97, 109, 101] (by decide +kernel)) (pa_cons (pe_ix ix_str (pe_flK (K := K) rfl (pv 1) rfl) pe_int (fun _ _ => rfl)) pa_nil))) pe_non)))
      (pss_cons (ps_if (pt_cut (pt_cmpR (OpR.or op_ne (op_neS hu)) (pe_told02 F_told T.toTxt02 TBp hmP huP hr (by decide) (LamX.lamS_by (show LamX.lamSB (defScope stputs) _ = true by decide +kernel)) (fun A outer s H E f c hr => (pe_op (op_mulP M_Plan_mulE T.sfC hr (passes_call (takes_of rfl rfl rfl rfl) (fun _ _ _ _ h => h))) (pv 1) (pv 5)))) (pv 4) (nomark _)))
      (pss_one (ps_ret pe_bl))
      pss_nil)
      (pss_cons (ps_if (pt_cut (pt_cmpR (OpR.or op_ne (op_neS hu)) (pe_told02 F_told T.toTxt02 TBp hmP huP hr (by decide) (LamX.lamS_by (show LamX.lamSB (defScope stputs) _ = true by decide +kernel)) (fun A outer s H E f c hr => (pe_op (op_addP M_Plan_addE T.sfC hr (passes_call (takes_of rfl rfl rfl rfl) (fun _ _ _ _ h => h))) (pv 5) (pv 1)))) (pv 4) (nomark _)))
      (pss_one (ps_ret pe_bl))
      pss_nil)
      (pss_cons (ps_set (i := 6) nd rfl (Or.inr rfl) (pe_cd D_pick hr pass0 (pa_cons (pv 0) (pa_cons (pe_lst (pa_cons (pe_tx [] (by decide +kernel)) (pa_cons (pe_tx [97, 98] (by decide +kernel)) (pa_cons (pe_tx [97, 98, 99] (by decide +kernel)) (pa_cons pe_non (pa_cons pe_int (pa_cons (pe_tx [97, 98, 99, 97] (by decide +kernel)) (pa_cons (pe_tx [97, 98, 99, 68] (by decide +kernel)) (pa_cons (pe_lst (pa_cons (pe_tx [97, 98, 99, 100] (by decide +kernel)) pa_nil)) (pa_cons (pe_tx [97, 98, 99, 100, 101, 102, 103, 104, 105] (by decide +kernel)) (pa_cons (pe_tx [97, 98, 32, 99, 100] (by decide +kernel)) pa_nil))))))))))) pa_nil))))
      (pss_cons (ps_set (i := 4) nd rfl (Or.inl rfl) (pe_cut (pe_ifExp (pt_cmpR (op_eqDK (K := K) rfl hr.units) (pv 6) (pe_tx [97, 98, 99, 100, 101, 102, 103, 104, 105] (by decide +kernel)) (nomark _)) (pe_tup (pa_cons (pe_tx [109, 97, 110, 121] (by decide +kernel)) (pa_cons pe_int pa_nil))) (pe_tup (pa_cons (pe_tx [112, 108, 97, 110] (by decide +kernel)) (pa_cons (pv 6) pa_nil))))))
      (pss_one (ps_ret (pe_cmpR (op_eqS hu) (pe_told02 F_told T.toTxt02 TBp hmP huP hr (by decide) (LamX.lamS_by (show LamX.lamSB (defScope stputs) _ = true by decide +kernel)) (fun A outer s H E f c hr => (pe_stc S_Plan_ringE T.Plan.at hr (passes_call (takes_of rfl rfl rfl rfl) (fun _ _ _ _ h => h)) (pa_cons (pv 6) pa_nil)))) (pv 4) (nomark _)))))))))))))), ?_⟩
  refine s_start [some _, some _, some _, none, none, none, none] rfl ?_
  have lmr := M.le
  have l8 := L.l8
  walk_at "go2"
  refine ⟨g, 9, n, rfl, by omega, by omega, hp, by omega, fun z H1 z0 z1 p1 k1 => ?_⟩
  obtain ⟨m, rfl⟩ : ∃ m : Nat, z = (m : Int) := ⟨z.toNat, by omega⟩
  walk_at "go2"
  refine v_slTo (by omega) (by omega) ?_
  rw [show ((m : Nat) : Int).toNat = m by omega]
  walk_at "go2"
  have pi0 : ∀ l : List Nat, PairsIn l [] := fun l p hp => nomatch hp
  have ep0 : prsOf [] = [] := by decide +kernel
  have tsub : (mr.take m).Sublist mr := List.take_sublist _ _
  have tlt : ∀ c ∈ mr.take m, c ∈ LET := fun c hc => M.lt c (tsub.subset hc)
  have tnd : (mr.take m).Nodup := M.nd.sublist tsub
  have tl : (mr.take m).length ≤ 8 := by rw [List.length_take]; omega
  refine ⟨mr.take m, e0, [], rfl, ⟨kt _, by decide, pi0 _, tlt, tnd, tl⟩, fun y H2 hy s2 py _ => ?_⟩
  rw [ep0] at py
  have tm2 : ∀ c ∈ kindsOf (mr.take m), c ∈ mr := fun c hc => tsub.subset (ascOf_mem.mp hc).2
  have tnd2 : (kindsOf (mr.take m)).Nodup := ascOf_nodup _
  have tl2 : (kindsOf (mr.take m)).length ≤ 8 := by rw [show kindsOf (mr.take m) = ascOf (mr.take m) from rfl, asc_len tlt tnd]; exact tl
  generalize kindsOf (mr.take m) = tk at py tm2 tnd2 tl2
  have tlt2 : ∀ c ∈ tk, c ∈ LET := fun c hc => M.lt c (tm2 c hc)
  have tdis : ∀ c ∈ tk, ¬ c ∈ ks := fun c hc => M.dis c (tm2 c hc)
  have t2 := tabs_same (tabs_pen t0 hp k1) s2
  have p2 := p1.same s2
  have px2 := (px.pen hp k1).same s2
  have kt2 : KeepT g.p H H2 := (KeepT.ofK k1).trans (KeepT.of s2)
  clear t0 hp px k1 s2 p1 tsub tlt tnd tl
  walk_at "go2"
  refine e_cut (fun v H' => Same H2 H' ∧ DueIs H' v (if 8 < ks.length + tk.length then some ([109, 97, 110, 121], V.int 8) else none)) ?_ ?_
  · walk_at "go"
    obtain ⟨dx, u1, u2, a1, _⟩ := px2.ex
    obtain ⟨dy, u3, u4, b1, _⟩ := py.ex
    refine v_fld a1 T.Plan.cl T.nK planF_k ?_
    walk_at "go"
    refine v_fld b1 T.Plan.cl T.nK planF_k ?_
    have l12 : (ks ++ tk).length ≤ 1000000 := by rw [List.length_append]; omega
    refine v_addS (by omega) ?_
    walk_at "go"
    refine if_dec (fun c => ?_) (fun c => ?_)
    · walk_at "go"
      intro q H3 hq s3 e3
      rw [if_pos (show 8 < ks.length + tk.length by rw [List.length_append] at c; omega)]
      exact ⟨s3, .inl rfl, q, rfl, e3⟩
    · walk_at "go"
      rw [if_neg (show ¬ 8 < ks.length + tk.length by rw [List.length_append] at c; omega)]
      exact ⟨Same.refl _, rfl⟩
  rintro v3 H3 ⟨s3, due3⟩
  have px3 := px2.same s3
  have py3 := py.same s3
  have t3 := tabs_same t2 s3
  have sum : ∀ {H4 : Hp}, LamX.ExtN H3 H4 → Sum2E C H4 x y ks tk ps [] := fun e => ⟨px3.ext e, py3.ext e, L.nd, tnd2, L.lt, tlt2, l8, tl2, L.prs.pin, pi0 _, by have := L.lp; omega, by decide⟩
  have sum' : ∀ {H4 : Hp}, LamX.ExtN H3 H4 → Sum2E C H4 y x tk ks [] ps := fun e => ⟨py3.ext e, px3.ext e, tnd2, L.nd, tlt2, L.lt, tl2, l8, pi0 _, L.prs.pin, by decide, by have := L.lp; omega⟩
  walk_at "go2"
  refine t_cut (fun b H' => b = false ∧ LamX.ExtN H3 H' ∧ LamX.Tabs Ts H') ?_ ?_
  · walk_at "go2"
    refine ⟨t3, fun H4 x4 t4 => ?_⟩
    unfold TT02
    dsimp only
    walk_at "go"
    obtain ⟨dx, u1, u2, a1, _⟩ := (px3.ext x4).ex
    obtain ⟨dy, u3, u4, b1, _⟩ := (py3.ext x4).ex
    refine v_MP a1 b1 ⟨x, y, ks, tk, ps, [], rfl, sum x4, .inr ⟨fun c hc h => tdis c h hc, fun h8 => rz_told (.inr (.inr (.inl ⟨rfl, rfl, rfl⟩))) fun t H5 s5 e5 => ?_, fun h8 v H5 s5 => ?_⟩⟩
    · walk_at "go"
      have d3 := (due3.ext x4).same s5
      rw [if_pos h8] at d3
      exact ne_due (o := some ([109, 97, 110, 121], V.int 8)) ⟨.inl rfl, t, rfl, e5⟩ d3 ⟨false, rfl, rfl, x4.trans (ext_of s5), tabs_same t4 s5⟩
    · walk_at "go"
      have d3 := (due3.ext x4).same s5
      rw [if_neg (show ¬ 8 < ks.length + tk.length by omega)] at d3
      exact ne_due (o := none) rfl d3 ⟨false, rfl, rfl, x4.trans (ext_of s5), tabs_same t4 s5⟩
  rintro b H4 ⟨rfl, x4, t4⟩
  walk_at "go2"
  refine t_cut (fun b H' => b = false ∧ LamX.ExtN H3 H' ∧ LamX.Tabs Ts H') ?_ ?_
  · walk_at "go2"
    refine ⟨t4, fun H5 x5 t5 => ?_⟩
    have x35 := x4.trans x5
    unfold TT02
    dsimp only
    walk_at "go"
    obtain ⟨dx, u1, u2, a1, _⟩ := (px3.ext x35).ex
    obtain ⟨dy, u3, u4, b1, _⟩ := (py3.ext x35).ex
    refine v_MP b1 a1 ⟨y, x, tk, ks, [], ps, rfl, sum' x35, .inr ⟨fun c hc h => tdis c hc h, fun h8 => rz_told (.inr (.inr (.inl ⟨rfl, rfl, rfl⟩))) fun t H6 s6 e6 => ?_, fun h8 v H6 s6 => ?_⟩⟩
    · walk_at "go"
      have d3 := (due3.ext x35).same s6
      rw [if_pos (by omega)] at d3
      exact ne_due (o := some ([109, 97, 110, 121], V.int 8)) ⟨.inl rfl, t, rfl, e6⟩ d3 ⟨false, rfl, rfl, x35.trans (ext_of s6), tabs_same t5 s6⟩
    · walk_at "go"
      have d3 := (due3.ext x35).same s6
      rw [if_neg (show ¬ 8 < ks.length + tk.length by omega)] at d3
      exact ne_due (o := none) rfl d3 ⟨false, rfl, rfl, x35.trans (ext_of s6), tabs_same t5 s6⟩
  rintro b H5 ⟨rfl, x5, t5⟩
  have p5 := (p2.same s3).ext x5
  have px5 := px3.ext x5
  have kt5 : KeepT g.p H H5 := (kt2.trans (KeepT.of s3)).trans (KeepT.ofE x5)
  clear sum sum' due3 x4 t4 t3 px3 px2 py py3 p2 t2 kt2 s3 x5 tdis tlt2 tl2 tnd2 tm2 hy
  walk_at "go2"
  obtain ⟨th, hth⟩ : ∃ th, ks.drop 1 ++ (if ks.length < 8 then mr.take 2 else []) = th := ⟨_, rfl⟩
  refine e_cut (fun v H' => Same H5 H' ∧ v = .str (tx th)) ?_ ?_
  · walk_at "go"
    obtain ⟨dx, u1, u2, a1, _⟩ := px5.ex
    refine v_fld a1 T.Plan.cl T.nK planF_k ?_
    walk_at "go"
    refine if_dec (fun c => ?_) (fun c => ?_)
    · walk_at "go"
      refine v_fld a1 T.Plan.cl T.nK planF_k ?_
      walk_at "go"
      refine v_slFrom (by omega) (by omega) ?_
      walk_at "go"
      refine v_slTo (by omega) (by omega) ?_
      refine v_addS ?_ ?_
      · rw [List.length_drop, List.length_take]; omega
      rw [← hth, if_pos (by omega)]
      exact ⟨Same.refl _, rfl⟩
    · walk_at "go"
      refine v_fld a1 T.Plan.cl T.nK planF_k ?_
      walk_at "go"
      refine v_slFrom (by omega) (by omega) ?_
      rw [← hth, if_neg (by omega), List.append_nil]
      exact ⟨Same.refl _, rfl⟩
  rintro v6 H6 ⟨s6, rfl⟩
  walk_at "go2"
  have ksub : (ks.drop 1).Sublist ks := List.drop_sublist _ _
  have msub : (if ks.length < 8 then mr.take 2 else []).Sublist mr := by
    split
    · exact List.take_sublist _ _
    · exact List.nil_sublist _
  have hlt : ∀ c ∈ th, c ∈ LET := fun c hc => by
    rw [← hth] at hc
    exact (List.mem_append.mp hc).elim (fun h => L.lt c (ksub.subset h)) fun h => M.lt c (msub.subset h)
  have hnd : th.Nodup := by
    rw [← hth]
    exact List.nodup_append.mpr ⟨L.nd.sublist ksub, M.nd.sublist msub, fun a ha b hb e => M.dis b (msub.subset hb) (e ▸ ksub.subset ha)⟩
  have hl8 : th.length ≤ 8 := by
    rw [← hth, List.length_append, List.length_drop]
    split
    · rw [List.length_take]; omega
    · rw [List.length_nil]; omega
  have hin : ∀ c ∈ ks, c ∈ th ↔ c ∈ ks.drop 1 := fun c hc => by
    rw [← hth, List.mem_append]
    exact ⟨fun h => h.elim id fun h => absurd hc (M.dis c (msub.subset h)), .inl⟩
  refine ⟨th, e0, [], rfl, ⟨kt _, by decide, pi0 _, hlt, hnd, hl8⟩, fun y H7 hy s7 py _ => ?_⟩
  rw [ep0] at py
  have tm2 : ∀ c, c ∈ kindsOf th ↔ c ∈ th := fun c => ⟨fun h => (ascOf_mem.mp h).2, fun h => ascOf_mem.mpr ⟨hlt c h, h⟩⟩
  have tas : (kindsOf th).Pairwise (· < ·) := ascOf_asc _
  have tl2 : (kindsOf th).length ≤ 8 := by rw [show kindsOf th = ascOf th from rfl, asc_len hlt hnd]; exact hl8
  have tl3 : (kindsOf th).length = th.length := by rw [show kindsOf th = ascOf th from rfl, asc_len hlt hnd]
  generalize kindsOf th = tk at py tm2 tas tl2 tl3
  have tlt2 : ∀ c ∈ tk, c ∈ LET := fun c hc => hlt c ((tm2 c).mp hc)
  have tnd2 : tk.Nodup := tas.imp fun {a b} z e => by omega
  have f1 : (ascOf ks).filter (fun c => decide (c ∈ tk)) = ks.drop 1 := by
    rw [asc_first L.asc L.lt]
    refine asc_uniq (L.asc.filter _) (L.asc.sublist ksub) fun c => ?_
    rw [List.mem_filter, decide_eq_true_iff, tm2]
    exact ⟨fun ⟨h, h'⟩ => (hin c h).mp h', fun h => ⟨ksub.subset h, (hin c (ksub.subset h)).mpr h⟩⟩
  have f2 : (ascOf tk).filter (fun c => decide (c ∈ ks)) = ks.drop 1 := by
    rw [asc_first tas tlt2]
    refine asc_uniq (tas.filter _) (L.asc.sublist ksub) fun c => ?_
    rw [List.mem_filter, decide_eq_true_iff, tm2]
    exact ⟨fun ⟨h, h'⟩ => (hin c h').mp h, fun h => ⟨(hin c (ksub.subset h)).mpr h, ksub.subset h⟩⟩
  have s57 := s6.trans s7
  have px7 := px5.same s57
  walk_at "go2"
  obtain ⟨due, hdue⟩ : ∃ due : Option (List Nat × V), (ks[1]?).map (fun b => (([115, 97, 109, 101] : List Nat), V.str (tx [b]))) = due := ⟨_, rfl⟩
  refine e_cut (fun v H' => Same H7 H' ∧ DueIs H' v due) ?_ ?_
  · walk_at "go"
    obtain ⟨dx, u1, u2, a1, _⟩ := px7.ex
    refine v_fld a1 T.Plan.cl T.nK planF_k ?_
    walk_at "go"
    refine if_dec (fun c => ?_) (fun c => ?_)
    · walk_at "go"
      refine v_fld a1 T.Plan.cl T.nK planF_k ?_
      have hk1 : 1 < ks.length := by omega
      walk_at "go"
      refine v_ixS (by omega) (show atI ks 1 = some ks[1] from atI_nat (j := 1) (List.getElem?_eq_getElem hk1)) ?_
      walk_at "go"
      intro q H8 hq s8 e8
      rw [← hdue, List.getElem?_eq_getElem hk1]
      exact ⟨s8, .inl rfl, q, rfl, e8⟩
    · walk_at "go"
      rw [← hdue, List.getElem?_eq_none (by omega)]
      exact ⟨Same.refl _, rfl⟩
  rintro v8 H8 ⟨s8, due8⟩
  have px8 := px7.same s8
  have py8 := py.same s8
  have s58 := s57.trans s8
  have t8 := tabs_same t5 s58
  have p8 := p5.same s58
  have kt8 : KeepT g.p H H8 := kt5.trans (KeepT.of s58)
  have sum : ∀ {H9 : Hp}, LamX.ExtN H8 H9 → Sum2E C H9 x y ks tk ps [] := fun e => ⟨px8.ext e, py8.ext e, L.nd, tnd2, L.lt, tlt2, l8, tl2, L.prs.pin, pi0 _, by have := L.lp; omega, by decide⟩
  have sum' : ∀ {H9 : Hp}, LamX.ExtN H8 H9 → Sum2E C H9 y x tk ks [] ps := fun e => ⟨py8.ext e, px8.ext e, tnd2, L.nd, tlt2, L.lt, tl2, l8, pi0 _, L.prs.pin, by decide, by have := L.lp; omega⟩
  have two : (∃ b r, ks.drop 1 = b :: r ∧ due = some ([115, 97, 109, 101], V.str (tx [b]))) ∨ (due = none ∧ (∀ c ∈ ks, ¬ c ∈ tk) ∧ ks.length + tk.length ≤ 8) := by
    by_cases h1 : 1 < ks.length
    · refine .inl ⟨ks[1], ks.drop 2, List.drop_eq_getElem_cons h1, ?_⟩
      rw [← hdue, List.getElem?_eq_getElem h1]
      rfl
    · have e1 : ks.drop 1 = [] := List.drop_eq_nil_of_le (by omega)
      refine .inr ⟨by rw [← hdue, List.getElem?_eq_none (by omega)]; rfl, fun c hc h => ?_, ?_⟩
      · have := (hin c hc).mp ((tm2 c).mp h)
        rw [e1] at this
        cases this
      · have : th.length ≤ 2 := by
          rw [← hth, e1, List.nil_append]
          split
          · rw [List.length_take]; omega
          · rw [List.length_nil]; omega
        omega
  clear hdue hin tm2 tas hth hlt hnd hl8 ksub msub s6 s7 s8 s57 s58 px7 py px5 t5 p5 kt5
  walk_at "go2"
  refine t_cut (fun b H' => b = false ∧ LamX.ExtN H8 H' ∧ LamX.Tabs Ts H') ?_ ?_
  · walk_at "go2"
    refine ⟨t8, fun H9 x9 t9 => ?_⟩
    unfold TT02
    dsimp only
    walk_at "go"
    obtain ⟨dx, u1, u2, a1, _⟩ := (px8.ext x9).ex
    obtain ⟨dy, u3, u4, b1, _⟩ := (py8.ext x9).ex
    rcases two with ⟨b, r, eb, rfl⟩ | ⟨rfl, dis, le8⟩
    · refine v_MP a1 b1 ⟨x, y, ks, tk, ps, [], rfl, sum x9, .inl ⟨b, r, by rw [f1, eb], rz_told (.inr (.inl ⟨rfl, rfl, rfl⟩)) fun t H10 s10 e10 => ?_⟩⟩
      walk_at "go"
      exact ne_due (o := some ([115, 97, 109, 101], V.str (tx [b]))) ⟨.inl rfl, t, rfl, e10⟩ ((due8.ext x9).same s10) ⟨false, rfl, rfl, x9.trans (ext_of s10), tabs_same t9 s10⟩
    · refine v_MP a1 b1 ⟨x, y, ks, tk, ps, [], rfl, sum x9, .inr ⟨dis, fun h8 => absurd h8 (by omega), fun h8 v H10 s10 => ?_⟩⟩
      walk_at "go"
      exact ne_due (o := none) rfl ((due8.ext x9).same s10) ⟨false, rfl, rfl, x9.trans (ext_of s10), tabs_same t9 s10⟩
  rintro b H9 ⟨rfl, x9, t9⟩
  walk_at "go2"
  refine t_cut (fun b H' => b = false ∧ LamX.ExtN H8 H' ∧ LamX.Tabs Ts H') ?_ ?_
  · walk_at "go2"
    refine ⟨t9, fun H10 x10 t10 => ?_⟩
    have x810 := x9.trans x10
    unfold TT02
    dsimp only
    walk_at "go"
    obtain ⟨dx, u1, u2, a1, _⟩ := (px8.ext x810).ex
    obtain ⟨dy, u3, u4, b1, _⟩ := (py8.ext x810).ex
    rcases two with ⟨b, r, eb, rfl⟩ | ⟨rfl, dis, le8⟩
    · refine v_MP b1 a1 ⟨y, x, tk, ks, [], ps, rfl, sum' x810, .inl ⟨b, r, by rw [f2, eb], rz_told (.inr (.inl ⟨rfl, rfl, rfl⟩)) fun t H11 s11 e11 => ?_⟩⟩
      walk_at "go"
      exact ne_due (o := some ([115, 97, 109, 101], V.str (tx [b]))) ⟨.inl rfl, t, rfl, e11⟩ ((due8.ext x810).same s11) ⟨false, rfl, rfl, x810.trans (ext_of s11), tabs_same t10 s11⟩
    · refine v_MP b1 a1 ⟨y, x, tk, ks, [], ps, rfl, sum' x810, .inr ⟨fun c hc h => dis c h hc, fun h8 => absurd h8 (by omega), fun h8 v H11 s11 => ?_⟩⟩
      walk_at "go"
      exact ne_due (o := none) rfl ((due8.ext x810).same s11) ⟨false, rfl, rfl, x810.trans (ext_of s11), tabs_same t10 s11⟩
  rintro b H10 ⟨rfl, x10, t10⟩
  have p10 := p8.ext x10
  have kt10 : KeepT g.p H H10 := kt8.trans (KeepT.ofE x10)
  clear two sum sum' due8 f1 f2 x9 t9 px8 py8 p8 t8 kt8 x10
  walk_at "go2"
  intro q1 H11 hq1 s11 e11
  walk_at "go2"
  intro q2 H12 hq2 s12 e12
  walk_at "go2"
  have s1012 := s11.trans s12
  have t12 := tabs_same t10 s1012
  have p12 := p10.same s1012
  have kt12 : KeepT g.p H H12 := kt10.trans (KeepT.of s1012)
  have e11 := s12 _ _ e11
  have n1 : q1 ≠ g.p := (p10.p_ne hq1).symm
  have n2 : q2 ≠ g.p := ((p10.same s11).p_ne hq2).symm
  clear t10 p10 kt10 s11 s12 s1012 hq1 hq2
  refine ⟨g, n + 1, q2, _, rfl, e12, by simp, by simp, p12, by omega, n2, fun v H13 hv p13 k13 => ?_⟩
  have t13 := tabs_pen t12 p12 k13
  have kt13 : KeepT g.p H H13 := kt12.trans (KeepT.ofK k13)
  have e13 := k13 _ _ e11 n1
  clear t12 p12 kt12 e11 e12 k13 n1 n2
  obtain ⟨dd, hdp, hsh, heq, hpl, hcase⟩ : ∃ dd, Dp K H13 v dd ∧ SeqAt.shaped dd = true ∧ PyData.eqv dd (.str (tx [97, 98, 99, 100, 101, 102, 103, 104, 105])) = decide (v = .str (tx [97, 98, 99, 100, 101, 102, 103, 104, 105])) ∧ Plainly v ∧
      (v = .str (tx [97, 98, 99, 100, 101, 102, 103, 104, 105]) ∨ ¬ v = .str (tx [97, 98, 99, 100, 101, 102, 103, 104, 105]) ∧ (BadKs K H13 v ∨ ∃ l : List Nat, v = .str (tx l) ∧ l.length < 4)) := by
    simp only [List.mem_cons, List.not_mem_nil, or_false] at hv
    rcases hv with rfl | rfl | rfl | rfl | rfl | rfl | rfl | rfl | rfl | rfl
    · exact ⟨_, .str _, by decide +kernel, by decide +kernel, .inl rfl, .inr ⟨by decide +kernel, .inr ⟨_, rfl, by decide⟩⟩⟩
    · exact ⟨_, .str _, by decide +kernel, by decide +kernel, .inl rfl, .inr ⟨by decide +kernel, .inr ⟨_, rfl, by decide⟩⟩⟩
    · exact ⟨_, .str _, by decide +kernel, by decide +kernel, .inl rfl, .inr ⟨by decide +kernel, .inr ⟨_, rfl, by decide⟩⟩⟩
    · exact ⟨_, .non, by decide +kernel, by decide +kernel, .inl rfl, .inr ⟨by decide +kernel, .inl (.inl fun H' _ => noTx_non)⟩⟩
    · exact ⟨_, .int _, by decide +kernel, by decide +kernel, .inl rfl, .inr ⟨by decide +kernel, .inl (.inl fun H' _ => noTx_int)⟩⟩
    · exact ⟨_, .str _, by decide +kernel, by decide +kernel, .inl rfl, .inr ⟨by decide +kernel, .inl (.inr ⟨_, rfl, by decide, by decide +kernel⟩)⟩⟩
    · exact ⟨_, .str _, by decide +kernel, by decide +kernel, .inl rfl, .inr ⟨by decide +kernel, .inl (.inr ⟨_, rfl, by decide, by decide +kernel⟩)⟩⟩
    · exact ⟨_, .lst (SqL.of e13) (.cons (.str _) .nil), by decide +kernel, by simp [PyData.eqv], .inr ⟨_, rfl⟩, .inr ⟨(by simp), .inl (.inl fun H' x => noTx_lst (x _ _ e13 fun ps z => nomatch z))⟩⟩
    · exact ⟨_, .str _, by decide +kernel, by decide +kernel, .inl rfl, .inl rfl⟩
    · exact ⟨_, .str _, by decide +kernel, by decide +kernel, .inl rfl, .inr ⟨by decide +kernel, .inl (.inr ⟨_, rfl, by decide, by decide +kernel⟩)⟩⟩
  clear hv e13
  walk_at "go2"
  refine e_cut (fun u H' => Same H13 H' ∧ DueIs H' u (some (if v = .str (tx [97, 98, 99, 100, 101, 102, 103, 104, 105]) then ([109, 97, 110, 121], V.int 8) else ([112, 108, 97, 110], v)))) ?_ ?_
  · walk_at "go"
    refine ⟨dd, .str (tx [97, 98, 99, 100, 101, 102, 103, 104, 105]), hdp, .str _, hsh, by decide +kernel, ?_⟩
    rw [heq]
    walk_at "go"
    refine if_dec (fun c => ?_) (fun c => ?_)
    · walk_at "go"
      intro q H14 hq s14 e14
      rw [if_pos c]
      exact ⟨s14, .inl rfl, q, rfl, e14⟩
    · walk_at "go"
      intro q H14 hq s14 e14
      rw [if_neg c]
      exact ⟨s14, hpl, q, rfl, e14⟩
  rintro v14 H14 ⟨s14, due14⟩
  have t14 := tabs_same t13 s14
  walk_at "go2"
  refine ⟨t14, fun H15 x15 t15 => ?_⟩
  unfold TT02
  dsimp only
  have due15 := due14.ext x15
  have x1315 := (ext_of s14).trans x15
  have fin : ∀ {H' : Hp}, Same H15 H' → Q (.bl true) H' := fun s' => k _ ((p13.ext x1315).same s') ((kt13.trans (KeepT.ofE x1315)).trans (KeepT.of s')) (tabs_same t15 s')
  walk_at "go2"
  refine ⟨v, rfl, ?_⟩
  rcases hcase with rfl | ⟨hne, hbad⟩
  · refine .inr ⟨_, rfl, by decide, by decide, by decide, by decide, rz_told (.inr (.inr (.inl ⟨rfl, rfl, rfl⟩))) fun t H16 s16 e16 => ?_⟩
    rw [if_pos rfl] at due15
    obtain ⟨_, q, rfl, eq⟩ := due15
    walk_at "go2"
    exact ⟨t, q, _, rfl, rfl, e16, s16 _ _ eq, plain2 (.inl rfl), fin s16⟩
  · refine .inl ⟨hbad.imp (fun z => ?_) id, rz_told (.inl ⟨rfl, rfl, rfl⟩) fun t H16 s16 e16 => ?_⟩
    · exact z.imp (fun z H' x' => z H' (x1315.trans x')) id
    rw [if_neg hne] at due15
    obtain ⟨_, q, rfl, eq⟩ := due15
    walk_at "go2"
    exact ⟨t, q, _, rfl, rfl, e16, s16 _ _ eq, plain2 hpl, fin s16⟩
end
end
section
open PySem PySem.Spec L2
def BoolSt (K : PySem.W.Frag) (H : Hp) (v : V) (b : Bool) : Prop := ∀ H', LamX.ExtN H H' → BoolIs K H' v b
theorem BoolSt.ext {K : PySem.W.Frag} {H H1 : Hp} {v : V} {b : Bool} (h : BoolSt K H v b) (e : LamX.ExtN H H1) : BoolSt K H1 v b := fun H' x => h H' (e.trans x)
theorem BadPair.ext {K : PySem.W.Frag} {H H1 : Hp} {ks : List Nat} {u : V} (h : BadPair K H ks u) (e : LamX.ExtN H H1) : BadPair K H1 ks u := h.elim (fun z => .inl fun H' x => z H' (e.trans x)) .inr
theorem BadKs.ext {K : PySem.W.Frag} {H H1 : Hp} {u : V} (h : BadKs K H u) (e : LamX.ExtN H H1) : BadKs K H1 u := h.elim (fun z => .inl fun H' x => z H' (e.trans x)) .inr
section
variable {K : PySem.W.Frag}
theorem boolSt_str {H : Hp} {z : Str} : BoolSt K H (.str z) false := fun _ _ => ⟨_, .base (.str z), kit_ty (by decide +kernel)⟩
theorem boolSt_non {H : Hp} : BoolSt K H .non false := fun _ _ => ⟨_, .base .non, kit_ty (by decide +kernel)⟩
theorem boolSt_int {H : Hp} {i : Int} : BoolSt K H (.int i) false := fun _ _ => ⟨_, .base (.int i), kit_ty (by decide +kernel)⟩
theorem boolSt_bl {H : Hp} {b : Bool} : BoolSt K H (.bl b) true := fun _ _ => ⟨_, .base (.bl b), kit_ty (by decide +kernel)⟩
theorem boolSt_lst {H : Hp} {a : Addr} {xs : List V} (h : H a = some (.lst xs)) : BoolSt K H (.ref a) false := fun H' e => ⟨_, .base (.lst (e _ _ h fun ps z => nomatch z)), kit_ty (by decide +kernel)⟩
theorem boolSt_tup {H : Hp} {a : Addr} {xs : List V} (h : H a = some (.tup xs)) : BoolSt K H (.ref a) false := fun H' e => ⟨_, .base (.tup (e _ _ h fun ps z => nomatch z)), kit_ty (by decide +kernel)⟩
end
/-- a right pair, or a wrong one of any kind -/
def Elem (K : PySem.W.Frag) (H : Hp) (told : List Nat) (ps : List (List Nat)) (v : V) : Prop := (∃ p ∈ ps, v = .str (tx p)) ∨ (BadPair K H told v ∧ Plainly v ∧ (∃ b, BoolSt K H v b) ∧ ¬ v ∈ strsG ps)
theorem Elem.ext {K : PySem.W.Frag} {H H1 : Hp} {told : List Nat} {ps : List (List Nat)} {v : V} (h : Elem K H told ps v) (e : LamX.ExtN H H1) : Elem K H1 told ps v := by
  rcases h with h | ⟨a, b, ⟨c, d⟩, f⟩
  · exact .inl h
  · exact .inr ⟨a.ext e, b, ⟨c, d.ext e⟩, f⟩
theorem mem_strsG {ps : List (List Nat)} {v : V} : v ∈ strsG ps ↔ ∃ p ∈ ps, v = .str (tx p) := by
  unfold strsG
  rw [List.mem_map]
  exact ⟨fun ⟨p, h, e⟩ => ⟨p, h, e.symm⟩, fun ⟨p, h, e⟩ => ⟨p, h, e.symm⟩⟩
/-- the wrong ones -/
def wrongs (ps : List (List Nat)) (xs : List V) : List V := xs.filter fun v => !decide (v ∈ strsG ps)
theorem upto_of {K : PySem.W.Frag} {H : Hp} {told : List Nat} {ps : List (List Nat)} (pin : PairsIn told ps) : ∀ {xs : List V}, (∀ v ∈ xs, Elem K H told ps v) → xs.length < 1000 → ∃ ps', UptoB K H told xs ps' (wrongs ps xs).head?
  | [], _, _ => ⟨[], ⟨[], rfl, fun _ => rfl, fun u z => nomatch z⟩, (fun p hp => nomatch hp), (fun u z => nomatch z), by decide⟩
  | v :: r, h, hl => by
    have hl' : r.length < 1000 := by rw [List.length_cons] at hl; omega
    by_cases hg : v ∈ strsG ps
    · obtain ⟨p, hp, rfl⟩ := mem_strsG.mp hg
      obtain ⟨ps', U⟩ := upto_of pin (fun v hv => h v (List.mem_cons_of_mem _ hv)) hl'
      have ew : wrongs ps (V.str (tx p) :: r) = wrongs ps r := by
        unfold wrongs
        rw [List.filter_cons, if_neg (by rw [decide_eq_true hg]; exact Bool.false_ne_true)]
      rw [ew]
      obtain ⟨r0, e0, e1, e2⟩ := U.pre
      refine ⟨p :: ps', ⟨r0, ?_, e1, e2⟩, fun q hq => ?_, U.bad, hl⟩
      · rw [e0]
        rfl
      · rcases List.mem_cons.mp hq with rfl | hq
        · exact pin _ hp
        · exact U.good q hq
    · have ew : wrongs ps (v :: r) = v :: wrongs ps r := by
        unfold wrongs
        rw [List.filter_cons, if_pos (by rw [decide_eq_false hg]; rfl)]
      rw [ew]
      have hb : BadPair K H told v := by
        rcases h v (List.mem_cons_self ..) with z | z
        · exact absurd (mem_strsG.mpr z) hg
        · exact z.1
      refine ⟨[], ⟨v :: r, rfl, (fun z => nomatch z), fun u z => ⟨r, ?_⟩⟩, (fun p hp => nomatch hp), fun u z => ?_, hl⟩
      · cases z
        rfl
      · cases z
        exact hb
theorem range_mapV (l : List V) (b : V → Bool) : ((List.range l.length).filter fun k => b (l.getD k .non)).map (fun k => l.getD k .non) = l.filter b := by
  have e : l = (List.range l.length).map fun k => l.getD k .non := by
    apply List.ext_getElem
    · simp
    · intro j h1 h2
      simp [List.getD, h1]
  conv => rhs; rw [e, List.filter_map]
  rfl
/-- letters that are no kinds, of the ten last ones -/
def ZQ : List Nat := [122, 121, 120, 119, 118, 117, 116, 115, 114, 113]
def moreL (ks : List Nat) : List Nat := ZQ.filter fun c => !decide (c ∈ ks)
theorem more_of {ks : List Nat} (nd : ks.Nodup) : MoreOf ks (moreL ks) := by
  have znd : ZQ.Nodup := by decide
  refine ⟨znd.filter _, fun c hc => ?_, fun c hc h => ?_, List.length_filter_le _ _, ?_⟩
  · have := (List.mem_filter.mp hc).1
    revert this
    revert c
    intro c _ h
    have all : ∀ c ∈ ZQ, c ∈ LET := by decide
    exact all c h
  · have := (List.mem_filter.mp hc).2
    rw [decide_eq_true h] at this
    cases this
  · have e : ZQ.length = (ZQ.filter fun c => !decide (c ∈ ks)).length + (ZQ.filter fun c => !!decide (c ∈ ks)).length := by
      generalize ZQ = z
      induction z with
      | nil => rfl
      | cons a r ih =>
        rw [List.filter_cons, List.filter_cons, List.length_cons, ih]
        by_cases h : a ∈ ks
        · simp [h]; omega
        · simp [h]; omega
    have l2 : (ZQ.filter fun c => !!decide (c ∈ ks)).length ≤ ks.length := List.Nodup.length_le_of_subset (znd.filter _) fun c hc => by
      have := (List.mem_filter.mp hc).2
      rw [Bool.not_not] at this
      exact of_decide_eq_true this
    have l10 : ZQ.length = 10 := rfl
    unfold moreL
    omega
/-- what is told of kinds: right ones, or wrong ones -/
structure ToldK (K : PySem.W.Frag) (H : Hp) (ls mr : List Nat) (told : List Nat) : Prop where
  nd : told.Nodup
  lt : ∀ c ∈ told, c ∈ LET
  sub : ∀ c ∈ ls, c ∈ told
  last : ∀ z, mr.getLast? = some z → ¬ z ∈ told
  le : told.length ≤ 9
theorem toldK_of {K : PySem.W.Frag} {H : Hp} {ls mr : List Nat} {m : Nat} (M : MoreOf ls mr) (nd : ls.Nodup) (lt : ∀ c ∈ ls, c ∈ LET) (l8 : ls.length ≤ 8) (hm : m = 0 ∨ m = 9 - ls.length) : ToldK K H ls mr (ls ++ mr.take m) := by
  have sub : (mr.take m).Sublist mr := List.take_sublist _ _
  have lm : m < mr.length := by have := M.ge; omega
  refine ⟨List.nodup_append.mpr ⟨nd, M.nd.sublist sub, fun a ha b hb e => M.dis b (sub.subset hb) (e ▸ ha)⟩, fun c hc => (List.mem_append.mp hc).elim (lt c) fun h => M.lt c (sub.subset h), fun c hc => List.mem_append_left _ hc, fun z hz h => ?_, ?_⟩
  · rcases List.mem_append.mp h with h | h
    · exact M.dis z (List.mem_of_getLast? hz) h
    · obtain ⟨i, hi, e⟩ := List.getElem_of_mem h
      rw [List.length_take] at hi
      rw [List.getElem_take] at e
      rw [List.getLast?_eq_getElem?] at hz
      have hz' : mr[mr.length - 1]'(by omega) = z := by
        rw [List.getElem?_eq_getElem (by omega)] at hz
        exact Option.some.inj hz
      have := (List.getElem_inj M.nd).mp (e.trans hz'.symm)
      omega
  · rw [List.length_append, List.length_take]
    omega
/-- a value that is no text -/
def OddV (H : Hp) (v : V) : Prop := v = .non ∨ (∃ b, v = .bl b) ∨ (∃ i, v = .int i) ∨ ∃ a xs, v = .ref a ∧ (H a = some (.lst xs) ∨ H a = some (.tup xs))
theorem OddV.ext {H H1 : Hp} {v : V} (h : OddV H v) (e : LamX.ExtN H H1) : OddV H1 v := by
  rcases h with h | h | h | ⟨a, xs, h, z | z⟩
  · exact .inl h
  · exact .inr (.inl h)
  · exact .inr (.inr (.inl h))
  · exact .inr (.inr (.inr ⟨a, xs, h, .inl (e _ _ z fun ps y => nomatch y)⟩))
  · exact .inr (.inr (.inr ⟨a, xs, h, .inr (e _ _ z fun ps y => nomatch y)⟩))
theorem OddV.pen {H H1 : Hp} {v : V} {g : Pen} {n : Nat} (h : OddV H v) (p : PenAt g H n) (k : Keep g.p H H1) : OddV H1 v := by
  obtain ⟨_, _, h1, _⟩ := p.ex
  rcases h with h | h | h | ⟨a, xs, h, z | z⟩
  · exact .inl h
  · exact .inr (.inl h)
  · exact .inr (.inr (.inl h))
  · refine .inr (.inr (.inr ⟨a, xs, h, .inl (k _ _ z fun e => ?_)⟩))
    rw [e, h1] at z
    cases z
  · refine .inr (.inr (.inr ⟨a, xs, h, .inr (k _ _ z fun e => ?_)⟩))
    rw [e, h1] at z
    cases z
theorem OddV.nv {K : PySem.W.Frag} {H : Hp} {v : V} (h : OddV H v) : NvTx K H v := by
  intro H' e
  rcases h with rfl | ⟨b, rfl⟩ | ⟨i, rfl⟩ | ⟨a, xs, rfl, z | z⟩
  · exact noTx_non
  · exact noTx_bl
  · exact noTx_int
  · exact noTx_lst (e _ _ z fun ps y => nomatch y)
  · exact noTx_tup (e _ _ z fun ps y => nomatch y)
theorem OddV.plain {H : Hp} {v : V} (h : OddV H v) : Plainly v := by
  rcases h with rfl | ⟨b, rfl⟩ | ⟨i, rfl⟩ | ⟨a, xs, rfl, _⟩
  · exact .inl rfl
  · exact .inl rfl
  · exact .inl rfl
  · exact .inr ⟨_, rfl⟩
theorem OddV.bool {K : PySem.W.Frag} {H : Hp} {v : V} (h : OddV H v) : ∃ b, BoolSt K H v b := by
  rcases h with rfl | ⟨b, rfl⟩ | ⟨i, rfl⟩ | ⟨a, xs, rfl, z | z⟩
  · exact ⟨_, boolSt_non⟩
  · exact ⟨_, boolSt_bl⟩
  · exact ⟨_, boolSt_int⟩
  · exact ⟨_, boolSt_lst z⟩
  · exact ⟨_, boolSt_tup z⟩
theorem OddV.ne {H : Hp} {v : V} {z : Str} (h : OddV H v) : v ≠ .str z := by
  rintro rfl
  rcases h with h | ⟨b, h⟩ | ⟨i, h⟩ | ⟨a, xs, h, _⟩ <;> cases h
/-- a text that is no pair of these letters -/
def NoPair (told l : List Nat) : Prop := ¬ ∃ a b, l = [a, b] ∧ a ≠ b ∧ a ∈ told ∧ b ∈ told
theorem noPair_one {told : List Nat} {a z : Nat} (h : ¬ z ∈ told) : NoPair told [a, z] := by
  rintro ⟨x, y, e, _, _, hy⟩
  cases e
  exact h hy
theorem noPair_len {told l : List Nat} (h : l.length ≠ 2) : NoPair told l := by
  rintro ⟨x, y, rfl, _⟩
  exact h rfl
theorem noPair_same {told : List Nat} {a : Nat} : NoPair told [a, a] := by
  rintro ⟨x, y, e, n, _⟩
  cases e
  exact n rfl
theorem noPair_cut {told ls : List Nat} {z : Nat} (h : ¬ z ∈ told) : NoPair told (ls.take 1 ++ [z]) := by
  cases ls with
  | nil => exact noPair_len (by simp)
  | cons a r => exact noPair_one h
theorem noPair_twice {told ls : List Nat} : NoPair told (List.replicate 2 (ls.take 1)).flatten := by
  cases ls with
  | nil => exact noPair_len (by simp)
  | cons a r => exact noPair_same
/-- an item of the list of pairs -/
def ElemC (H : Hp) (told : List Nat) (ps : List (List Nat)) (v : V) : Prop := (∃ p ∈ ps, v = .str (tx p)) ∨ OddV H v ∨ ∃ l, v = .str (tx l) ∧ l.length < 1000 ∧ NoPair told l
theorem ElemC.ext {H H1 : Hp} {told : List Nat} {ps : List (List Nat)} {v : V} (h : ElemC H told ps v) (e : LamX.ExtN H H1) : ElemC H1 told ps v := h.imp id fun z => z.imp (fun y => y.ext e) id
theorem ElemC.pen {H H1 : Hp} {told : List Nat} {ps : List (List Nat)} {v : V} {g : Pen} {n : Nat} (h : ElemC H told ps v) (p : PenAt g H n) (k : Keep g.p H H1) : ElemC H1 told ps v := h.imp id fun z => z.imp (fun y => y.pen p k) id
theorem ElemC.elem {K : PySem.W.Frag} {H : Hp} {told : List Nat} {ps : List (List Nat)} {v : V} (h : ElemC H told ps v) (pin : PairsIn told ps) : Elem K H told ps v := by
  rcases h with h | h | ⟨l, rfl, hl, nb⟩
  · exact .inl h
  · exact .inr ⟨.inl h.nv, h.plain, h.bool, fun m => by
      obtain ⟨p, _, e⟩ := mem_strsG.mp m
      exact h.ne e⟩
  · refine .inr ⟨.inr ⟨l, rfl, hl, nb⟩, .inl rfl, ⟨_, boolSt_str⟩, fun m => ?_⟩
    obtain ⟨p, hp, e⟩ := mem_strsG.mp m
    have e : l = p := by
      injection e with e
      exact tx_inj.mp e
    subst e
    exact nb (pin l hp)
theorem DueIs.pen {H H1 : Hp} {v : V} {g : Pen} {n : Nat} : ∀ {o : Option (List Nat × V)}, DueIs H v o → PenAt g H n → Keep g.p H H1 → DueIs H1 v o
  | none, h, _, _ => h
  | some (m, u), ⟨p, q, e, h⟩, pa, k => by
    obtain ⟨_, _, h1, _⟩ := pa.ex
    refine ⟨p, q, e, k _ _ h fun z => ?_⟩
    rw [z, h1] at h
    cases h
end
section
open PySem PySem.Spec L2
structure Txt04 (P : Program) (K : PySem.W.Frag) (mg : Str → Option Value) (C IP SK TM IK G : Addr) (st1 st2 st3 st4 : Stmt) : Prop extends Txt03 P K mg C IP SK TM IK G st1 st2 st3 st4 where
  min : mg "min" = none
  max : mg "max" = none
  kC : PySem.W.kitOne K (.ref C) (.type "str") = some false
def spLawT (K : PySem.W.Frag) (Ts : List (Addr × Str)) : Sp := fun vs H Q _ => ∃ (a : Addr) (ns : List Int), vs = [.ref a] ∧ SqL K H a (ns.map V.int) ∧ ns.length ≤ 63 ∧ LamX.Tabs Ts H ∧ ∀ H', Q (.bl true) H'
theorem v_notInT {K : PySem.W.Frag} {H : Hp} {Q : VK} {x : List Nat} {ps : List (List Nat)} {p : Addr} (h : H p = some (.lst (strsG ps))) (q : Q (.bl (!decide (x ∈ ps))) H) : rIn K true (.str (tx x)) (.ref p) H Q := by
  refine ⟨p, _, rfl, .inl (SqL.of h), rfl, flat_tx _, ?_⟩
  rw [show strsG ps = ps.map fun l => V.str (tx l) from rfl, inV_tx]
  exact q
theorem str_strsG {p : List Nat} {ps : List (List Nat)} : V.str (tx p) ∈ strsG ps ↔ p ∈ ps := mem_strsG.trans ⟨fun ⟨l, hl, e⟩ => by
  have e : p = l := by
    injection e with e
    exact tx_inj.mp e
  exact e ▸ hl, fun h => ⟨p, h, rfl⟩⟩
theorem getDV_mem {xs : List V} {k : Nat} (h : k < xs.length) : xs.getD k .non ∈ xs := by
  rw [List.getD_eq_getElem?_getD, List.getElem?_eq_getElem h]
  exact List.getElem_mem h
/-- no kinds of a plan -/
def BadKC (H : Hp) (v : V) : Prop := OddV H v ∨ ∃ l : List Nat, v = .str (tx l) ∧ l.length < 1000 ∧ ¬ ((∀ c ∈ l, c ∈ LET) ∧ l.Nodup)
theorem BadKC.ext {H H1 : Hp} {v : V} (h : BadKC H v) (e : LamX.ExtN H H1) : BadKC H1 v := h.imp (fun z => z.ext e) id
theorem BadKC.pen {H H1 : Hp} {v : V} {g : Pen} {n : Nat} (h : BadKC H v) (p : PenAt g H n) (k : Keep g.p H H1) : BadKC H1 v := h.imp (fun z => z.pen p k) id
theorem BadKC.plain {H : Hp} {v : V} (h : BadKC H v) : Plainly v := by
  rcases h with h | ⟨l, rfl, _⟩
  · exact h.plain
  · exact .inl rfl
theorem BadKC.bool {K : PySem.W.Frag} {H : Hp} {v : V} (h : BadKC H v) : ∃ b, BoolSt K H v b := by
  rcases h with h | ⟨l, rfl, _⟩
  · exact h.bool
  · exact ⟨_, boolSt_str⟩
theorem BadKC.bad {K : PySem.W.Frag} {H : Hp} {v : V} (h : BadKC H v) : BadKs K H v := by
  rcases h with h | h
  · exact .inl h.nv
  · exact .inr h
/-- no kind's name -/
def NameC (H : Hp) (ls : List Nat) (v : V) : Prop := OddV H v ∨ ∃ l : List Nat, v = .str (tx l) ∧ (∀ k ∈ ls, l ≠ [k]) ∧ l.length ≤ 1000
theorem NameC.ext {H H1 : Hp} {ls : List Nat} {v : V} (h : NameC H ls v) (e : LamX.ExtN H H1) : NameC H1 ls v := h.imp (fun z => z.ext e) id
theorem NameC.pen {H H1 : Hp} {ls : List Nat} {v : V} {g : Pen} {n : Nat} (h : NameC H ls v) (p : PenAt g H n) (k : Keep g.p H H1) : NameC H1 ls v := h.imp (fun z => z.pen p k) id
theorem NameC.plain {H : Hp} {ls : List Nat} {v : V} (h : NameC H ls v) : Plainly v := by
  rcases h with h | ⟨l, rfl, _⟩
  · exact h.plain
  · exact .inl rfl
theorem NameC.bool {K : PySem.W.Frag} {H : Hp} {ls : List Nat} {v : V} (h : NameC H ls v) : ∃ b, BoolSt K H v b := by
  rcases h with h | ⟨l, rfl, _⟩
  · exact h.bool
  · exact ⟨_, boolSt_str⟩
theorem NameC.no {K : PySem.W.Frag} {H : Hp} {ls : List Nat} {v : V} (h : NameC H ls v) : NoKind K H ls v := by
  rcases h with h | ⟨l, e, a, b⟩
  · exact .inl (h.nv.now)
  · exact .inr ⟨l, e, a, by omega⟩
theorem walk_lstV {K : PySem.W.Frag} {a : Addr} {xs : List V} : Walk (Itl K a) xs.length (fun H => SqL K H a xs) (fun k H x H' => H' = H ∧ x = xs.getD k .non) := by
  refine (walk_list (K := K) (a := a) (xs := xs)).mono (fun _ z => z) fun i H x H' hi _ y => ?_
  obtain ⟨rfl, e⟩ := y
  refine ⟨rfl, ?_⟩
  rw [List.getD_eq_getElem?_getD, e]
  rfl
section
variable {P : Program} {w : World} {K : PySem.W.Frag} {mg : Str → Option Value} {base : Heap} {C IP SK TM IK G e0 : Addr} {st1 st2 st3 st4 : Stmt} {Ts : List (Addr × Str)} {c Pt : Addr}
abbrev stlaw : Stmt := (top 30)
abbrev Nlaw : List Str := ["_law_script", "_law_pen_here", "_law_lap", "_law_kinds", "_law_pairs", "_law_more", "_law_many", "_law_told_here", "_law_given", "_law_due", "_law_k", "_law_odd", "_law_at", "_law_good", "_law_wrong", "_law_name", "_law_one", "_law_letter"]
theorem sclaw : FnScope Nlaw ["_law_script"] (defScope stlaw) := ⟨rfl, rfl, rfl, by decide +kernel, rfl, by decide +kernel, by decide +kernel⟩

theorem ok_law {f : Addr} {fd : FuncData} (F : FunC K "law" "law" stlaw f fd c) (F_told : FnAt K mg "_law_told" sttold) (T : Txt04 P K mg C IP SK TM IK G st1 st2 st3 st4) (TBl : LamX.TabB base mg c Pt) (hmL : (Pt, ("law" : Str) ++ ".<locals>." ++ "<lambda>") ∈ Ts) (huL : ∀ p ∈ Ts, p.1 = Pt → p.2 = ("law" : Str) ++ ".<locals>." ++ "<lambda>")
    (D_pen : Def P w K mg base CX0 1 "_law_pen" ["_law_script"] (spPen K)) (D_draw : Def P w K mg base CX0 1 "_law_draw" ["_law_pen_here", "_law_many"] spDraw) (D_pick : Def P w K mg base CX0 2 "_law_pick" ["_law_pen_here", "_law_items"] spPick) (D_plan : Def P w K mg base CX0 3 "_law_plan" ["_law_pen_here", "_law_most"] spLPlan) (D_like : Def P w K mg base CX0 1 "_law_like" ["_law_one", "_law_other"] (spLike K)) (D_put_together : Def P w K mg base CX0 9 "_law_put_together" ["_law_pen_here", "_law_one", "_law_more"] (spLPut K C Ts))
    (C_Plan : CDef P w K mg base CX0 3 "Plan" C (spPlan K C)) (C_PlanE : CDef P w K mg base (L2.CX P w) 4 "Plan" C (spPlanE K C IP TM)) (M_Plan_crossesE : MDef P w K mg base (L2.CX P w) 4 C "crosses" ["self", "a", "b"] (spCrossesE K C IK)) : FnOk P w K mg base CX0 11 f fd ["_law_script"] (spLawT K Ts) := by
  refine F.ok sclaw (fun vs H Q E h => ?_) (fun A outer s H vs Q E hr h => ?_)
  · obtain ⟨a, ns, rfl, _⟩ := h
    rfl
  obtain ⟨sc, ns, rfl, ha, hn, t0, k⟩ := h
  have hu := hu_of hr
  have nd := sclaw.nd
  replace D_pen := D_pen.mono (show 1 ≤ 10 by decide)
  replace D_draw := D_draw.mono (show 1 ≤ 10 by decide)
  replace D_pick := D_pick.mono (show 2 ≤ 10 by decide)
  replace D_plan := D_plan.mono (show 3 ≤ 10 by decide)
  replace D_like := D_like.mono (show 1 ≤ 10 by decide)
  replace D_put_together := D_put_together.mono (show 9 ≤ 10 by decide)
  replace C_Plan := C_Plan.mono (show 3 ≤ 9 by decide)
  replace C_PlanE := C_PlanE.mono (show 4 ≤ 5 by decide)
  replace M_Plan_crossesE := M_Plan_crossesE.mono (show 4 ≤ 6 by decide)
  refine ⟨_, (pss_cons (ps_set (i := 1) nd rfl (Or.inl rfl) (pe_cd D_pen hr pass0 (pa_cons (pv 0) pa_nil)))
      (pss_cons (ps_for PassesOwn.never rfl (pi_range1 (by rfl) T.range (pa_cons (pe_op op_add pe_int (pe_callB (call_min2 rfl) (by rfl) T.min (by decide +kernel) (pa_cons pe_int (pa_cons (pe_callB (c_lenK (K := K) rfl) (by rfl) T.len PySem.boot_len (pa_cons (pv 0) pa_nil)) pa_nil)))) pa_nil)) (pg_name (i := 2) nd rfl (Or.inl rfl))
      (pss_cons (ps_asg (pe_cd D_plan hr pass0 (pa_cons (pv 1) (pa_cons pe_int pa_nil))) (pg_tup rfl (pgs_cons (pg_name (i := 3) nd rfl (Or.inr rfl)) (pgs_cons (pg_name (i := 4) nd rfl (Or.inl rfl)) pgs_nil))))
        (pss_cons (ps_set (i := 5) nd rfl (Or.inl rfl) (pe_joinK (K := K) rfl (pe_tx [] (by decide +kernel)) (pe_lc (own := [("_law_letter", 17)]) (g := gName 17) (by rfl) nd (pi_str (pe_tx [122, 121, 120, 119, 118, 117, 116, 115, 114, 113] (by decide +kernel))) (blkOk_by (own := [("_law_letter", 17)]) (N := Nlaw) (sc := defScope stlaw) (by decide +kernel)) (fun _ _ _ _ _ => (pg_name (i := 17) nd rfl (Or.inl rfl))) (fun _ _ _ _ _ => (pts_one (pt_cmpR op_notInS (pv 17) (pv 3) (by rfl)))) (fun _ _ _ _ _ => (pv 17)))))
        (pss_cons (ps_set (i := 6) nd rfl (Or.inl rfl) (pe_cd D_pick hr pass0 (pa_cons (pv 1) (pa_cons (pe_lst (pa_cons pe_int (pa_cons pe_int (pa_cons pe_int (pa_cons (pe_op op_sub pe_int (pe_callB c_lenS (by rfl) T.len PySem.boot_len (pa_cons (pv 3) pa_nil))) pa_nil))))) pa_nil))))
        (pss_cons (ps_asg (pe_tup (pa_cons (pe_op op_addS (pv 3) (pe_slice sl_S (pv 5) po_none (po_some (pe_callB (call_max2 rfl) (by rfl) T.max (by decide +kernel) (pa_cons pe_int (pa_cons (pv 6) pa_nil)))))) (pa_cons (pe_callTy (c_listK (K := K) rfl) (by rfl) T.list (by decide +kernel) (pa_cons (pv 4) pa_nil)) pa_nil))) (pg_tup rfl (pgs_cons (pg_name (i := 7) nd rfl (Or.inr rfl)) (pgs_cons (pg_name (i := 8) nd rfl (Or.inr rfl)) pgs_nil))))
        (pss_cons (ps_set (i := 9) nd rfl (Or.inl rfl) (pe_cut (pe_ifExp (pt_cmpR op_gt (pe_callB c_lenS (by rfl) T.len PySem.boot_len (pa_cons (pv 7) pa_nil)) pe_int (nomark _)) (pe_tup (pa_cons (pe_tx [109, 97, 110, 121] (by decide +kernel)) (pa_cons pe_int pa_nil))) pe_non)))
        (pss_cons (ps_for PassesOwn.never rfl (pi_range1 (by rfl) T.range (pa_cons (pe_cd D_draw hr pass0 (pa_cons (pv 1) (pa_cons pe_int pa_nil))) pa_nil)) (pg_name (i := 10) nd rfl (Or.inl rfl))
        (pss_cons (ps_set (i := 11) nd rfl (Or.inl rfl) (pe_cd D_pick hr pass0 (pa_cons (pv 1) (pa_cons (pe_lst (pa_cons pe_non (pa_cons pe_bl (pa_cons pe_int (pa_cons (pe_tx [] (by decide +kernel)) (pa_cons (pe_tx [97] (by decide +kernel)) (pa_cons (pe_tx [97, 98, 99] (by decide +kernel)) (pa_cons (pe_op op_mulS (pe_slice sl_S (pv 3) po_none (po_some pe_int)) pe_int) (pa_cons (pe_op op_addS (pe_slice sl_S (pv 3) po_none (po_some pe_int)) (pe_tx [65] (by decide +kernel))) (pa_cons (pe_lst (pa_cons (pe_tx [97, 98] (by decide +kernel)) pa_nil)) (pa_cons (pe_tup (pa_cons (pe_tx [97] (by decide +kernel)) (pa_cons (pe_tx [98] (by decide +kernel)) pa_nil))) (pa_cons (pe_op op_addS (pe_slice sl_S (pv 3) po_none (po_some pe_int)) (pe_ix ix_str (pv 5) (pe_un un_neg pe_int) (fun _ _ => rfl))) (pa_cons (pe_tx [32, 32] (by decide +kernel)) pa_nil))))))))))))) pa_nil))))
          (pss_cons (ps_set (i := 12) nd rfl (Or.inl rfl) (pe_cd D_draw hr pass0 (pa_cons (pv 1) (pa_cons (pe_op op_add (pe_callB (c_lenK (K := K) rfl) (by rfl) T.len PySem.boot_len (pa_cons (pv 8) pa_nil)) pe_int) pa_nil))))
          (pss_one (ps_set (i := 8) nd rfl (Or.inr rfl) (pe_op op_cat1 (pe_op op_cat1 (pe_slice (sl_LK (K := K) rfl) (pv 8) po_none (po_some (pv 12))) (pe_lst (pa_cons (pv 11) pa_nil))) (pe_slice (sl_LK (K := K) rfl) (pv 8) (po_some (pv 12)) po_none)))))))
        (pss_cons (ps_set (i := 13) nd rfl (Or.inr rfl) (pv 4))
        (pss_cons (ps_setLc (i := 14) (own := [("_law_one", 16)]) (g := gName 16) (by rfl) nd rfl rfl (sw_true rfl rfl rfl (by decide +kernel)) (pi_listK (K := K) rfl (pv 8)) (blkOk_by (own := [("_law_one", 16)]) (N := Nlaw) (sc := defScope stlaw) (by decide +kernel)) (fun _ _ _ _ _ => (pg_name (i := 16) nd rfl (Or.inl rfl))) (fun _ _ _ _ _ => (pts_one (PW.pt (pw_or (pt_not (pt_val (pe_callB (c_isiK (K := K) rfl) (by rfl) T.isinstance (by decide +kernel) (pa_cons (pv 16) (pa_cons (pe_bltn (v := .ty "str") (u := .type "str") (by rfl) T.str (by decide +kernel) rfl) pa_nil))))) (pw_or1 (pt_cmpR (op_notInLK (K := K) rfl) (pv 16) (pv 13) (by rfl))))))) (fun _ _ _ _ _ => (pv 16)))
        (pss_cutS (ps_if (pt_cmpR (op_neL (K := K) rfl (Nat.lt_of_le_of_lt (Nat.le_add_right _ 64) hr.units)) (pv 14) (pe_lst pa_nil) (nomark _))
        (pss_one (ps_set (i := 9) nd rfl (Or.inl rfl) (pe_tup (pa_cons (pe_tx [112, 108, 97, 110] (by decide +kernel)) (pa_cons (pe_ix (ix_LK (K := K) rfl) (pv 14) pe_int (fun _ _ => rfl)) pa_nil)))))
        pss_nil)
        (pss_cutS (ps_if (pt_cmpR op_eq (pe_cd D_draw hr pass0 (pa_cons (pv 1) (pa_cons pe_int pa_nil))) pe_int (nomark _))
        (pss_cons (ps_set (i := 7) nd rfl (Or.inr rfl) (pe_cd D_pick hr pass0 (pa_cons (pv 1) (pa_cons (pe_lst (pa_cons pe_non (pa_cons pe_int (pa_cons (pe_lst (pa_cons (pe_tx [97] (by decide +kernel)) pa_nil)) (pa_cons (pe_op op_addS (pv 7) (pe_tx [90] (by decide +kernel))) (pa_cons (pe_op op_addS (pe_op op_addS (pv 7) (pe_slice sl_S (pv 7) po_none (po_some pe_int))) (pe_tx [97, 97] (by decide +kernel))) (pa_cons (pe_tx [97, 32, 98] (by decide +kernel)) (pa_cons pe_bl (pa_cons (pe_tup (pa_cons (pe_tx [97] (by decide +kernel)) pa_nil)) pa_nil))))))))) pa_nil))))
          (pss_one (ps_set (i := 9) nd rfl (Or.inl rfl) (pe_tup (pa_cons (pe_tx [112, 108, 97, 110] (by decide +kernel)) (pa_cons (pv 7) pa_nil))))))
        pss_nil)
        (pss_cons (ps_if (pt_cut (pt_not (pt_val (pe_cd D_like hr pass0 (pa_cons (pe_told02 F_told T.toTxt02 TBl hmL huL (hr.mono (by decide)) (by decide) (LamX.lamS_by (show LamX.lamSB (defScope stlaw) _ = true by decide +kernel)) (fun A outer s H E f c hr => (pe_mk C_PlanE hr (passes_call (takes_of rfl rfl rfl rfl) (fun _ _ _ _ h => h)) (pa_cons (pv 7) (pa_cons (pv 8) pa_nil))))) (pa_cons (pv 9) pa_nil))))))
        (pss_one (ps_ret pe_bl))
        pss_nil)
        (pss_cons (ps_if (pt_not (pt_val (pe_cd D_put_together hr pass0 (pa_cons (pv 1) (pa_cons (pe_mk C_Plan hr pass0 (pa_cons (pv 3) (pa_cons (pv 4) pa_nil))) (pa_cons (pv 5) pa_nil))))))
        (pss_one (ps_ret pe_bl))
        pss_nil)
        (pss_cons (ps_set (i := 15) nd rfl (Or.inr rfl) (pe_cd D_pick hr pass0 (pa_cons (pv 1) (pa_cons (pe_lst (pa_cons (pe_tx [] (by decide +kernel)) (pa_cons (pe_tx [97, 98] (by decide +kernel)) (pa_cons pe_non (pa_cons pe_int (pa_cons (pe_ix ix_str (pv 5) pe_int (fun _ _ => rfl)) (pa_cons (pe_tx [65] (by decide +kernel)) (pa_cons pe_bl (pa_cons (pe_tup (pa_cons (pe_tx [97] (by decide +kernel)) pa_nil)) pa_nil))))))))) pa_nil))))
        (pss_cons (ps_set (i := 16) nd rfl (Or.inr rfl) (pe_mk C_Plan hr pass0 (pa_cons (pv 3) (pa_cons (pv 4) pa_nil))))
        (pss_cutS (ps_if (PW.pt (pw_and (pt_cmpR op_ne (pv 3) (pe_tx [] (by decide +kernel)) (nomark _)) (pw_and1 (pt_cut (pt_not (pt_val (pe_cd D_like hr pass0 (pa_cons (pe_told02 F_told T.toTxt02 TBl hmL huL (hr.mono (by decide)) (by decide) (LamX.lamS_by (show LamX.lamSB (defScope stlaw) _ = true by decide +kernel)) (fun A outer s H E f c hr => (pe_md M_Plan_crossesE T.Plan.cl hr (passes_call (takes_of rfl rfl rfl rfl) (fun _ _ _ _ h => h)) (pv 16) (pa_cons (pe_ix ix_str (pv 3) pe_int (fun _ _ => rfl)) (pa_cons (pv 15) pa_nil))))) (pa_cons (pe_tup (pa_cons (pe_tx [107, 105, 110, 100] (by decide +kernel)) (pa_cons (pv 15) pa_nil))) pa_nil)))))))))
        (pss_one (ps_ret pe_bl))
        pss_nil)
        (pss_one (ps_if (pt_cut (pt_not (pt_val (pe_cd D_like hr pass0 (pa_cons (pe_told02 F_told T.toTxt02 TBl hmL huL (hr.mono (by decide)) (by decide) (LamX.lamS_by (show LamX.lamSB (defScope stlaw) _ = true by decide +kernel)) (fun A outer s H E f c hr => (pe_md M_Plan_crossesE T.Plan.cl hr (passes_call (takes_of rfl rfl rfl rfl) (fun _ _ _ _ h => h)) (pv 16) (pa_cons (pv 15) (pa_cons pe_non pa_nil))))) (pa_cons (pe_tup (pa_cons (pe_tx [107, 105, 110, 100] (by decide +kernel)) (pa_cons (pv 15) pa_nil))) pa_nil))))))
        (pss_one (ps_ret pe_bl))
        pss_nil))))))))))))))))))
      (pss_one (ps_ret pe_bl)))), ?_⟩
  refine s_start [some _, none, none, none, none, none, none, none, none, none, none, none, none, none, none, none, none, none] rfl ?_
  walk_at "go"
  refine ⟨sc, ns, rfl, ha, hn, fun g H1 p1 s1 hg => ?_⟩
  have t1 := tabs_same t0 s1
  walk_at "go"
  refine ⟨sc, _, rfl, .inl (sqL_same ha s1), ?_⟩
  walk_at "go"
  refine ⟨_, _, rfl, ?_⟩
  walk_at "go"
  have hm : (3 + (if ((ns.map V.int).length : Int) < 6 then ((ns.map V.int).length : Int) else 6)).toNat ≤ 9 := by split <;> omega
  refine for_it (walk_rI (fun i => ((i : Nat) : Int)) (fun k => Int.zero_add _)) (fun i σ H' => ∃ x2 x3 x4 x5 x6 x7 x8 x9 x10 x11 x12 x13 x14 x15 x16, σ = [some (.ref sc), some (.ref g.p), x2, x3, x4, x5, x6, x7, x8, x9, x10, x11, x12, x13, x14, x15, x16, none] ∧ PenAt g H' (1000 * i) ∧ LamX.Tabs Ts H') ⟨_, _, _, _, _, _, _, _, _, _, _, _, _, _, _, rfl, p1, t1⟩ (fun _ _ _ _ _ => trivial) ?_ ?_
  · rintro i v σ H2 H3 hi ⟨x2, x3, x4, x5, x6, x7, x8, x9, x10, x11, x12, x13, x14, x15, x16, rfl, p3, t3⟩ ⟨rfl, rfl⟩
    refine g_nm ?_
    refine s_hide fun Dn hDn => ?_
    walk_at "go"
    refine ⟨g, 1000 * i, rfl, p3, by omega, fun q0 q ls ps H4 hq L e0 e4 p4 k4 => ?_⟩
    refine v_gTup2 rfl e0 ?_
    have t4 := tabs_pen t3 p3 k4
    have nqp := (p3.p_ne hq).symm
    have l8 := L.l8
    have lp := L.lp
    have pin := L.prs.pin
    clear e0 p3 t3 k4 hq t1 p1
    walk_at "go"
    refine v_lcS (l := ZQ) (b := fun c => !decide (c ∈ ls)) (f := fun c => V.str (tx [c])) (by decide) (fun c _ Ha sa R r => ?_) (fun c _ _ Ha sa R r => ?_) (fun D H5 hD s5 e5 => ?_)
    · walk_at "go"
      exact r Ha (Same.refl _)
    · walk_at "go"
      exact r Ha (Same.refl _)
    have M : MoreOf ls (moreL ls) := more_of L.nd
    have e5 : H5 D = some (.lst ((moreL ls).map fun c => V.str (tx [c]))) := e5
    generalize moreL ls = mr at M e5
    have lm := M.le
    have lg := M.ge
    have e5 : H5 D = some (.lst ((mr.map fun c => [c]).map fun l => V.str (tx l))) := by rw [e5, List.map_map]; rfl
    refine v_join e5 (by rw [flat_ones]; omega) ?_
    rw [flat_ones]
    walk_at "go"
    intro q1 H6 hq1 s6 e6
    have p6 := (p4.same s5).same s6
    have nq1 : q1 ≠ g.p := ((p4.same s5).p_ne hq1).symm
    walk_at "go"
    refine ⟨g, _, q1, _, rfl, e6, by simp, by simp, p6, by omega, nq1, fun v H7 hv p7 k7 => ?_⟩
    obtain ⟨mi, hmi, rfl⟩ : ∃ mi : Int, (mi = 0 ∨ mi = 9 - (ls.length : Int)) ∧ v = .int mi := by
      simp only [List.mem_cons, List.not_mem_nil, or_false] at hv
      rcases hv with rfl | rfl | rfl | rfl
      · exact ⟨_, .inl rfl, rfl⟩
      · exact ⟨_, .inl rfl, rfl⟩
      · exact ⟨_, .inl rfl, rfl⟩
      · exact ⟨_, .inr rfl, rfl⟩
    have t7 := tabs_pen (tabs_same (tabs_same t4 s5) s6) p6 k7
    have e7 := k7 _ _ (s6 _ _ (s5 _ _ e4)) nqp
    clear hv e6 e5 s5 s6 k7 p6 p4 t4 e4 hq1 nq1 hD
    obtain ⟨m, rfl⟩ : ∃ m : Nat, mi = (m : Int) := ⟨mi.toNat, by omega⟩
    have hm' : m = 0 ∨ m = 9 - ls.length := by omega
    walk_at "go"
    refine ⟨_, _, rfl, _, rfl, ?_⟩
    rw [show (if ((m : Nat) : Int) > 0 then ((m : Nat) : Int) else 0) = ((m : Nat) : Int) by split <;> omega]
    refine v_slTo (by omega) (by omega) ?_
    rw [show ((m : Nat) : Int).toNat = m by omega]
    have TK := toldK_of (K := K) (H := H7) M L.nd L.lt l8 hm'
    refine v_addS (by rw [List.length_take]; omega) ?_
    generalize ls ++ mr.take m = told at TK ⊢
    have ltd := TK.le
    walk_at "go"
    refine v_list (SqL.of e7) fun q2 H8 hq2 s8 e8 => ?_
    have nq2 : q2 ≠ g.p := (p7.p_ne hq2).symm
    walk_at "go"
    intro q3 H9 hq3 s9 e9
    refine v_gTup2 rfl e9 ?_
    have s79 := s8.trans s9
    have t9 := tabs_same t7 s79
    have p9 := p7.same s79
    have e9q := s79 _ _ e7
    have e9g := s9 _ _ e8
    clear e9 s8 s9 s79 t7 p7 e7 e8 hq3 hq2
    walk_at "go"
    have ltd6 : told.length ≤ 1000000 := by omega
    refine e_cut (fun v H' => Same H9 H' ∧ DueIs H' v (if 8 < told.length then some ([109, 97, 110, 121], V.int 8) else none)) ?_ ?_
    · walk_at "go"
      refine if_dec (fun c => ?_) (fun c => ?_)
      · walk_at "go"
        intro q Ha hq sa ea
        rw [if_pos (by omega)]
        exact ⟨sa, .inl rfl, q, rfl, ea⟩
      · walk_at "go"
        rw [if_neg (by omega)]
        exact ⟨Same.refl _, rfl⟩
    rintro v9 H10 ⟨s10, due10⟩
    have t10 := tabs_same t9 s10
    have p10 := p9.same s10
    have e10q := s10 _ _ e9q
    have e10g := s10 _ _ e9g
    clear t9 p9 e9q e9g s10
    generalize hdu : (if 8 < told.length then some (([109, 97, 110, 121] : List Nat), V.int 8) else none) = due at due10
    refine (show tSeq _ _ _ [some (.ref sc), some (.ref g.p), some (.int (i : Nat)), some (.str (tx ls)), some (.ref q), some (.str (tx mr)), some (.int (m : Nat)), some (.str (tx told)), some (.ref q2), some v9, x10, x11, x12, x13, x14, x15, x16, none] _ from ?_)
    walk_at "go"
    refine ⟨g, 3, _, rfl, by omega, by omega, p10, by omega, fun z H11 z0 z1 p11 k11 => ?_⟩
    have t11 := tabs_pen t10 p10 k11
    have e11q := k11 _ _ e10q nqp
    have e11g := k11 _ _ e10g nq2
    have due11 := due10.pen p10 k11
    have pinT : PairsIn told ps := pin.mono TK.sub
    have lsP : (strsG ps).length = ps.length := strsG_len ps
    clear t10 p10 e10q e10g k11 due10
    walk_at "go"
    refine for_it (walk_rI (fun j => ((j : Nat) : Int)) (fun k => Int.zero_add _)) (fun j σ H' => ∃ y10 y11 y12 gq xs, σ = [some (.ref sc), some (.ref g.p), some (.int (i : Nat)), some (.str (tx ls)), some (.ref q), some (.str (tx mr)), some (.int (m : Nat)), some (.str (tx told)), some (.ref gq), some v9, y10, y11, y12, x13, x14, x15, x16, none] ∧ H' gq = some (.lst xs) ∧ gq ≠ g.p ∧ (∀ v ∈ xs, ElemC H' told ps v) ∧ xs.length ≤ 64 + j ∧ PenAt g H' (1000 * i + 110 + 3 * j) ∧ LamX.Tabs Ts H' ∧ DueIs H' v9 due ∧ H' q = some (.lst (strsG ps))) ⟨_, _, _, q2, _, rfl, e11g, nq2, fun v hv => .inl (mem_strsG.mp hv), by omega, p11.mono (by omega), t11, due11, e11q⟩ (fun _ _ _ _ _ => trivial) ?_ ?_
    · rintro j v σ H12 H13 hj ⟨y10, y11, y12, gq, xs, rfl, eg, nqg, el, lx, p12, t12, due12, eq12⟩ ⟨rfl, rfl⟩
      refine g_nm ?_
      refine s_hide fun Dm hDm => ?_
      have hj2 : j < 2 := by omega
      have hl1 : (ls.take 1).length ≤ 1 := List.length_take_le _ _
      obtain ⟨zl, hzl, hzm⟩ : ∃ zl, atI mr (-1) = some zl ∧ mr.getLast? = some zl := by
        have hp : mr.length - 1 < mr.length := by omega
        refine ⟨mr[mr.length - 1], ?_, by rw [List.getLast?_eq_getElem?, List.getElem?_eq_getElem hp]⟩
        unfold atI ixN
        rw [if_neg (by omega), if_pos (by omega)]
        show mr[((-1 : Int) + (mr.length : Int)).toNat]? = _
        rw [show ((-1 : Int) + (mr.length : Int)).toNat = mr.length - 1 by omega, List.getElem?_eq_getElem hp]
      have hz := TK.last zl hzm
      have h65 : ¬ 65 ∈ told := fun h => by have := LET_lt (TK.lt _ h); omega
      walk_at "go"
      refine v_slTo (by omega) (by omega) ?_
      rw [show ((1 : Int)).toNat = 1 from rfl]
      walk_at "go"
      refine v_mulS (by decide) (by decide) ?_ ?_
      · rw [show ((2 : Int)).toNat = 2 from rfl]; omega
      rw [show ((2 : Int)).toNat = 2 from rfl]
      walk_at "go"
      refine v_slTo (by omega) (by omega) ?_
      rw [show ((1 : Int)).toNat = 1 from rfl]
      walk_at "go"
      intro b1 H14 hb1 s14 e14
      walk_at "go"
      intro b2 H15 hb2 s15 e15
      walk_at "go"
      refine v_slTo (by omega) (by omega) ?_
      rw [show ((1 : Int)).toNat = 1 from rfl]
      walk_at "go"
      refine ⟨1, rfl, ?_⟩
      refine v_ixS (by omega) hzl ?_
      walk_at "go"
      intro b3 H16 hb3 s16 e16
      have s1316 := (s14.trans s15).trans s16
      have p16 := p12.same s1316
      have eb1 := s16 _ _ (s15 _ _ e14)
      have eb2 := s16 _ _ e15
      have n3 : b3 ≠ g.p := (((p12.same s14).same s15).p_ne hb3).symm
      walk_at "go"
      refine ⟨g, _, b3, _, rfl, e16, by simp, by simp, p16, by omega, n3, fun u H17 hu17 p17 k17 => ?_⟩
      have elu : ElemC H16 told ps u := by
        simp only [List.mem_cons, List.not_mem_nil, or_false] at hu17
        rcases hu17 with rfl | rfl | rfl | rfl | rfl | rfl | rfl | rfl | rfl | rfl | rfl | rfl
        · exact .inr (.inl (.inl rfl))
        · exact .inr (.inl (.inr (.inl ⟨_, rfl⟩)))
        · exact .inr (.inl (.inr (.inr (.inl ⟨_, rfl⟩))))
        · exact .inr (.inr ⟨_, rfl, by decide, noPair_len (by decide)⟩)
        · exact .inr (.inr ⟨_, rfl, by decide, noPair_len (by decide)⟩)
        · exact .inr (.inr ⟨_, rfl, by decide, noPair_len (by decide)⟩)
        · refine .inr (.inr ⟨_, rfl, ?_, noPair_twice⟩)
          cases ls with
          | nil => decide
          | cons a r => simp
        · exact .inr (.inr ⟨_, rfl, by rw [List.length_append, List.length_singleton]; omega, noPair_cut h65⟩)
        · exact .inr (.inl (.inr (.inr (.inr ⟨_, _, rfl, .inl eb1⟩))))
        · exact .inr (.inl (.inr (.inr (.inr ⟨_, _, rfl, .inr eb2⟩))))
        · exact .inr (.inr ⟨_, rfl, by rw [List.length_append, List.length_singleton]; omega, noPair_cut hz⟩)
        · refine .inr (.inr ⟨_, rfl, by decide, ?_⟩)
          rintro ⟨a, b, e, n, _, _⟩
          cases e
          exact n rfl
      have el16 : ∀ v ∈ xs, ElemC H16 told ps v := fun v hv => (el v hv).ext (ext_of s1316)
      have t17 := tabs_pen (tabs_same t12 s1316) p16 k17
      have e17g := k17 _ _ (s1316 _ _ eg) nqg
      have e17q := k17 _ _ (s1316 _ _ eq12) nqp
      have due17 := (due12.same s1316).pen p16 k17
      have el17 : ∀ v ∈ xs, ElemC H17 told ps v := fun v hv => (el16 v hv).pen p16 k17
      have elu17 := elu.pen p16 k17
      clear hu17 el el16 elu eb1 eb2 e14 e15 e16 s14 s15 s16 s1316 k17 t12 p12 p16 eg eq12 due12 hb1 hb2 hb3 n3
      walk_at "go"
      refine ⟨g, xs.length + 1, _, by push_cast; rfl, by omega, by omega, p17, by omega, fun z2 H18 z20 z21 p18 k18 => ?_⟩
      obtain ⟨a, rfl⟩ : ∃ a : Nat, z2 = (a : Int) := ⟨z2.toNat, by omega⟩
      have t18 := tabs_pen t17 p17 k18
      have e18g := k18 _ _ e17g nqg
      have e18q := k18 _ _ e17q nqp
      have due18 := due17.pen p17 k18
      have el18 : ∀ v ∈ xs, ElemC H18 told ps v := fun v hv => (el17 v hv).pen p17 k18
      have elu18 := elu17.pen p17 k18
      clear el17 elu17 k18 t17 p17 e17g e17q due17
      walk_at "go"
      refine v_slL (SqL.of e18g) fun c1 H19 hc1 s19 e19 => ?_
      rw [cutV_head] at e19
      walk_at "go"
      intro c2 H20 hc2 s20 e20
      refine v_cat (s20 _ _ e19) e20 (by rw [List.length_take, List.length_singleton]; omega) fun c3 H21 hc3 s21 e21 => ?_
      walk_at "go"
      refine v_slL (SqL.of (s21 _ _ (s20 _ _ (s19 _ _ e18g)))) fun c4 H22 hc4 s22 e22 => ?_
      rw [cutV_tail] at e22
      refine v_cat (s22 _ _ e21) e22 (by rw [List.length_append, List.length_take, List.length_drop, List.length_singleton]; omega) fun c5 H23 hc5 s23 e23 => ?_
      walk_at "go"
      have s1823 := (((s19.trans s20).trans s21).trans s22).trans s23
      have p22 := ((((p18.same s19).same s20).same s21).same s22)
      refine hDm _ _ ⟨_, _, _, c5, _, rfl, e23, (p22.p_ne hc5).symm, fun v hv => ?_, ?_, (p22.same s23).mono (by omega), tabs_same t18 s1823, due18.same s1823, s1823 _ _ e18q⟩
      · rcases List.mem_append.mp hv with hv | hv
        · rcases List.mem_append.mp hv with hv | hv
          · exact (el18 v (List.mem_of_mem_take hv)).ext (ext_of s1823)
          · rw [List.mem_singleton.mp hv]
            exact elu18.ext (ext_of s1823)
        · exact (el18 v (List.mem_of_mem_drop hv)).ext (ext_of s1823)
      · rw [List.length_append, List.length_append, List.length_take, List.length_drop, List.length_singleton]
        omega
    rintro σ H12 ⟨y10, y11, y12, gq, xs, rfl, eg, nqg, el, lx, p12, t12, due12, eq12⟩
    clear t11 due11 e11q e11g p11
    walk_at "go"
    refine lc_gen (n := xs.length) (b := fun k => !decide (xs.getD k .non ∈ strsG ps)) (it := fun k => xs.getD k .non) (f := fun k => xs.getD k .non) (walk_lstV (K := K)) (fun H' s' => SqL.of (s' _ _ eg)) (by omega) (fun k hk Ha sa R r => ?_) (fun k hk _ Ha sa R r => ?_) (fun D H13 hD s13 e13 => ?_)
    · have ek := el (xs.getD k .non) (getDV_mem hk)
      generalize xs.getD k .non = u at ek r ⊢
      rcases ek with ⟨p, hp, rfl⟩ | od | ⟨l, rfl, hl, nb⟩
      · walk_at "go"
        refine v_notInT (sa _ _ eq12) ?_
        walk_at "go"
        rw [decide_eq_decide.mpr str_strsG] at r
        exact r Ha (Same.refl _)
      · walk_at "go"
        refine v_isiN (((od.ext (ext_of sa)).nv).now) ?_
        walk_at "go"
        rw [decide_eq_false (fun m => by
          obtain ⟨p, _, e⟩ := mem_strsG.mp m
          exact od.ne e)] at r
        exact r Ha (Same.refl _)
      · walk_at "go"
        refine v_notInT (sa _ _ eq12) ?_
        walk_at "go"
        rw [decide_eq_decide.mpr str_strsG] at r
        exact r Ha (Same.refl _)
    · walk_at "go"
      exact r Ha (Same.refl _)
    rw [range_mapV xs (fun v => !decide (v ∈ strsG ps))] at e13
    have e13 : H13 D = some (.lst (wrongs ps xs)) := e13
    have wb0 : ∀ {H' : Hp}, (∀ v ∈ xs, ElemC H' told ps v) → ∀ u ∈ wrongs ps xs, Plainly u ∧ ∃ b, BoolSt K H' u b := fun {H'} el u hu => by
      have hu2 := (List.mem_filter.mp hu)
      have ng : ¬ u ∈ strsG ps := fun h => by
        have := hu2.2
        rw [decide_eq_true h] at this
        cases this
      rcases (el u hu2.1).elem (K := K) pinT with z | ⟨_, z1, z2, _⟩
      · exact absurd (mem_strsG.mpr z) ng
      · exact ⟨z1, z2⟩
    have wb := wb0 el
    generalize hws : wrongs ps xs = ws at e13 wb wb0
    have p13 := p12.same s13
    have t13 := tabs_same t12 s13
    have due13 := due12.same s13
    have eg13 := s13 _ _ eg
    have eq13 := s13 _ _ eq12
    have el13 : ∀ v ∈ xs, ElemC H13 told ps v := fun v hv => (el v hv).ext (ext_of s13)
    clear s13 hD p12 t12 due12 eq12 el eg
    obtain ⟨due2, hdue2⟩ : ∃ due2 : Option (List Nat × V), (match ws.head? with | some u => some (([112, 108, 97, 110] : List Nat), u) | none => due) = due2 := ⟨_, rfl⟩
    refine s_cut (fun σ H' => ∃ v9', σ = [some (.ref sc), some (.ref g.p), some (.int (i : Nat)), some (.str (tx ls)), some (.ref q), some (.str (tx mr)), some (.int (m : Nat)), some (.str (tx told)), some (.ref gq), some v9', y10, y11, y12, some (.ref q), some (.ref D), x15, x16, none] ∧ Same H13 H' ∧ DueIs H' v9' due2) ?_ ?_
    · walk_at "go"
      intro eq0 H14 he0 s14 e14
      cases ws with
      | nil =>
        refine ⟨D, eq0, _, _, rfl, rfl, SqL.of (s14 _ _ e13), SqL.of e14, .inr ⟨⟨[], rfl, rfl⟩, ?_⟩⟩
        walk_at "go"
        rw [← hdue2]
        exact ⟨_, rfl, s14, due13.same s14⟩
      | cons u r =>
        refine ⟨D, eq0, _, _, rfl, rfl, SqL.of (s14 _ _ e13), SqL.of e14, .inl ⟨(by simp), ?_⟩⟩
        walk_at "go"
        refine v_ixL (s14 _ _ e13) (atI_nat (j := 0) rfl) ?_
        walk_at "go"
        intro t H15 ht s15 e15
        walk_at "go"
        rw [← hdue2]
        exact ⟨_, rfl, s14.trans s15, (wb u (List.mem_cons_self ..)).1, t, rfl, e15⟩
    rintro σ H14 ⟨v9', rfl, s14, due14⟩
    have p14 := p13.same s14
    have t14 := tabs_same t13 s14
    have eg14 := s14 _ _ eg13
    have eq14 := s14 _ _ eq13
    have el14 : ∀ v ∈ xs, ElemC H14 told ps v := fun v hv => (el13 v hv).ext (ext_of s14)
    clear s14 p13 t13 due13 eg13 eq13 e13 el13 wb
    refine s_cut (fun σ H' => ∃ v7 v9', σ = [some (.ref sc), some (.ref g.p), some (.int (i : Nat)), some (.str (tx ls)), some (.ref q), some (.str (tx mr)), some (.int (m : Nat)), some v7, some (.ref gq), some v9', y10, y11, y12, some (.ref q), some (.ref D), x15, x16, none] ∧
      PenAt g H' (1000 * i + 130) ∧ LamX.Tabs Ts H' ∧ H' gq = some (.lst xs) ∧ H' q = some (.lst (strsG ps)) ∧ (∀ v ∈ xs, ElemC H' told ps v) ∧ ((v7 = .str (tx told) ∧ DueIs H' v9' due2) ∨ (BadKC H' v7 ∧ DueIs H' v9' (some ([112, 108, 97, 110], v7))))) ?_ ?_
    · walk_at "go"
      refine ⟨g, 4, _, rfl, by omega, by omega, p14, by omega, fun z3 H15 _ _ p15 k15 => ?_⟩
      have t15 := tabs_pen t14 p14 k15
      have eg15 := k15 _ _ eg14 nqg
      have eq15 := k15 _ _ eq14 nqp
      have due15 := due14.pen p14 k15
      have el15 : ∀ v ∈ xs, ElemC H15 told ps v := fun v hv => (el14 v hv).pen p14 k15
      clear p14 t14 eg14 eq14 due14 el14 k15
      walk_at "go"
      refine if_dec (fun _ => ?_) (fun _ => ?_)
      rotate_left
      · walk_at "go"
        exact ⟨_, _, rfl, p15.mono (by omega), t15, eg15, eq15, el15, .inl ⟨rfl, due15⟩⟩
      walk_at "go"
      intro b1 H16 hb1 s16 e16
      have lt1 : (told.take 1).length ≤ 1 := List.length_take_le _ _
      walk_at "go"
      refine v_slTo (by omega) (by omega) ?_
      rw [show ((1 : Int)).toNat = 1 from rfl]
      walk_at "go"
      case c =>
        simp only [List.length_append, List.length_cons, List.length_nil]
        omega
      walk_at "go"
      intro b2 H17 hb2 s17 e17
      walk_at "go"
      intro b3 H18 hb3 s18 e18
      have s1518 := (s16.trans s17).trans s18
      have p18 := p15.same s1518
      have eb1 := s18 _ _ (s17 _ _ e16)
      have eb2 := s18 _ _ e17
      have n3 : b3 ≠ g.p := (((p15.same s16).same s17).p_ne hb3).symm
      walk_at "go"
      refine ⟨g, _, b3, _, rfl, e18, by simp, by simp, p18, by omega, n3, fun u H19 hu19 p19 k19 => ?_⟩
      have bku : BadKC H18 u := by
        simp only [List.mem_cons, List.not_mem_nil, or_false] at hu19
        rcases hu19 with rfl | rfl | rfl | rfl | rfl | rfl | rfl | rfl
        · exact .inl (.inl rfl)
        · exact .inl (.inr (.inr (.inl ⟨_, rfl⟩)))
        · exact .inl (.inr (.inr (.inr ⟨_, _, rfl, .inl eb1⟩)))
        · refine .inr ⟨_, rfl, by rw [List.length_append, List.length_singleton]; omega, fun h => ?_⟩
          have := LET_lt (h.1 90 (by simp))
          omega
        · refine .inr ⟨_, rfl, ?_, fun h => ?_⟩
          · simp only [List.length_append, List.length_cons, List.length_nil]
            omega
          · have := (List.nodup_append.mp h.2).2.1
            revert this
            decide
        · exact .inr ⟨_, rfl, by decide, by decide +kernel⟩
        · exact .inl (.inr (.inl ⟨_, rfl⟩))
        · exact .inl (.inr (.inr (.inr ⟨_, _, rfl, .inr eb2⟩)))
      have t19 := tabs_pen (tabs_same t15 s1518) p18 k19
      have eg19 := k19 _ _ (s1518 _ _ eg15) nqg
      have eq19 := k19 _ _ (s1518 _ _ eq15) nqp
      have el19 : ∀ v ∈ xs, ElemC H19 told ps v := fun v hv => ((el15 v hv).ext (ext_of s1518)).pen p18 k19
      have bku19 := bku.pen p18 k19
      walk_at "go"
      intro b4 H20 hb4 s20 e20
      walk_at "go"
      exact ⟨_, _, rfl, (p19.same s20).mono (by omega), tabs_same t19 s20, s20 _ _ eg19, s20 _ _ eq19, (fun v hv => (el19 v hv).ext (ext_of s20)), .inr ⟨bku19.ext (ext_of s20), bku19.plain, b4, rfl, e20⟩⟩
    rintro σ H15 ⟨v7, v9', rfl, p15, t15, eg15, eq15, el15, cases7⟩
    clear p14 t14 eg14 eq14 due14 el14
    have U : ∃ psu, UptoB K H15 told xs psu ws.head? := by
      rw [← hws]
      exact upto_of pinT (fun v hv => (el15 v hv).elem (K := K) pinT) (show xs.length < 1000 by omega)
    have wb := wb0 el15
    obtain ⟨psu, U⟩ := U
    have fin : ∀ {od : Option (List Nat × V)} {v : V} {H' : Hp}, DueIs H' v od → DueIs H' v9' od → (∀ m u, od = some (m, u) → ∃ b, BoolIs K H' u b) → LamX.ExtN H15 H' → LamX.Tabs Ts H' → spLike K [v, v9'] H' (fun x H'' => ∃ k, x = V.bl k ∧ (!k) = false ∧ LamX.ExtN H15 H'' ∧ LamX.Tabs Ts H'') E0 := fun h1 h2 h3 h4 h5 => ⟨_, v9', _, rfl, h1, h2, h3, true, rfl, rfl, h4, h5⟩
    walk_at "go"
    refine t_cut (fun b H' => b = false ∧ LamX.ExtN H15 H' ∧ LamX.Tabs Ts H') ?_ ?_
    · walk_at "go"
      refine ⟨t15, fun H16 x16 t16 => ?_⟩
      unfold TT02
      dsimp only
      walk_at "go"
      rcases cases7 with ⟨rfl, due15⟩ | ⟨bk, due15⟩
      · refine ⟨_, gq, rfl, .inr ⟨told, xs, psu, ws.head?, rfl, .inl (x16 _ _ eg15 fun ps z => nomatch z), ⟨U.pre, U.good, fun u hu => (U.bad u hu).ext x16, U.len⟩, TK.lt, TK.nd, by omega, fun u hu => rz_told (.inl ⟨rfl, rfl, rfl⟩) fun t H17 s17 e17 => ?_, fun hn h8 => rz_told (.inr (.inr (.inl ⟨rfl, rfl, rfl⟩))) fun t H17 s17 e17 => ?_, fun hn h8 x H17 hx s17 pl _ => ?_⟩⟩
        · walk_at "go"
          rw [← hdue2, hu] at due15
          have x17 := x16.trans (ext_of s17)
          obtain ⟨w1, b, w2⟩ := wb u (List.mem_of_head? hu)
          exact fin (od := some ([112, 108, 97, 110], u)) ⟨w1, t, rfl, e17⟩ (due15.ext x17) (fun m u e => by cases e; exact ⟨b, w2 _ x17⟩) x17 (tabs_same t16 s17)
        · walk_at "go"
          rw [← hdue2, hn, ← hdu, if_pos h8] at due15
          have x17 := x16.trans (ext_of s17)
          exact fin (od := some ([109, 97, 110, 121], V.int 8)) ⟨.inl rfl, t, rfl, e17⟩ (due15.ext x17) (fun m u e => by cases e; exact ⟨_, boolSt_int (H := H17) _ (LamX.ExtN.refl _)⟩) x17 (tabs_same t16 s17)
        · walk_at "go"
          rw [← hdue2, hn, ← hdu, if_neg (by omega)] at due15
          have x17 := x16.trans (ext_of s17)
          exact fin (od := none) rfl (due15.ext x17) (fun m u e => nomatch e) x17 (tabs_same t16 s17)
      · refine ⟨_, gq, rfl, .inl ⟨bk.bad.ext x16, rz_told (.inl ⟨rfl, rfl, rfl⟩) fun t H17 s17 e17 => ?_⟩⟩
        walk_at "go"
        have x17 := x16.trans (ext_of s17)
        obtain ⟨b, hb⟩ := bk.bool (K := K)
        exact fin (od := some ([112, 108, 97, 110], v7)) ⟨bk.plain, t, rfl, e17⟩ (due15.ext x17) (fun m u e => by cases e; exact ⟨b, hb _ x17⟩) x17 (tabs_same t16 s17)
    rintro b H16 ⟨rfl, x16, t16⟩
    have p16 := p15.ext x16
    have eq16 := x16 _ _ eq15 fun ps z => nomatch z
    clear fin cases7 wb U wb0 el15 eg15 eq15 p15 t15 x16 hdue2 hdu hws
    have eK : kindsOf ls = ls := L.kinds
    have eP : prsOf ps = ps := L.prs.told0 L.lt
    walk_at "go"
    refine ⟨ls, q, ps, rfl, ⟨.inl eq16, by omega, pin, L.lt, L.nd, l8⟩, fun x H17 hx s17 pl _ => ?_⟩
    rw [eK, eP] at pl
    have nxp : x ≠ g.p := (p16.p_ne hx).symm
    walk_at "go"
    refine ⟨g, 1000 * i + 130, x, ls, ps, mr, rfl, tabs_same t16 s17, p16.same s17, by omega, pl, L, M, fun H18 p18 kt18 t18 => ?_⟩
    have eq18 := kt18 _ _ (s17 _ _ eq16) nqp fun ps z => nomatch z
    clear s17 pl p16 t16 eq16 kt18
    walk_at "go"
    have hm0 : 0 < mr.length := by omega
    refine v_ixS (by omega) (show atI mr 0 = some mr[0] from atI_nat (j := 0) (List.getElem?_eq_getElem hm0)) ?_
    have hm1 : ¬ mr[0] ∈ ls := M.dis _ (List.getElem_mem hm0)
    walk_at "go"
    intro b1 H19 hb1 s19 e19
    walk_at "go"
    intro b2 H20 hb2 s20 e20
    have p20 := (p18.same s19).same s20
    have n2 : b2 ≠ g.p := ((p18.same s19).p_ne hb2).symm
    walk_at "go"
    refine ⟨g, _, b2, _, rfl, e20, by simp, by simp, p20, by omega, n2, fun u H21 hu21 p21 k21 => ?_⟩
    have nm : NameC H20 ls u := by
      simp only [List.mem_cons, List.not_mem_nil, or_false] at hu21
      rcases hu21 with rfl | rfl | rfl | rfl | rfl | rfl | rfl | rfl
      · exact .inr ⟨_, rfl, (fun k _ e => by cases e), by decide⟩
      · exact .inr ⟨_, rfl, (fun k _ e => by cases e), by decide⟩
      · exact .inl (.inl rfl)
      · exact .inl (.inr (.inr (.inl ⟨_, rfl⟩)))
      · exact .inr ⟨_, rfl, (fun k hk e => by cases e; exact hm1 hk), by simp⟩
      · exact .inr ⟨_, rfl, (fun k hk e => by cases e; have := LET_lt (L.lt _ hk); omega), by decide⟩
      · exact .inl (.inr (.inl ⟨_, rfl⟩))
      · exact .inl (.inr (.inr (.inr ⟨_, _, rfl, .inr (s20 _ _ e19)⟩)))
    have t21 := tabs_pen (tabs_same (tabs_same t18 s19) s20) p20 k21
    have eq21 := k21 _ _ (s20 _ _ (s19 _ _ eq18)) nqp
    have nm21 := nm.pen p20 k21
    clear hu21 nm s19 s20 e19 e20 k21 p20 p18 t18 eq18 hb1 hb2 n2 hx nxp
    walk_at "go"
    refine ⟨ls, q, ps, rfl, ⟨.inl eq21, by omega, pin, L.lt, L.nd, l8⟩, fun y H22 hy s22 pl _ => ?_⟩
    rw [eK, eP] at pl
    have p22 := p21.same s22
    have t22 := tabs_same t21 s22
    have nm22 := nm21.ext (ext_of s22)
    obtain ⟨bb, hbb⟩ := nm22.bool (K := K)
    have hpl := nm22.plain
    clear s22 p21 t21 nm21 eq21
    have fin2 : ∀ {t1 t2 : Addr} {H' : Hp}, LamX.ExtN H22 H' → LamX.Tabs Ts H' → H' t1 = some (.tup [.str (tx [107, 105, 110, 100]), u]) → H' t2 = some (.tup [.str (tx [107, 105, 110, 100]), u]) → spLike K [.ref t1, .ref t2] H' (fun x H'' => ∃ k, x = V.bl k ∧ (!k) = false ∧ LamX.ExtN H22 H'' ∧ LamX.Tabs Ts H'') E0 := fun x t e1 e2 => ⟨_, _, some ([107, 105, 110, 100], u), rfl, ⟨hpl, _, rfl, e1⟩, ⟨hpl, _, rfl, e2⟩, (fun m w e => by cases e; exact ⟨bb, hbb _ x⟩), true, rfl, rfl, x, t⟩
    walk_at "go"
    refine s_cut (fun σ H' => σ = [some (.ref sc), some (.ref g.p), some (.int (i : Nat)), some (.str (tx ls)), some (.ref q), some (.str (tx mr)), some (.int (m : Nat)), some v7, some (.ref gq), some v9', y10, y11, y12, some (.ref q), some (.ref D), some u, some (.ref y), none] ∧ LamX.ExtN H22 H' ∧ LamX.Tabs Ts H') ?_ ?_
    · walk_at "go"
      cases hls : ls with
      | nil =>
        walk_at "go"
        exact ⟨rfl, LamX.ExtN.refl _, t22⟩
      | cons c0 cr =>
        walk_at "go"
        refine t_cut (fun b H' => b = false ∧ LamX.ExtN H22 H' ∧ LamX.Tabs Ts H') ?_ ?_
        · walk_at "go"
          refine ⟨t22, fun H23 x23 t23 => ?_⟩
          unfold TT02
          dsimp only
          walk_at "go"
          refine v_mdP (pl.ext x23) ⟨by decide +kernel, by decide +kernel, by decide +kernel⟩ ?_
          walk_at "go"
          refine v_ixS (by rw [← hls]; omega) (show atI (c0 :: cr) 0 = some c0 from atI_nat (j := 0) rfl) ?_
          walk_at "go"
          refine ⟨y, ls, ps, _, u, rfl, pl.ext x23, .inr ⟨c0, by rw [hls]; exact List.mem_cons_self .., rfl, (nm22.ext x23).no, rz_told (.inr (.inr (.inr ⟨rfl, rfl, rfl⟩))) fun t H24 s24 e24 => ?_⟩⟩
          walk_at "go"
          intro t2 H25 ht2 s25 e25
          exact fin2 ((x23.trans (ext_of s24)).trans (ext_of s25)) (tabs_same (tabs_same t23 s24) s25) (s25 _ _ e24) e25
        rintro b H23 ⟨rfl, x23, t23⟩
        walk_at "go"
        exact ⟨rfl, x23, t23⟩
    rintro σ H23 ⟨rfl, x23, t23⟩
    walk_at "go"
    refine t_cut (fun b H' => b = false ∧ LamX.ExtN H22 H' ∧ LamX.Tabs Ts H') ?_ ?_
    · walk_at "go"
      refine ⟨t23, fun H24 x24 t24 => ?_⟩
      unfold TT02
      dsimp only
      walk_at "go"
      have x224 := x23.trans x24
      refine v_mdP (pl.ext x224) ⟨by decide +kernel, by decide +kernel, by decide +kernel⟩ ?_
      walk_at "go"
      refine ⟨y, ls, ps, u, _, rfl, pl.ext x224, .inl ⟨(nm22.ext x224).no, rz_told (.inr (.inr (.inr ⟨rfl, rfl, rfl⟩))) fun t H25 s25 e25 => ?_⟩⟩
      walk_at "go"
      intro t2 H26 ht2 s26 e26
      exact fin2 ((x224.trans (ext_of s25)).trans (ext_of s26)) (tabs_same (tabs_same t24 s25) s26) (s26 _ _ e25) e26
    rintro b H24 ⟨rfl, x24, t24⟩
    walk_at "go"
    exact hDn _ _ ⟨_, _, _, _, _, _, _, _, _, _, _, _, _, _, _, rfl, (p22.ext x24).mono (by omega), t24⟩
  · rintro σ H2 ⟨x2, x3, x4, x5, x6, x7, x8, x9, x10, x11, x12, x13, x14, x15, x16, rfl, p2, t2⟩
    walk_at "go"
    exact k H2
end
end
section
open PySem PySem.Spec L2
abbrev stIP : Stmt := (inClass (top 3) 0)
abbrev stSK : Stmt := (inClass (top 5) 0)
abbrev stTM : Stmt := (inClass (top 6) 0)
abbrev stIK : Stmt := (inClass (top 4) 0)
theorem end02 {w : World} {K : PySem.W.Frag} {mg : Str → Option Value} {C IP SK TM IK G fa e0 c1 c2 P1 P2 : Addr} {fd : FuncData} {t1 t2 : Tok} {dd0 : Option Addr} {n0 : Nat} {sl0 : Array (Option Value)}
    (c_Plan : ClsF K mg "Plan" C)
    (E_InvalidPlan : ExcE PySem.Challenge.pw_crosswalls_k02_plans_refused K mg "InvalidPlan" IP "InvalidPlan.__init__" stIP)
    (E_SameKind : ExcE PySem.Challenge.pw_crosswalls_k02_plans_refused K mg "SameKind" SK "SameKind.__init__" stSK)
    (E_TooMany : ExcE PySem.Challenge.pw_crosswalls_k02_plans_refused K mg "TooMany" TM "TooMany.__init__" stTM)
    (E_InvalidKind : ExcE PySem.Challenge.pw_crosswalls_k02_plans_refused K mg "InvalidKind" IK "InvalidKind.__init__" stIK)
    (F_are_letters : FnAt K mg "are_letters" stare_letters)
    (F_ascending : FnAt K mg "ascending" stascending)
    (F_is_list : FnAt K mg "is_list" stis_list)
    (F_need_few : FnAt K mg "need_few" stneed_few)
    (F_checked_pairs : FnAt K mg "checked_pairs" stchecked_pairs)
    (F_crossing_table : FnAt K mg "crossing_table" stcrossing_table)
    (F_same_kindE : FnAt K mg "same_kind" stsame_kindE)
    (F_is_kindE : FnAt K mg "is_kind" stis_kindE)
    (F_need_kindE : FnAt K mg "need_kind" stneed_kindE)
    (F_pen : FnAt K mg "_law_pen" stpen)
    (F_draw : FnAt K mg "_law_draw" stdraw)
    (F_pick : FnAt K mg "_law_pick" stpick)
    (F_lplan : FnAt K mg "_law_plan" stlplan)
    (F_told : FnAt K mg "_law_told" sttold)
    (F_like : FnAt K mg "_law_like" stlike)
    (F_puts : FnAtC K mg "_law_put_together" stputs c1)
    (F_law : FunC K "law" "law" stlaw fa fd c2)
    (F_Plan_addE : MAt K C "__add__" "Plan.__add__" stPlan_addE)
    (F_Plan_mulE : MAt K C "__mul__" "Plan.__mul__" stPlan_mulE)
    (F_Plan_init : MAtD K C "__init__" "Plan.__init__" stPlan_init [.ref e0])
    (F_Plan_crossesE : MAt K C "crosses" "Plan.crosses" stPlan_crossesE)
    (F_Plan_ringE : StAt K C "ring" "Plan.ring" stPlan_ringE)
    (z_len : mg "len" = none)
    (z_int : mg "int" = none)
    (z_list : mg "list" = none)
    (z_isinstance : mg "isinstance" = none)
    (z_str : mg "str" = none)
    (z_all : mg "all" = none)
    (z_set : mg "set" = none)
    (z_tuple : mg "tuple" = none)
    (z_range : mg "range" = none)
    (z_min : mg "min" = none)
    (z_max : mg "max" = none)
    (z_bool : mg "bool" = none)
    (z_super : mg "super" = none)
    (n_C_kinds : NoAttr K C "kinds")
    (n_C_pairs : NoAttr K C "pairs")
    (n_C_own_crossing : NoAttr K C "own_crossing")
    (g_LETTERS : mg "LETTERS" = some (.str (tx LET) t1))
    (g_MOST_KINDS : mg "MOST_KINDS" = some (.int 8 t2))
    (g_FloorError : mg "FloorError" = some (.ref G))
    (ke0 : K.lookup e0 = some ⟨.type "tuple", dd0, .seq #[] n0, sl0⟩)
    (sfC : PySem.W.selfFirst K C = true)
    (kC1 : PySem.W.kitOne K (.ref C) (.type "str") = some false)
    (kPv : PySem.W.findIn K (.ref IP) "value" = some none)
    (kSk : PySem.W.findIn K (.ref SK) "kind" = some none)
    (kMm : PySem.W.findIn K (.ref TM) "most" = some none)
    (kKv : PySem.W.findIn K (.ref IK) "value" = some none)
    (sIPIP : PySem.W.subIn K (.ref IP) (.ref IP) = some true)
    (sSKIP : PySem.W.subIn K (.ref SK) (.ref IP) = some false)
    (sSKSK : PySem.W.subIn K (.ref SK) (.ref SK) = some true)
    (sTMIP : PySem.W.subIn K (.ref TM) (.ref IP) = some false)
    (sTMSK : PySem.W.subIn K (.ref TM) (.ref SK) = some false)
    (sTMTM : PySem.W.subIn K (.ref TM) (.ref TM) = some true)
    (sIKIP : PySem.W.subIn K (.ref IK) (.ref IP) = some false)
    (sIKSK : PySem.W.subIn K (.ref IK) (.ref SK) = some false)
    (sIKTM : PySem.W.subIn K (.ref IK) (.ref TM) = some false)
    (sIKIK : PySem.W.subIn K (.ref IK) (.ref IK) = some true) (hP : P1 ≠ P2) (base : Heap) (TB1 : LamX.TabB base mg c1 P1) (TB2 : LamX.TabB base mg c2 P2) : FnOk PySem.Challenge.pw_crosswalls_k02_plans_refused w K mg base CX0 11 fa fd ["_law_script"] (spLawT K [(P1, ("_law_put_together" : Str) ++ ".<locals>." ++ "<lambda>"), (P2, ("law" : Str) ++ ".<locals>." ++ "<lambda>")]) := by
  have T : Txt K mg := ⟨z_len, z_int, z_list⟩
  have TP : TxtP K mg C := ⟨z_len, z_int, z_list, z_isinstance, z_str, z_all, z_set, z_tuple, ⟨_, g_LETTERS⟩, ⟨_, g_MOST_KINDS⟩, c_Plan, n_C_kinds, n_C_pairs, n_C_own_crossing⟩
  have TH : TxtH K mg := ⟨T, z_range⟩
  have TG : TxtG K mg C := ⟨TP, z_range⟩
  have kt : ∀ H : Hp, SeqO K H e0 [] := fun H => .inr (.inr ⟨rfl, _, n0, ke0, rfl, rfl⟩)
  have ex : ∀ {A B : Addr} {b : Bool} {x q : Str} {s : Stmt}, ExcE PySem.Challenge.pw_crosswalls_k02_plans_refused K mg x B q s → PySem.W.subIn K (.ref A) (.ref B) = some b → PySem.W.exmOne K (.ref A) (.ref B) = some b := fun E h => PySem.W.exm_ref E.ec.hs E.ec.hd E.oex.tyC h
  have T2 : Txt02 PySem.Challenge.pw_crosswalls_k02_plans_refused K mg C IP SK TM IK G stIP stSK stTM stIK := { TP with eP := E_InvalidPlan, eS := E_SameKind, eM := E_TooMany, eK := E_InvalidKind, IP_value := kPv, SK_kind := kSk, TM_most := kMm, IK_value := kKv, FloorError := g_FloorError, pp := ex E_InvalidPlan sIPIP, sp := ex E_InvalidPlan sSKIP, ss := ex E_SameKind sSKSK, mp := ex E_InvalidPlan sTMIP, ms := ex E_SameKind sTMSK, mm := ex E_TooMany sTMTM, kp := ex E_InvalidPlan sIKIP, ks := ex E_SameKind sIKSK, km := ex E_TooMany sIKTM, kk := ex E_InvalidKind sIKIK }
  have T3 : Txt03 PySem.Challenge.pw_crosswalls_k02_plans_refused K mg C IP SK TM IK G stIP stSK stTM stIK := { T2 with sfC := sfC, range := z_range, bool := z_bool }
  have T4 : Txt04 PySem.Challenge.pw_crosswalls_k02_plans_refused K mg C IP SK TM IK G stIP stSK stTM stIK := { T3 with min := z_min, max := z_max, kC := kC1 }
  have D_draw := ok_draw (P := PySem.Challenge.pw_crosswalls_k02_plans_refused) (w := w) (base := base) F_draw T
  have D_pen := ok_pen (P := PySem.Challenge.pw_crosswalls_k02_plans_refused) (w := w) (base := base) F_pen T
  have D_are := ok_are_letters (P := PySem.Challenge.pw_crosswalls_k02_plans_refused) (w := w) (base := base) F_are_letters TP
  have D_areE := ok_are_lettersE (P := PySem.Challenge.pw_crosswalls_k02_plans_refused) (w := w) (base := base) F_are_letters TP
  have D_asc := ok_ascending (P := PySem.Challenge.pw_crosswalls_k02_plans_refused) (w := w) (base := base) F_ascending TP
  have D_isl := ok_is_list (P := PySem.Challenge.pw_crosswalls_k02_plans_refused) (w := w) (base := base) F_is_list TP
  have D_few := ok_need_few (P := PySem.Challenge.pw_crosswalls_k02_plans_refused) (w := w) (base := base) F_need_few TP
  have D_chk := ok_checked_pairs F_checked_pairs TP D_isl D_are D_asc
  have D_tab := ok_crossing_table (P := PySem.Challenge.pw_crosswalls_k02_plans_refused) (w := w) (base := base) F_crossing_table TP
  have X_Plan := ok_Plan F_Plan_init rfl TP D_are D_asc D_chk D_few D_tab
  have X_IP := ok_E1 (w := w) (base := base) (k := 0) (fld := "value") (y := "value") E_InvalidPlan z_super kPv rfl (NdefX.nscope_by (by decide +kernel)) rfl rfl rfl (fun kV doc pm an cda cc ct us hl => by
    match us, hl with
    | [_, _], _ => rfl) (fun env => rfl)
  have X_SK := ok_E1 (w := w) (base := base) (k := 0) (fld := "kind") (y := "kind") E_SameKind z_super kSk rfl (NdefX.nscope_by (by decide +kernel)) rfl rfl rfl (fun kV doc pm an cda cc ct us hl => by
    match us, hl with
    | [_, _], _ => rfl) (fun env => rfl)
  have X_TM := ok_E1 (w := w) (base := base) (k := 0) (fld := "most") (y := "most") E_TooMany z_super kMm rfl (NdefX.nscope_by (by decide +kernel)) rfl rfl rfl (fun kV doc pm an cda cc ct us hl => by
    match us, hl with
    | [_, _], _ => rfl) (fun env => rfl)
  have X_IK := ok_E1 (w := w) (base := base) (k := 0) (fld := "value") (y := "value") E_InvalidKind z_super kKv rfl (NdefX.nscope_by (by decide +kernel)) rfl rfl rfl (fun kV doc pm an cda cc ct us hl => by
    match us, hl with
    | [_, _], _ => rfl) (fun env => rfl)
  have D_chkE := ok_checked_pairsE F_checked_pairs TP D_isl D_are D_asc X_IP
  have D_fewE := ok_need_fewE F_need_few TP X_TM
  have D_skE := ok_same_kindE F_same_kindE D_asc X_SK
  have X_PlanE := ok_PlanE F_Plan_init rfl TP D_areE D_asc D_chkE D_fewE D_tab X_IP
  have M_addE := ok_Plan_addE F_Plan_addE TP D_skE X_PlanE.cdef
  have M_mulE := ok_Plan_mulE F_Plan_mulE TP D_skE X_PlanE.cdef
  have D_ikE := ok_is_kindE (P := PySem.Challenge.pw_crosswalls_k02_plans_refused) (w := w) (base := base) F_is_kindE TP
  have D_nkE := ok_need_kindE F_need_kindE D_ikE X_IK
  have M_crE := ok_Plan_crossesE F_Plan_crossesE TP D_nkE
  have S_ringE := ok_Plan_ringE F_Plan_ringE TG D_areE X_PlanE.cdef X_IP
  have D_pick := ok_pick F_pick T D_draw
  have D_plan := ok_lplan F_lplan TH D_draw D_pick
  have D_like := ok_like F_like T3 (w := w) (base := base)
  have C_Plan_1 := X_Plan.kw 1 [] [.pos 0, .dfl 0] (by simp) fun T kV doc pm an cdv ct us its ws l1 l2 l3 => by
    match us, l1, its, l2, ws, l3 with
    | [_, _], _, [_], _, [], _ => exact ⟨_, rfl, rfl⟩
  obtain ⟨u1, u2⟩ := of_two (q1 := ("_law_put_together" : Str) ++ ".<locals>." ++ "<lambda>") (q2 := ("law" : Str) ++ ".<locals>." ++ "<lambda>") hP
  have D_puts := ok_puts F_puts F_told T3 kt TB1 (.head _) u1 D_draw D_pick C_Plan_1 M_addE M_mulE S_ringE
  exact ok_law F_law F_told T4 TB2 (.tail _ (.head _)) u2 D_pen D_draw D_pick D_plan D_like D_puts X_Plan.cdef X_PlanE.cdef M_crE
end
end Cw
set_option Elab.async false
set_option linter.all false
set_option maxRecDepth 100000
open PySem PySem.W PyProof.Rows
set_option maxRecDepth 100000 in
set_option maxHeartbeats 0 in
theorem PySem.Challenge.cw_crosswalls_k02_plans_refused_holds : PySem.Challenge.rw_crosswalls_k02_plans_refused.Holds := by
  refine Cw.headOf ?_
  k_fill
  refine Cw.end_walkT (l := PySem.Challenge.rw_crosswalls_k02_plans_refused) (k := 11) (x := "_law_script") (P1 := 315) (P2 := 322) (q1 := ("_law_put_together" : PySem.Str) ++ ".<locals>." ++ "<lambda>") (q2 := ("law" : PySem.Str) ++ ".<locals>." ++ "<lambda>") (sp := fun K => Cw.spLawT K [(315, ("_law_put_together" : PySem.Str) ++ ".<locals>." ++ "<lambda>"), (322, ("law" : PySem.Str) ++ ".<locals>." ++ "<lambda>")]) rfl rfl ⟨rfl, by decide, by decide⟩ (fun w h Y => PySem.W.km_in_of Y) (fun w h Y => ⟨PySem.W.km_tabs_of Y 315 (by k_mem), PySem.W.km_tabs_of Y 322 (by k_mem)⟩) (fun w => ⟨by kernel_rfl, by kernel_rfl⟩) (fun _ _ a ns hl ht hS => ⟨a, ns, rfl, hS, hl, ht, fun _ => rfl⟩) ?F
  case F =>
    intro w mg fa h KX G hmg
    refine' ⟨_, _, _, ?e1, ?e2, fun s v => ?b, fun base _ _ TB1 TB2 => ?h⟩
    case h =>
      refine' Cw.end02 ?c_Plan ?E_InvalidPlan ?E_SameKind ?E_TooMany ?E_InvalidKind ?F_are_letters ?F_ascending ?F_is_list ?F_need_few ?F_checked_pairs ?F_crossing_table ?F_same_kindE ?F_is_kindE ?F_need_kindE ?F_pen ?F_draw ?F_pick ?F_lplan ?F_told ?F_like ?F_puts ?F_law ?F_Plan_addE ?F_Plan_mulE ?F_Plan_init ?F_Plan_crossesE ?F_Plan_ringE ?z_len ?z_int ?z_list ?z_isinstance ?z_str ?z_all ?z_set ?z_tuple ?z_range ?z_min ?z_max ?z_bool ?z_super ?n_C_kinds ?n_C_pairs ?n_C_own_crossing ?g_LETTERS ?g_MOST_KINDS ?g_FloorError ?ke0 ?sfC ?kC1 ?kPv ?kSk ?kMm ?kKv ?sIPIP ?sSKIP ?sSKSK ?sTMIP ?sTMSK ?sTMTM ?sIKIP ?sIKSK ?sIKTM ?sIKIK (by decide) base TB1 TB2
      case c_Plan => refine' Cw.cls_mk KX G ?a ?pg ?hd ?po ?sa ?mk ?kc ?ha ?hn ?ht ?hm ?ob ?ne; (case a => k_is); (case pg => k_is); (case hd => k_is); (case po => k_is); (case sa => k_is); (case mk => k_is); (case kc => k_is); (case ha => k_is); (case hn => k_is); (case ht => k_is); (case hm => k_is); (case ob => k_is); (case ne => k_is)
      case E_InvalidPlan => refine' Cw.exE_mk KX G ?a ?lk ?rv ?sa ?hs ?ty ?k ?hg ?hk ?hd ?ha ?hn ?ht ?hm ?fi ?ti ?lf ?cd ?par ?par2 ?lc ?v2 ?fe ?top ?lcc ?op ?up; (case a => k_is); (case lk => k_is); (case sa => k_is); (case hs => k_is); (case ty => k_is); (case k => k_is); (case hg => k_is); (case hk => k_is); (case hd => k_is); (case ha => k_is); (case hn => k_is); (case ht => k_is); (case hm => k_is); (case fi => k_is); (case ti => k_is); (case lf => k_is); (case cd => k_is); (case lc => k_is); (case lcc => k_is); (case op => k_is); (case rv => kernel_rfl); (case par => rfl); (case par2 => rfl); (case v2 => rfl); (case fe => kernel_rfl); (case top => kernel_rfl); (case up => kernel_rfl)
      case E_SameKind => refine' Cw.exE_mk KX G ?a ?lk ?rv ?sa ?hs ?ty ?k ?hg ?hk ?hd ?ha ?hn ?ht ?hm ?fi ?ti ?lf ?cd ?par ?par2 ?lc ?v2 ?fe ?top ?lcc ?op ?up; (case a => k_is); (case lk => k_is); (case sa => k_is); (case hs => k_is); (case ty => k_is); (case k => k_is); (case hg => k_is); (case hk => k_is); (case hd => k_is); (case ha => k_is); (case hn => k_is); (case ht => k_is); (case hm => k_is); (case fi => k_is); (case ti => k_is); (case lf => k_is); (case cd => k_is); (case lc => k_is); (case lcc => k_is); (case op => k_is); (case rv => kernel_rfl); (case par => rfl); (case par2 => rfl); (case v2 => rfl); (case fe => kernel_rfl); (case top => kernel_rfl); (case up => kernel_rfl)
      case E_TooMany => refine' Cw.exE_mk KX G ?a ?lk ?rv ?sa ?hs ?ty ?k ?hg ?hk ?hd ?ha ?hn ?ht ?hm ?fi ?ti ?lf ?cd ?par ?par2 ?lc ?v2 ?fe ?top ?lcc ?op ?up; (case a => k_is); (case lk => k_is); (case sa => k_is); (case hs => k_is); (case ty => k_is); (case k => k_is); (case hg => k_is); (case hk => k_is); (case hd => k_is); (case ha => k_is); (case hn => k_is); (case ht => k_is); (case hm => k_is); (case fi => k_is); (case ti => k_is); (case lf => k_is); (case cd => k_is); (case lc => k_is); (case lcc => k_is); (case op => k_is); (case rv => kernel_rfl); (case par => rfl); (case par2 => rfl); (case v2 => rfl); (case fe => kernel_rfl); (case top => kernel_rfl); (case up => kernel_rfl)
      case E_InvalidKind => refine' Cw.exE_mk KX G ?a ?lk ?rv ?sa ?hs ?ty ?k ?hg ?hk ?hd ?ha ?hn ?ht ?hm ?fi ?ti ?lf ?cd ?par ?par2 ?lc ?v2 ?fe ?top ?lcc ?op ?up; (case a => k_is); (case lk => k_is); (case sa => k_is); (case hs => k_is); (case ty => k_is); (case k => k_is); (case hg => k_is); (case hk => k_is); (case hd => k_is); (case ha => k_is); (case hn => k_is); (case ht => k_is); (case hm => k_is); (case fi => k_is); (case ti => k_is); (case lf => k_is); (case cd => k_is); (case lc => k_is); (case lcc => k_is); (case op => k_is); (case rv => kernel_rfl); (case par => rfl); (case par2 => rfl); (case v2 => rfl); (case fe => kernel_rfl); (case top => kernel_rfl); (case up => kernel_rfl)
      case F_are_letters => refine' Cw.fnAt_mk KX G ?a ?l ?c ?k; (case a => k_is); (case l => k_is); (case c => k_is); (case k => k_is)
      case F_ascending => refine' Cw.fnAt_mk KX G ?a ?l ?c ?k; (case a => k_is); (case l => k_is); (case c => k_is); (case k => k_is)
      case F_is_list => refine' Cw.fnAt_mk KX G ?a ?l ?c ?k; (case a => k_is); (case l => k_is); (case c => k_is); (case k => k_is)
      case F_need_few => refine' Cw.fnAt_mk KX G ?a ?l ?c ?k; (case a => k_is); (case l => k_is); (case c => k_is); (case k => k_is)
      case F_checked_pairs => refine' Cw.fnAt_mk KX G ?a ?l ?c ?k; (case a => k_is); (case l => k_is); (case c => k_is); (case k => k_is)
      case F_crossing_table => refine' Cw.fnAt_mk KX G ?a ?l ?c ?k; (case a => k_is); (case l => k_is); (case c => k_is); (case k => k_is)
      case F_same_kindE => refine' Cw.fnAt_mk KX G ?a ?l ?c ?k; (case a => k_is); (case l => k_is); (case c => k_is); (case k => k_is)
      case F_is_kindE => refine' Cw.fnAt_mk KX G ?a ?l ?c ?k; (case a => k_is); (case l => k_is); (case c => k_is); (case k => k_is)
      case F_need_kindE => refine' Cw.fnAt_mk KX G ?a ?l ?c ?k; (case a => k_is); (case l => k_is); (case c => k_is); (case k => k_is)
      case F_pen => refine' Cw.fnAt_mk KX G ?a ?l ?c ?k; (case a => k_is); (case l => k_is); (case c => k_is); (case k => k_is)
      case F_draw => refine' Cw.fnAt_mk KX G ?a ?l ?c ?k; (case a => k_is); (case l => k_is); (case c => k_is); (case k => k_is)
      case F_pick => refine' Cw.fnAt_mk KX G ?a ?l ?c ?k; (case a => k_is); (case l => k_is); (case c => k_is); (case k => k_is)
      case F_lplan => refine' Cw.fnAt_mk KX G ?a ?l ?c ?k; (case a => k_is); (case l => k_is); (case c => k_is); (case k => k_is)
      case F_told => refine' Cw.fnAt_mk KX G ?a ?l ?c ?k; (case a => k_is); (case l => k_is); (case c => k_is); (case k => k_is)
      case F_like => refine' Cw.fnAt_mk KX G ?a ?l ?c ?k; (case a => k_is); (case l => k_is); (case c => k_is); (case k => k_is)
      case F_puts => refine' Cw.fnAtC_mk KX G ?a ?l ?c ?k; (case a => k_is); (case l => k_is); (case c => k_is); (case k => k_is)
      case F_law => refine' Cw.funC1_mk KX G hmg ?a ?l ?c ?k; (case a => k_is); (case l => k_is); (case c => k_is); (case k => k_is)
      case F_Plan_addE => refine' Cw.mAt_mk ?a ?i ?l ?c ?k; (case a => k_is); (case i => k_is); (case l => k_is); (case c => k_is); (case k => k_is)
      case F_Plan_mulE => refine' Cw.mAt_mk ?a ?i ?l ?c ?k; (case a => k_is); (case i => k_is); (case l => k_is); (case c => k_is); (case k => k_is)
      case F_Plan_init => refine' Cw.mAtD_mk ?a ?i ?l ?c ?k ?t ?v ?d; (case a => k_is); (case i => k_is); (case l => k_is); (case c => k_is); (case k => k_is); (case t => k_is); (case v => exact .cons rfl .nil); (case d => intro z; cases z)
      case F_Plan_crossesE => refine' Cw.mAt_mk ?a ?i ?l ?c ?k; (case a => k_is); (case i => k_is); (case l => k_is); (case c => k_is); (case k => k_is)
      case F_Plan_ringE => refine' Cw.stAt_mk ?rd ?ga ?a ?r ?l ?c ?k; (case rd => k_is); (case ga => k_is); (case a => k_is); (case r => k_is); (case l => k_is); (case c => k_is); (case k => k_is)
      case z_len => refine' PySem.W.mg_none_of KX G ?a; (case a => k_is)
      case z_int => refine' PySem.W.mg_none_of KX G ?a; (case a => k_is)
      case z_list => refine' PySem.W.mg_none_of KX G ?a; (case a => k_is)
      case z_isinstance => refine' PySem.W.mg_none_of KX G ?a; (case a => k_is)
      case z_str => refine' PySem.W.mg_none_of KX G ?a; (case a => k_is)
      case z_all => refine' PySem.W.mg_none_of KX G ?a; (case a => k_is)
      case z_set => refine' PySem.W.mg_none_of KX G ?a; (case a => k_is)
      case z_tuple => refine' PySem.W.mg_none_of KX G ?a; (case a => k_is)
      case z_range => refine' PySem.W.mg_none_of KX G ?a; (case a => k_is)
      case z_min => refine' PySem.W.mg_none_of KX G ?a; (case a => k_is)
      case z_max => refine' PySem.W.mg_none_of KX G ?a; (case a => k_is)
      case z_bool => refine' PySem.W.mg_none_of KX G ?a; (case a => k_is)
      case z_super => refine' PySem.W.mg_none_of KX G ?a; (case a => k_is)
      case n_C_kinds => unfold L2.NoAttr; k_is
      case n_C_pairs => unfold L2.NoAttr; k_is
      case n_C_own_crossing => unfold L2.NoAttr; k_is
      case g_LETTERS => refine' Cw.glob_mk KX G ?a; (case a => k_is)
      case g_MOST_KINDS => refine' Cw.glob_mk KX G ?a; (case a => k_is)
      case g_FloorError => refine' Cw.glob_mk KX G ?a; (case a => k_is)
      case ke0 => first | k_is | k_exc | kernel_rfl
      case sfC => first | k_is | k_exc | kernel_rfl
      case kC1 => first | k_is | k_exc | kernel_rfl
      case kPv => first | k_is | k_exc | kernel_rfl
      case kSk => first | k_is | k_exc | kernel_rfl
      case kMm => first | k_is | k_exc | kernel_rfl
      case kKv => first | k_is | k_exc | kernel_rfl
      case sIPIP => first | k_is | k_exc | kernel_rfl
      case sSKIP => first | k_is | k_exc | kernel_rfl
      case sSKSK => first | k_is | k_exc | kernel_rfl
      case sTMIP => first | k_is | k_exc | kernel_rfl
      case sTMSK => first | k_is | k_exc | kernel_rfl
      case sTMTM => first | k_is | k_exc | kernel_rfl
      case sIKIP => first | k_is | k_exc | kernel_rfl
      case sIKSK => first | k_is | k_exc | kernel_rfl
      case sIKTM => first | k_is | k_exc | kernel_rfl
      case sIKIK => first | k_is | k_exc | kernel_rfl
    case b => exact .of_eq rfl
    case e1 => kernel_rfl
    case e2 => kernel_rfl
