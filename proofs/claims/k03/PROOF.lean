import PyProof.Rows.All
import Wide.All
import OpenK.AllK
import Wide.FinOn
import HandS.ForMost
import HandS.ForExc
import HandS.Wide
import HandS.Style
import HandS.Flow
import HandS.IsInst
import HandS.OwnEq
import PyProof.Rows.SetFrom
import PyProof.StrWalks
import PyProof.InstNe
import HandS.Exc
import HandS.Defaults
import HandS.Walk
import PyProof.Rows.StrRev
import HandS.Steps
import PySem.Challenge.RW_crosswalls_k03_renamings_of_plans
import KE.GoesMore
import HandS.TupLe
import HandS.ExcOwn
import HandS.ExcIs
import PyProof.ExcBaseAll.ValueError
import HandS.Iter
import HandS.Conv
import HandS.More
import HandS.WordsExc
import HandS.MakeKw
import HandS.MakeKwOnly
import HandS.Property
import HandS.ClsMeth
import HandS.TupAny
import HandS.Codes
import PyProof.FString5
import HandS.ExcInit
import HandS.Nested
import KE.KExcSuper
import HandS.ExcField
import KE.KExcIs
import HandS.TryMany
import HandS.Lambda
import HandS.DeepEq
import PyProof.NeKinds
import PyProof.ListStr
import HandS.SortInts
import HandS.SortKw
import HandS.Set
import HandS.SetFor
import HandS.Replace
import PyProof.JoinWalk
import PyProof.CollectIter
import PyProof.DictWalks
import PyProof.FactsAll.dict_keyiterator_1
import PyProof.Rows.StrJoin2
import KE.KDictList
import HandS.TryOnly
import HandS.Ends
import HandS.EndTab
import PyProof.ReprRoads
import KE.KStateDown
import HandS.Head0
import HandS.Head1
import HandS.Head2
import KE.KNestM
set_option Elab.async false
set_option maxRecDepth 100000
set_option maxHeartbeats 4000000
/-! Own words over the hand layer: defs by name, texts as lists of codes. -/
namespace Cw
open PySem PySem.Spec PyProof.Rows L2

/-! ### defs by their module name -/
/-- a def of the module stands as the text has it -/
structure FnAt (K : PySem.W.Frag) (mg : Str → Option Value) (x : Str) (st : Stmt) : Prop where
  ex : ∃ f fd, mg x = some (.ref f) ∧ Fun K x x st f fd
/-- how a def's arguments bind where all are given, and where it stands -/
structure Bd (K : PySem.W.Frag) (f : Addr) (fd : FuncData) (ps : List Str) : Prop where
  b : Binds K fd ps []
  lk : ∃ oc od osl, K.lookup f = some ⟨oc, od, .func fd, osl⟩
theorem funLk {K : PySem.W.Frag} {x qual : Str} {st : Stmt} {f : Addr} {fd : FuncData} (F : Fun K x qual st f fd) : ∃ oc od osl, K.lookup f = some ⟨oc, od, .func fd, osl⟩ := by
  obtain ⟨oc, od, kV, doc, pm, an, cdv, ct, osl, rfl, lk, _⟩ := F.ex
  exact ⟨oc, od, osl, lk⟩
/-- a def of the module keeps a promise -/
structure Def (P : Program) (w : World) (K : PySem.W.Frag) (mg : Str → Option Value) (base : Heap) (CX : CXT) (k : Nat) (x : Str) (ps : List Str) (sp : Sp) : Prop where
  ex : ∃ f fd, mg x = some (.ref f) ∧ PySem.W.keepIn K (.ref f) = true ∧ Bd K f fd ps ∧ FnOk P w K mg base CX k f fd ps sp
section
variable {P : Program} {w : World} {K : PySem.W.Frag} {mg : Str → Option Value} {base : Heap} {CX : CXT} {k : Nat} {x : Str} {ps N : List Str} {sp : Sp} {st : Stmt}
theorem Def.mono {j : Nat} (D : Def P w K mg base CX j x ps sp) (h : j ≤ k) : Def P w K mg base CX k x ps sp := by
  obtain ⟨f, fd, a, b, c, d⟩ := D.ex
  exact ⟨f, fd, a, b, c, d.mono h⟩
theorem Def.imp {sp' : Sp} (D : Def P w K mg base CX k x ps sp) (h : ∀ vs H Q E, sp' vs H Q E → sp vs H Q E) : Def P w K mg base CX k x ps sp' := by
  obtain ⟨f, fd, a, b, c, d⟩ := D.ex
  exact ⟨f, fd, a, b, c, d.imp h⟩
/-- a def that lets no exception out -/
theorem FnAt.ok (F : FnAt K mg x st) (S : FnScope N ps (defScope st))
    (hb : ∀ (kV doc pm : Value) (an : Option Addr) (cdv ct : Value) (us : List Value), us.length = ps.length → bindArgs (PySem.W.fnOf x x (defArgs st) (defBody st) (defScope st) .none kV doc pm an cdv ct) ⟨us, []⟩ = pure (ps.zip us))
    (len : ∀ vs H Q E, sp vs H Q E → vs.length = ps.length)
    (hbody : ∀ (f : Addr) (cdv : Value) (A : Around) (outer : List Env) (s : Shared) (H : Hp) (vs : List V) (Q : VK) (E : XK), Room k (A.deeper (envOfC x (defScope st) s.heap.objs.size f cdv)) → sp vs H Q E →
      ∃ t, PSs (cxOf CX0 P w K mg base N x (defScope st) f cdv A outer s H E).nox (defBody st) t ∧ t { nx := fun _ H' => Q .non H', rt := Q } (start N vs) H) : Def P w K mg base CX0 (k + 1) x ps sp := by
  obtain ⟨f, fd, hm, F⟩ := F.ex
  exact ⟨f, fd, hm, F.kp, ⟨F.binds hb, funLk F⟩, F.ok S len fun cdv A outer s H vs Q E hr h => hbody f cdv A outer s H vs Q E hr h⟩
/-- a def that may raise -/
theorem FnAt.okX (F : FnAt K mg x st) (S : FnScope N ps (defScope st))
    (hb : ∀ (kV doc pm : Value) (an : Option Addr) (cdv ct : Value) (us : List Value), us.length = ps.length → bindArgs (PySem.W.fnOf x x (defArgs st) (defBody st) (defScope st) .none kV doc pm an cdv ct) ⟨us, []⟩ = pure (ps.zip us))
    (len : ∀ vs H Q E, sp vs H Q E → vs.length = ps.length)
    (hbody : ∀ (f : Addr) (cdv : Value) (A : Around) (outer : List Env) (s : Shared) (H : Hp) (vs : List V) (Q : VK) (E : XK), Room k (A.deeper (envOfC x (defScope st) s.heap.objs.size f cdv)) → sp vs H Q E →
      ∃ t, PSs (cxOf (L2.CX P w) P w K mg base N x (defScope st) f cdv A outer s H E) (defBody st) t ∧ t { nx := fun _ H' => Q .non H', rt := Q } (start N vs) H) : Def P w K mg base (L2.CX P w) (k + 1) x ps sp := by
  obtain ⟨f, fd, hm, F⟩ := F.ex
  exact ⟨f, fd, hm, F.kp, ⟨F.binds hb, funLk F⟩, F.okX S len fun cdv A outer s H vs Q E hr h => hbody f cdv A outer s H vs Q E hr h⟩
end
section
variable {X : Cx} {CX : CXT} {k : Nat} {ps : List Str} {sp : Sp} {E : XK} {x : Str} {p pos : PySem.Pos} {e : Expr} {es : List Expr} {t : TA}
/-- f(e, ..) of a def that is known by its name -/
theorem pe_cd (D : Def X.prog X.w X.K X.mg X.base CX k x ps sp) (hr : Room k X.A) (hx : Passes CX X E) (ha : PA X (e :: es) t) (hg : Gl X x := by rfl) (hdb : (x == ("__debug__" : Str)) = false := by decide)
    (he : starEach (e :: es) X.env = (false, eval e X.env) :: starEach es X.env := by rfl) (hpl : (backTo pos (starEach es X.env)).any (·.1) = false := by rfl) : PE X (.Call (.Name x p) (e :: es) [] pos) (tCall sp [] E t) := by
  obtain ⟨f, fd, a, b, c, d⟩ := D.ex
  exact pe_call d hr hg a b c.b .nil hx ha hdb he hpl
end
/-! ### heaps -/
/-- all but the object at p is kept -/
def Keep (p : Addr) (H H' : Hp) : Prop := ∀ b o, H b = some o → b ≠ p → H' b = some o
theorem Keep.refl (p : Addr) (H : Hp) : Keep p H H := fun _ _ h _ => h
theorem Keep.trans {p : Addr} {H H1 H2 : Hp} (a : Keep p H H1) (b : Keep p H1 H2) : Keep p H H2 := fun c o h n => b c o (a c o h n) n
theorem Keep.of {p : Addr} {H H' : Hp} (a : Same H H') : Keep p H H' := fun c o h _ => a c o h
theorem Same.at {H H' : Hp} {a : Addr} {o : HO} (S : Same H H') (h : H a = some o) : H' a = some o := S a o h
theorem Keep.at {p : Addr} {H H' : Hp} {a : Addr} {o : HO} (S : Keep p H H') (h : H a = some o) (n : a ≠ p) : H' a = some o := S a o h n
theorem Same.new {H : Hp} {p : Addr} {o : HO} (h : H p = none) : Same H (upd H p o) := fun a u e => by
  rw [upd_ne (ne_of_none e h)]
  exact e
theorem Keep.put {p : Addr} {H : Hp} {o : HO} : Keep p H (upd H p o) := fun a u e n => by
  rw [upd_ne n]
  exact e
end Cw
set_option Elab.async false
set_option linter.all false
set_option maxRecDepth 100000
set_option maxHeartbeats 4000000
namespace Cw
open PySem PySem.Spec L2
/-! ### texts as lists of codes -/
abbrev tx (l : List Nat) : Str := ⟨l.toArray⟩
theorem tx_len (l : List Nat) : (tx l).length = l.length := by
  show (l.toArray).size = l.length
  simp
theorem tx_app (a b : List Nat) : tx a ++ tx b = tx (a ++ b) := by
  show (⟨a.toArray ++ b.toArray⟩ : Str) = ⟨(a ++ b).toArray⟩
  simp
theorem tx_eq {z : Str} : z = tx z.cps.toList := by
  cases z
  simp [tx]
theorem tx_inj {a b : List Nat} : tx a = tx b ↔ a = b := by
  constructor
  · intro h
    have := congrArg (fun z : Str => z.cps.toList) h
    simpa using this
  · intro h
    rw [h]
theorem dec_tx {a b : List Nat} : decide (V.str (tx a) = V.str (tx b)) = decide (a = b) := by
  rw [Bool.eq_iff_iff, decide_eq_true_iff, decide_eq_true_iff]
  constructor
  · intro h
    injection h with h
    exact tx_inj.mp h
  · intro h
    rw [h]

/-! ### stepping: expressions -/
section
variable {σ : St} {H : Hp} {Q : VK} {i : Nat} {v x y : V} {ta tb te : TE} {r : R2} {D : Ends} {K : PySem.W.Frag}
theorem e_c (q : Q v H) : tC v σ H Q := q
theorem e_op (q : ta σ H fun x H1 => tb σ H1 fun y H2 => r x y H2 Q) : tOp r ta tb σ H Q := q
theorem e_un {r : V → Hp → VK → Prop} (q : ta σ H fun x H1 => r x H1 Q) : tUn r ta σ H Q := q
theorem v_I0 {g : Int → Int → V} {a b : Int} (q : Q (g a b) H) : rI0 g (.int a) (.int b) H Q := ⟨a, b, rfl, rfl, q⟩
theorem v_I {C : Int → Int → Prop} {g : Int → Int → V} {a b : Int} (c : C a b) (q : Q (g a b) H) : rI C g (.int a) (.int b) H Q := ⟨a, b, rfl, rfl, c, q⟩
theorem v_eq (c : scal x y = true) (q : Q (.bl (decide (x = y))) H) : rEq x y H Q := ⟨c, q⟩
theorem v_ne (c : scal x y = true) (q : Q (.bl (!decide (x = y))) H) : rNe x y H Q := ⟨c, q⟩
theorem v_bl {P : Bool → Prop} {b : Bool} (q : P b) : ∃ k, V.bl b = V.bl k ∧ P k := ⟨b, rfl, q⟩
theorem v_int {P : Int → Prop} {b : Int} (q : P b) : ∃ k, V.int b = V.int k ∧ P k := ⟨b, rfl, q⟩
theorem v_str {P : Str → Prop} {b : Str} (q : P b) : ∃ k, V.str b = V.str k ∧ P k := ⟨b, rfl, q⟩
theorem e_andV (q : ta σ H fun x H1 => ∃ c, x = .bl c ∧ if c = true then tb σ H1 Q else Q (.bl false) H1) : tAndV ta tb σ H Q := q
theorem e_orV (q : ta σ H fun x H1 => ∃ c, x = .bl c ∧ if c = true then Q (.bl true) H1 else tb σ H1 Q) : tOrV ta tb σ H Q := q
theorem e_notV (q : ta σ H fun x H1 => ∃ c, x = .bl c ∧ Q (.bl (!c)) H1) : tNotV ta σ H Q := q
theorem e_if {t : TT} (q : t σ H fun c H1 => if c = true then ta σ H1 Q else tb σ H1 Q) : tIf t ta tb σ H Q := q
theorem e_nil {Q : List V → Hp → Prop} (q : Q [] H) : tNil σ H Q := q
theorem e_cons {tr : TA} {Q : List V → Hp → Prop} (q : ta σ H fun x H1 => tr σ H1 fun xs H2 => Q (x :: xs) H2) : tCons ta tr σ H Q := q
theorem e_cb {r : List V → Hp → VK → Prop} {t : TA} (q : t σ H fun vs H1 => r vs H1 Q) : tCB r t σ H Q := q
theorem e_call {sp : Sp} {E : XK} {t : TA} (q : t σ H fun vs H1 => sp vs H1 Q E) : tCall sp [] E t σ H Q := by
  show t σ H fun vs H1 => sp (vs ++ []) H1 Q E
  simpa using q
theorem e_fld {f : Str} (q : ta σ H fun x H1 => ∃ a C dx fs v, x = .ref a ∧ H1 a = some (.ins C dx fs) ∧ Cls K C ∧ NoAttr K C f ∧ fs.lookup f = some v ∧ Q v H1) : tFld K ta f σ H Q := q
theorem e_dget (q : ta σ H fun x H1 => tb σ H1 fun y H2 => ∃ a v, x = .ref a ∧ DGet H2 a y (some v) ∧ Q v H2) : tDGet ta tb σ H Q := q
theorem v_dget {P : V → Prop} {a : Addr} (h : DGet H a y (some v)) (q : P v) : ∃ a' v, V.ref a = .ref a' ∧ DGet H a' y (some v) ∧ P v := ⟨a, v, rfl, h, q⟩
theorem e_lst {t : TA} (q : t σ H fun xs H1 => xs.length ≤ sizeLine ∧ ∀ p H2, H1 p = none → H2 = upd H1 p (.lst xs) → Q (.ref p) H2) : tLst t σ H Q := by
  have e : (fun (xs : List V) (H1 : Hp) => xs.length ≤ sizeLine ∧ ∀ p H2, H1 p = none → H2 = upd H1 p (.lst xs) → Q (.ref p) H2) = (fun xs H1 => xs.length ≤ sizeLine ∧ ∀ p, H1 p = none → Q (.ref p) (upd H1 p (.lst xs))) := by
    funext xs H1
    exact propext ⟨fun h => ⟨h.1, fun p hp => h.2 p _ hp rfl⟩, fun h => ⟨h.1, fun p H2 hp e => e ▸ h.2 p hp⟩⟩
  rw [e] at q
  exact q
theorem e_tup {t : TA} (q : t σ H fun xs H1 => xs.length ≤ sizeLine ∧ ∀ p H2, H1 p = none → H2 = upd H1 p (.tup xs) → Q (.ref p) H2) : tTup t σ H Q := by
  have e : (fun (xs : List V) (H1 : Hp) => xs.length ≤ sizeLine ∧ ∀ p H2, H1 p = none → H2 = upd H1 p (.tup xs) → Q (.ref p) H2) = (fun xs H1 => xs.length ≤ sizeLine ∧ ∀ p, H1 p = none → Q (.ref p) (upd H1 p (.tup xs))) := by
    funext xs H1
    exact propext ⟨fun h => ⟨h.1, fun p hp => h.2 p _ hp rfl⟩, fun h => ⟨h.1, fun p H2 hp e => e ▸ h.2 p hp⟩⟩
  rw [e] at q
  exact q
theorem e_dnew (q : ∀ p H', H p = none → Same H H' → H' p = some (.dK []) → Q (.ref p) H') : tDNewK σ H Q := fun p h => q p _ h (Same.new h) upd_same
theorem szl {n : Nat} (h : n ≤ 1000000) : n ≤ sizeLine := Nat.le_trans h (by decide)
theorem szlt {n : Nat} (h : n < 1000000) : n < sizeLine := Nat.lt_of_lt_of_le h (by decide)
theorem v_lst {xs : List V} {P : Addr → Hp → Prop} (h : xs.length ≤ 1000000) (q : ∀ p H', H p = none → Same H H' → H' p = some (.lst xs) → P p H') : xs.length ≤ sizeLine ∧ ∀ p H2, H p = none → H2 = upd H p (.lst xs) → P p H2 := ⟨szl h, fun p H2 hp e => q p H2 hp (e ▸ Same.new hp) (e ▸ upd_same)⟩
theorem v_tup {xs : List V} {P : Addr → Hp → Prop} (h : xs.length ≤ 1000000) (q : ∀ p H', H p = none → Same H H' → H' p = some (.tup xs) → P p H') : xs.length ≤ sizeLine ∧ ∀ p H2, H p = none → H2 = upd H p (.tup xs) → P p H2 := ⟨szl h, fun p H2 hp e => q p H2 hp (e ▸ Same.new hp) (e ▸ upd_same)⟩
theorem v_ixL {p : Addr} {xs : List V} {a : Int} (h : H p = some (.lst xs)) (c : atI xs a = some v) (q : Q v H) : rIxL K (.ref p) (.int a) H Q := ⟨p, xs, a, v, rfl, rfl, SqL.of h, c, q⟩
theorem v_ixS {l : List Nat} {a : Int} {c : Nat} (h : l.length ≤ 1000000) (e : atI l a = some c) (q : Q (.str (tx [c])) H) : rIxS (.str (tx l)) (.int a) H Q := ⟨tx l, a, c, rfl, rfl, by rw [tx_len]; exact szl h, by simpa using e, q⟩
end
/-! ### named relations of built-in calls -/
def rInt : List V → Hp → VK → Prop := fun xs H Q => (∃ i, xs = [.int i] ∧ Q (.int i) H) ∨ ∃ k, xs = [.bl k] ∧ Q (.int (if k then 1 else 0)) H
theorem c_int {X : Cx} : CallR X (.type "int") rInt := call_int1
def rLen (K : PySem.W.Frag) : List V → Hp → VK → Prop := fun xs H Q => ∃ p ys, xs = [.ref p] ∧ (SqL K H p ys ∨ SqT K H p ys) ∧ Q (.int ys.length) H
theorem c_len {X : Cx} : CallR X (.builtin "len") (rLen X.K) := call_len_seq
def rLenS : List V → Hp → VK → Prop := fun xs H Q => ∃ x, xs = [.str x] ∧ x.length ≤ sizeLine ∧ Q (.int x.length) H
theorem c_lenS {X : Cx} : CallR X (.builtin "len") rLenS := call_len_str
section
variable {σ : St} {H : Hp} {Q : VK} {i : Nat} {v x y : V} {K : PySem.W.Frag}
theorem v_inti {a : Int} (q : Q (.int a) H) : rInt [.int a] H Q := .inl ⟨a, rfl, q⟩
theorem v_intb {k : Bool} (q : Q (.int (if k then 1 else 0)) H) : rInt [.bl k] H Q := .inr ⟨k, rfl, q⟩
theorem v_len {p : Addr} {ys : List V} (h : H p = some (.lst ys)) (q : Q (.int ys.length) H) : rLen K [.ref p] H Q := ⟨p, ys, rfl, .inl (SqL.of h), q⟩
theorem v_lenS {l : List Nat} (h : l.length ≤ 1000000) (q : Q (.int l.length) H) : rLenS [.str (tx l)] H Q := ⟨tx l, rfl, by rw [tx_len]; exact szl h, by rw [tx_len]; exact q⟩
end
/-! ### stepping: statements -/
section
variable {σ : St} {H : Hp} {i : Nat} {v : V} {te : TE} {tt u : TT} {t1 t2 : TS} {D : Ends}
theorem s_start {N : List Str} {vs : List V} {t : TS} (s0 : St) (h : start N vs = s0) (q : t D s0 H) : t D (start N vs) H := by rw [h]; exact q
theorem s_seq (q : t1 { D with nx := t2 D } σ H) : tSeq t1 t2 D σ H := q
theorem s_next (q : D.nx σ H) : tNext D σ H := q
theorem s_set (q : te σ H fun v H1 => D.nx (σ.set i (some v)) H1) : tAsg te (gName i) D σ H := q
theorem s_drop (q : te σ H fun _ H1 => D.nx σ H1) : tDrop te D σ H := q
theorem s_ret (q : te σ H D.rt) : tRet te D σ H := q
theorem s_if (q : tt σ H fun b H1 => if b = true then t1 D σ H1 else t2 D σ H1) : tIfS tt t1 t2 D σ H := q
theorem t_test {Q : Bool → Hp → Prop} (q : te σ H fun x H' => ∃ k, x = .bl k ∧ Q k H') : tTest te σ H Q := q
theorem t_B {Q : Bool → Hp → Prop} (q : te σ H fun x H' => ∃ k, x = .bl k ∧ Q k H') : tB te σ H Q := q
theorem t_and {Q : Bool → Hp → Prop} (q : tt σ H fun c H1 => if c = true then u σ H1 Q else Q false H1) : tAnd tt u σ H Q := q
theorem t_or {Q : Bool → Hp → Prop} (q : tt σ H fun c H1 => if c = true then Q true H1 else u σ H1 Q) : tOr tt u σ H Q := q
theorem t_not {Q : Bool → Hp → Prop} (q : tt σ H fun c H1 => Q (!c) H1) : tNot tt σ H Q := q
theorem s_dput {td ty tv : TE} (q : tv σ H fun v H1 => td σ H1 fun x H2 => ty σ H2 fun y H3 => ∃ a H4, x = .ref a ∧ DPut H3 a y v H4 ∧ D.nx σ H4) : sDPut td ty tv D σ H := q
theorem if_dec {c A B : Prop} [Decidable c] (h1 : c → A) (h2 : ¬ c → B) : if decide c = true then A else B := by
  by_cases h : c
  · rw [decide_eq_true h, if_pos rfl]; exact h1 h
  · rw [decide_eq_false h, if_neg Bool.false_ne_true]; exact h2 h
theorem if_ndec {c A B : Prop} [Decidable c] (h1 : ¬ c → A) (h2 : c → B) : if (!decide c) = true then A else B := by
  by_cases h : c
  · rw [decide_eq_true h]; exact iteF (h2 h)
  · rw [decide_eq_false h]; exact iteT (h1 h)
theorem if_bool {b : Bool} {A B : Prop} (h1 : b = true → A) (h2 : b = false → B) : if b = true then A else B := by
  cases b with
  | true => exact iteT (h1 rfl)
  | false => exact iteF (h2 rfl)
end

/-! ### cuts: what follows is shown once -/
section
variable {X : Cx} {σ : St} {H : Hp} {D : Ends} {t u : TS}
def tCutE (te : TE) : TE := fun σ H Q => ∃ Mid : V → Hp → Prop, te σ H Mid ∧ ∀ v H', Mid v H' → Q v H'
theorem pe_cut {e : Expr} {te : TE} (h : PE X e te) : PE X e (tCutE te) := by
  refine ⟨fun pins s σ H Q I q => ?_⟩
  obtain ⟨Mid, hm, hu⟩ := q
  exact thn (h.run pins s σ H Mid I hm) fun u s1 ⟨x, H1, I1, r1, q1⟩ => ⟨x, H1, I1, r1, hu x H1 q1⟩
theorem e_cut {te : TE} {Q : VK} (Mid : V → Hp → Prop) (h : te σ H Mid) (q : ∀ v H', Mid v H' → Q v H') : tCutE te σ H Q := ⟨Mid, h, q⟩
def tCutS (t u : TS) : TS := fun D σ H => ∃ Mid : St → Hp → Prop, t { D with nx := Mid } σ H ∧ ∀ σ' H', Mid σ' H' → u D σ' H'
theorem pss_cutS {st : Stmt} {rest : List Stmt} (h1 : PS X st t) (h2 : PSs X rest u) : PSs X (st :: rest) (tCutS t u) := by
  refine ⟨fun pins s σ H D I h => ?_⟩
  obtain ⟨Mid, hm, hu⟩ := h
  refine wpAny_execs_cons (thn (h1.run pins s σ H { D with nx := Mid } I hm) fun f s1 q => ?_)
  cases f with
  | next =>
    obtain ⟨σ', H', I', q⟩ := q
    exact h2.run pins s1 σ' H' D I' (hu σ' H' q)
  | ret v => exact q
  | brk => exact q
  | cont => exact q
theorem s_cut (Mid : St → Hp → Prop) (h : t { D with nx := Mid } σ H) (q : ∀ σ' H', Mid σ' H' → u D σ' H') : tCutS t u D σ H := ⟨Mid, h, q⟩
end
section
variable {σ : St} {H : Hp} {v y : V}
theorem v_put {P : Hp → Prop} {a : Addr} {o : HO} (h : DPut H a y v (upd H a o)) (q : ∀ H', Keep a H H' → H' a = some o → P H') : ∃ a' H4, V.ref a = .ref a' ∧ DPut H a' y v H4 ∧ P H4 := ⟨a, _, rfl, h, q _ Keep.put upd_same⟩
end
/-! ### data -/
theorem dp_ints {K : PySem.W.Frag} {H : Hp} : ∀ ns : List Int, DpAll K H (ns.map V.int) (ns.map PyData.int)
  | [] => .nil
  | n :: r => .cons (.int n) (dp_ints r)
theorem dp_strs {K : PySem.W.Frag} {H : Hp} : ∀ ns : List Str, DpAll K H (ns.map V.str) (ns.map PyData.str)
  | [] => .nil
  | n :: r => .cons (.str n) (dp_strs r)
theorem lay_ints : ∀ ns : List Int, PyData.canLayAll0 (ns.map PyData.int) = true
  | [] => rfl
  | n :: r => lay_ints r
theorem lay_strs : ∀ ns : List Str, (∀ x ∈ ns, PyData.strOk x = true) → PyData.canLayAll0 (ns.map PyData.str) = true
  | [], _ => rfl
  | n :: r, h => by
    show (PyData.strOk n && PyData.canLayAll0 (r.map PyData.str)) = true
    rw [h n (List.mem_cons_self ..), lay_strs r fun x hx => h x (List.mem_cons_of_mem _ hx)]
    rfl
theorem dep_ints : ∀ ns : List Int, PyData.depthAll (ns.map PyData.int) ≤ 1
  | [] => by decide
  | n :: r => Nat.max_le.mpr ⟨by show PyData.depth (.int n) ≤ 1; simp [PyData.depth], dep_ints r⟩
theorem dep_strs : ∀ ns : List Str, PyData.depthAll (ns.map PyData.str) ≤ 1
  | [] => by decide
  | n :: r => Nat.max_le.mpr ⟨by show PyData.depth (.str n) ≤ 1; simp [PyData.depth], dep_strs r⟩
theorem shaped_ints (ns : List Int) : SeqAt.shaped (.list (ns.map PyData.int)) = true := by
  have h := dep_ints ns
  have h2 : (PyData.list (ns.map PyData.int)).depth ≤ 64 := by simp only [PyData.depth]; omega
  have h3 : (PyData.list (ns.map PyData.int)).canLay0 = true := by simp only [PyData.canLay0]; exact lay_ints ns
  simp [SeqAt.shaped, h2, h3]
theorem shaped_strs (ns : List Str) (h0 : ∀ x ∈ ns, PyData.strOk x = true) : SeqAt.shaped (.list (ns.map PyData.str)) = true := by
  have h := dep_strs ns
  have h2 : (PyData.list (ns.map PyData.str)).depth ≤ 64 := by simp only [PyData.depth]; omega
  have h3 : (PyData.list (ns.map PyData.str)).canLay0 = true := by simp only [PyData.canLay0]; exact lay_strs ns h0
  simp [SeqAt.shaped, h2, h3]
theorem shaped_strsT (ns : List Str) (h0 : ∀ x ∈ ns, PyData.strOk x = true) : SeqAt.shaped (.tuple (ns.map PyData.str)) = true := by
  have h := dep_strs ns
  have h2 : (PyData.tuple (ns.map PyData.str)).depth ≤ 64 := by simp only [PyData.depth]; omega
  have h3 : (PyData.tuple (ns.map PyData.str)).canLay0 = true := by simp only [PyData.canLay0]; exact lay_strs ns h0
  simp [SeqAt.shaped, h2, h3]
theorem shaped_nil : SeqAt.shaped (.list []) = true := shaped_ints []
theorem eqv_nil {ds : List PyData} : PyData.eqv (.list ds) (.list []) = ds.isEmpty := by
  cases ds <;> simp [PyData.eqv, PyData.eqvAll]
theorem eqvAll_strs : ∀ (a b : List Str), PyData.eqvAll (a.map PyData.str) (b.map PyData.str) = decide (a = b)
  | [], [] => by simp [PyData.eqvAll]
  | [], _ :: _ => by simp [PyData.eqvAll]
  | _ :: _, [] => by simp [PyData.eqvAll]
  | x :: a, y :: b => by
    simp only [List.map_cons, PyData.eqvAll, PyData.eqv, eqvAll_strs a b]
    by_cases e : x = y
    · subst e; simp
    · simp [e]
section
variable {H : Hp} {Q : VK} {K : PySem.W.Frag} {p q : Addr}
theorem v_neNilI {ns : List Int} (h : H p = some (.lst (ns.map V.int))) (hq : H q = some (.lst [])) (k : Q (.bl (!ns.isEmpty)) H) : rNeD K (.ref p) (.ref q) H Q := by
  refine ⟨.list (ns.map PyData.int), .list [], .lst (SqL.of h) (dp_ints ns), .lst (SqL.of hq) .nil, shaped_ints ns, shaped_nil, ?_⟩
  rw [eqv_nil, List.isEmpty_map]
  exact k
end
theorem ok_tx {l : List Nat} (h : ∀ c ∈ l, c < 1000) : PyData.strOk (tx l) = true := by
  show (l.toArray).all (fun c => decide (c < 0x110000)) = true
  rw [List.all_toArray, List.all_eq_true]
  intro c hc
  have := h c hc
  simp
  omega
theorem wdiv {i m : Int} (h : 0 < m) (h2 : m < 1000000) : CDivW i m := wide_div (b := 20) h (by omega) (by decide) (by decide)
end Cw
set_option Elab.async false
set_option linter.all false
set_option maxRecDepth 100000
set_option maxHeartbeats 4000000
/-! set(text), len(set(..)): a set of texts out of anything that is walked. -/
namespace Cw
open PySem PySem.Spec L2
/-- the different ones, in the order in which they are met -/
def metAdd (l : List Str) (z : Str) : List Str := if z ∈ l then l else l ++ [z]
def metOf (l : List Str) : List Str := l.foldl metAdd []
theorem metAdd_mem {l : List Str} {z y : Str} : y ∈ metAdd l z ↔ y ∈ l ∨ y = z := by
  unfold metAdd
  by_cases h : z ∈ l
  · rw [if_pos h]
    exact ⟨Or.inl, fun k => k.elim id fun e => e ▸ h⟩
  · rw [if_neg h, List.mem_append, List.mem_singleton]
theorem metOf_snoc (l : List Str) (z : Str) : metOf (l ++ [z]) = metAdd (metOf l) z := by
  unfold metOf
  rw [List.foldl_append]
  rfl
theorem metFold_mem (y : Str) : ∀ (l acc : List Str), y ∈ l.foldl metAdd acc ↔ y ∈ acc ∨ y ∈ l
  | [], acc => by simp
  | z :: r, acc => by
    rw [List.foldl_cons, metFold_mem y r, metAdd_mem, List.mem_cons, or_assoc]
theorem metOf_mem {l : List Str} {y : Str} : y ∈ metOf l ↔ y ∈ l := by
  unfold metOf
  rw [metFold_mem]
  simp
theorem metAdd_len (l : List Str) (z : Str) : (metAdd l z).length = if z ∈ l then l.length else l.length + 1 := by
  unfold metAdd
  split <;> simp
theorem metFold_len : ∀ (l acc : List Str), (l.foldl metAdd acc).length ≤ acc.length + l.length
  | [], acc => Nat.le_refl _
  | z :: r, acc => by
    have h1 := metFold_len r (metAdd acc z)
    have h2 := metAdd_len acc z
    rw [List.foldl_cons, List.length_cons]
    split at h2 <;> omega
theorem metOf_len (l : List Str) : (metOf l).length ≤ l.length := by
  have h := metFold_len l []
  simp only [List.length_nil, Nat.zero_add] at h
  exact h
theorem metFold_nodup : ∀ (l acc : List Str), (acc ++ l).Nodup → l.foldl metAdd acc = acc ++ l
  | [], acc, _ => by simp
  | z :: r, acc, h => by
    have hz : ¬ z ∈ acc := fun m => by
      have := (List.nodup_append.mp h).2.2 z m z (List.mem_cons_self ..)
      exact this rfl
    have e : metAdd acc z = acc ++ [z] := by unfold metAdd; rw [if_neg hz]
    rw [List.foldl_cons, e, metFold_nodup r (acc ++ [z]) (by simpa using h)]
    simp
theorem metOf_nodup {l : List Str} (h : l.Nodup) : metOf l = l := by
  unfold metOf
  rw [metFold_nodup l [] (by simpa using h)]
  rfl
/-- fewer, where one comes twice -/
theorem metFold_lt : ∀ (l acc : List Str), acc.Nodup → (¬ l.Nodup ∨ ∃ z, z ∈ l ∧ z ∈ acc) → (l.foldl metAdd acc).length < acc.length + l.length
  | [], acc, _, h => by
    rcases h with h | ⟨z, h, _⟩
    · exact absurd List.nodup_nil h
    · cases h
  | z :: r, acc, ha, h => by
    rw [List.foldl_cons, List.length_cons]
    have hl := metAdd_len acc z
    by_cases hz : z ∈ acc
    · rw [if_pos hz] at hl
      have h1 := metFold_len r (metAdd acc z)
      omega
    · rw [if_neg hz] at hl
      have e : metAdd acc z = acc ++ [z] := by unfold metAdd; rw [if_neg hz]
      have nd : (metAdd acc z).Nodup := by
        rw [e]
        exact nd_snoc ha hz
      have k : ¬ r.Nodup ∨ ∃ y, y ∈ r ∧ y ∈ metAdd acc z := by
        rcases h with h | ⟨y, h1, h2⟩
        · rw [List.nodup_cons] at h
          by_cases hr : z ∈ r
          · exact Or.inr ⟨z, hr, by rw [e]; simp⟩
          · exact Or.inl fun n => h ⟨hr, n⟩
        · rcases List.mem_cons.mp h1 with q | q
          · exact absurd (q ▸ h2) hz
          · exact Or.inr ⟨y, q, by rw [e]; simp [h2]⟩
      have h1 := metFold_lt r (metAdd acc z) nd k
      omega
theorem metOf_lt {l : List Str} (h : ¬ l.Nodup) : (metOf l).length < l.length := by
  have k := metFold_lt l [] List.nodup_nil (Or.inl h)
  simp only [List.length_nil, Nat.zero_add] at k
  exact k
/-- the set at a holds just the texts of l -/
abbrev SetIs (P : Program) (w : World) (h : Heap) (a : Addr) (l : List Str) : Prop := h.SetOf (PySem.strKind P w) a (fun z => decide (z ∈ l)) l.length
theorem SetIs.at {P : Program} {w : World} {h h' : Heap} {a : Addr} {l : List Str} (R : SetIs P w h a l) (k : ∀ o, h.get? a = some o → h'.get? a = some o) : SetIs P w h' a l := by
  obtain ⟨o, es, ep, t, ho, r⟩ := R
  exact ⟨o, es, ep, t, k o ho, r⟩
section
variable {P : Program} {w : World} {A : Around} {R : Result → Shared → Prop} {J : Addr} {fp wr : List Addr} {n : Nat} {Y : Nat → Value → Prop} {St : Nat → Heap → Prop}
theorem set_loop (W : Walks P w A.in1 J fp wr n Y St) (S : Addr) (hS : S ∉ fp) (xs : List Str) (hn : xs.length = n) (hy : ∀ i v, Y i v → ∃ x t, xs[i]? = some x ∧ v = .str x t) (hb : n + 1 < scanBound) :
    ∀ (k i : Nat) (s : Shared), n - i = k → i ≤ n → St i s.heap → SetIs P w s.heap S (metOf (xs.take i)) →
      (∀ h' tk, (∀ b o, b ∉ S :: wr → s.heap.get? b = some o → h'.get? b = some o) → SetIs P w h' S (metOf xs) → R (.ok (.ret .none)) { s with heap := h', toks := tk }) →
      codeAny (model P w) A (.builtin "set.update.loop" ⟨[.ref S, .ref J], []⟩) R s := by
  have hw : S ∉ wr := fun h => hS (W.sub _ h)
  intro k
  induction k with
  | zero =>
    intro i s hk hi st hset q
    have e : i = n := by omega
    subst e
    refine codeAny_builtin PyProof.Rows.F.entry_set_update_loop ?_
    rw [Around.under_plainId PyProof.Rows.F.plain_set_update_loop _]
    show wpAny _ A.in1 (pyNext (.ref J) >>= _) _ _ s
    refine wpAny_bind (W.done s _ _ st fun h' tk kp => ?_)
    show wpAny _ A.in1 (ret Value.none) _ _ _
    refine wpAny_pure (q h' tk (fun b o nb eb => kp b o (fun z => nb (List.mem_cons_of_mem _ z)) eb) ?_)
    rw [List.take_of_length_le (by omega)] at hset
    exact hset.at fun o eo => kp S o hw eo
  | succ k ih =>
    intro i s hk hi st hset q
    have hlt : i < n := by omega
    refine codeAny_builtin PyProof.Rows.F.entry_set_update_loop ?_
    rw [Around.under_plainId PyProof.Rows.F.plain_set_update_loop _]
    show wpAny _ A.in1 (pyNext (.ref J) >>= _) _ _ s
    refine wpAny_bind (W.item i s _ _ hlt st fun v h1 tk hv st1 kp => ?_)
    obtain ⟨x, t, hx, rfl⟩ := hy i v hv
    have hset1 := hset.at (h' := h1) fun o eo => kp S o hw eo
    show wpAny _ A.in1 (holding [Value.str x t] (setAdd S (.str x t)) >>= _) _ _ _
    refine wpAny_bind (wpAny_holding ?_)
    unfold setAdd
    refine wpAny_holding (wpAny_bind ((PySem.strKind P w).pyHash (k := x) (strKind_is _ _ _ _) ?_))
    have hroom : (metOf (xs.take i)).length + 1 < scanBound := by
      have h2 := metOf_len (xs.take i)
      rw [List.length_take] at h2
      omega
    refine wpAny_setAddHashed_of (knd := PySem.strKind P w) (s := { heap := h1, gens := s.gens, drawn := s.drawn, toks := tk + 1, os := s.os }) (strKind_is _ _ _ _) rfl hset1 hroom fun h2 sb hset2 => ?_
    have e1 : xs.take (i + 1) = xs.take i ++ [x] := by
      rw [List.take_add_one, hx]
      rfl
    have hset3 : SetIs P w h2 S (metOf (xs.take (i + 1))) := by
      refine PyProof.Rows.SetOf_congr hset2 (fun z => ?_) ?_
      · rw [e1, metOf_snoc, Bool.eq_iff_iff]
        simp only [Bool.or_eq_true, decide_eq_true_eq]
        exact metAdd_mem.symm
      · rw [e1, metOf_snoc, metAdd_len]
        simp only [decide_eq_true_eq]
    refine wpAny_pure ⟨plainId_quiet PyProof.Rows.F.plain_set_update_loop _, ih (i + 1) _ (by omega) hlt (W.frame _ _ _ st1 fun b hb o eo => ?_) hset3 fun h3 tk3 kp3 hs3 => ?_⟩
    · rw [sb.2 b fun z => hS (z ▸ hb)]
      exact eo
    · refine q h3 tk3 (fun b o nb eb => kp3 b o nb ?_) hs3
      show h2.get? b = some o
      rw [sb.2 b fun z => nb (z ▸ List.mem_cons_self ..)]
      exact kp b o (fun z => nb (List.mem_cons_of_mem _ z)) eb
end

/-! ### the call -/
abbrev freshSet (b : Bool) : Obj := { cls := .type "set", dict := none, data := .set #[] 0 (.fresh 0 0 b) }
section
variable {P : Program} {w : World} {A : Around} {E : Value → Shared → Prop} {s : Shared}
theorem set_of_text {x : Str} {t : Tok} {Q : Value → Shared → Prop} (hh : A.handled = none) (hb : x.cps.size + 1 < scanBound)
    (h : ∀ (h' : Heap) (tk : Nat), SetIs P w h' s.heap.objs.size (metOf (x.cps.toList.map fun c => (⟨#[c]⟩ : Str))) → (∀ b o, b < s.heap.objs.size → s.heap.get? b = some o → h'.get? b = some o) → Q (.ref s.heap.objs.size) { s with heap := h', toks := tk }) :
    wpAny (model P w) A (call (.type "set") [.str x t]) Q E s := by
  obtain ⟨c, tl, hmro⟩ := PySem.F.called_set.mro
  have hmade := PySem.F.called_set.made
  have hsub := PySem.F.called_set.sub
  refine wpAny_call (codeAny_of_tree ?_)
  show wpAny _ _ (callAny (.type "set") _) _ _ _
  refine wpAny_pure ⟨Code.quiet_builtin _ (by decide +kernel), codeAny_builtin PySem.F.entry_type_call ?_⟩
  rw [Around.under_plain (weight_type_call_type "set" [.str x t] []) rfl]
  have h1 := PySem.F.called_set.notType
  have h2 := PySem.F.called_set.canCreate
  have hct := PySem.F.typeCall_set_1 (.str x t)
  repeat (any_goals (first | assumption | wp_step))
  refine codeAny_mono (code_set_new_1 (.str x t) (E := E) (Q₁ := fun obj s1 => ∃ b : Bool, obj = .ref s.heap.objs.size ∧ s1 = { s with heap := s.heap.push (freshSet b) }) fun b => ⟨b, rfl, rfl⟩) fun r s1 hr => ?_
  cases r with
  | error e => exact hr
  | ok fl =>
    cases fl with
    | ret obj =>
      obtain ⟨b, rfl, rfl⟩ := hr
      have hS : (s.heap.push (freshSet b)).get? s.heap.objs.size = some (freshSet b) := Heap.get?_push_size _ rfl
      have hT : Shared.TypeIs { s with heap := s.heap.push (freshSet b) } (.ref s.heap.objs.size) "set" := ⟨_, hS, rfl⟩
      have hli := PySem.F.called_set.init.lookup
      have hbi := PySem.F.called_set.init.bind (.ref s.heap.objs.size)
      repeat (any_goals (first | assumption | wp_step))
      refine codeAny_mono (codeAny_call_builtin (R := wants (fun r s2 => r = .none ∧ ∃ h' tk, s2 = { s with heap := h', toks := tk } ∧ SetIs P w h' s.heap.objs.size (metOf (x.cps.toList.map fun c => (⟨#[c]⟩ : Str))) ∧
          (∀ b o, b < s.heap.objs.size → s.heap.get? b = some o → h'.get? b = some o)) E) PySem.F.called_set.init.plain PySem.F.entry_set_init (check_set_init_1 hT ?_)) fun r2 s2 hr2 => ?_
      · have k1 := F.sub_str_set
        have k2 := F.sub_str_frozenset
        have k3 : (Value.type "str" == Value.type "dict") = false := by decide
        unfold Builtin.«set.__init__» noKeywords Builtin.Frozenset.updateFrom
        generalize hPI : pyIter = PI
        wp_walk
        subst hPI
        refine wpAny_pyIter_str fun ob St hw st => ?_
        refine wpAny_bind (wpAny_runValue ?_)
        have hh3 : A.in1.in1.in1.handled = none := by simp [hh]
        have hne : s.heap.objs.size ∉ [(s.heap.push (freshSet b)).objs.size] := by
          rw [Heap.size_push, List.mem_singleton]
          exact Nat.ne_of_lt (Nat.lt_succ_self _)
        refine set_loop (hw _ hh3) s.heap.objs.size hne (x.cps.toList.map fun c => (⟨#[c]⟩ : Str)) (by simp) (fun i v hv => ?_) hb _ 0 _ rfl (Nat.zero_le _) st ?_ fun h' tk kp hs => ?_
        · obtain ⟨c, u, hc, rfl⟩ := hv
          exact ⟨⟨#[c]⟩, u, by simp [hc], rfl⟩
        · have hg : ((s.heap.push (freshSet b)).push ob).get? s.heap.objs.size = some (freshSet b) := Heap.get?_push_of_some _ hS
          exact PyProof.Rows.SetOf_congr ((PyProof.Rows.setObjOf_fresh (knd := PySem.strKind P w) b).setOf hg (by unfold scanBound; omega)) (fun z => by simp [metOf]) rfl
        · refine wpAny_pure ?_
          show wpAny _ _ (ret Value.none) _ _ _
          refine wpAny_pure ⟨rfl, h', tk, rfl, hs, fun a o ha eo => kp a o ?_ (Heap.get?_push_of_some _ (Heap.get?_push_of_some _ eo))⟩
          rw [Heap.size_push]
          simp only [List.mem_cons, List.not_mem_nil, or_false, not_or]
          exact ⟨Nat.ne_of_lt ha, Nat.ne_of_lt (Nat.lt_succ_of_lt ha)⟩
      · cases r2 with
        | error e => exact hr2
        | ok fl2 =>
          cases fl2 with
          | ret r =>
            obtain ⟨rfl, h', tk, rfl, hs', hk'⟩ := hr2
            repeat (any_goals (first | assumption | wp_step))
            exact h _ _ hs' hk'
          | _ => exact hr2.elim
    | _ => exact hr.elim
end
/-! ### over the layer -/
/-- a set of texts -/
def SetT (P : Program) (w : World) (a : Addr) (l : List Str) : HO := .ext fun h => SetIs P w h a l
theorem setT_new {P : Program} {w : World} {H : Hp} {h : Heap} {a : Addr} {l : List Str} (R : SetIs P w h a l) : ObjOk P w H h a (SetT P w a l) := by
  have ⟨o, _, _, _, ho, _⟩ := R
  exact ⟨R, ⟨o, ho⟩, fun h1 h2 q k => SetIs.at q k⟩
def rSetTx (P : Program) (w : World) : List V → Hp → VK → Prop := fun xs H Q => ∃ l : List Nat, xs = [.str (tx l)] ∧ l.length + 1 < scanBound ∧ ∀ p, H p = none → Q (.ref p) (upd H p (SetT P w p (metOf (l.map fun c => tx [c]))))
def rLenSet (P : Program) (w : World) : List V → Hp → VK → Prop := fun xs H Q => ∃ (p : Addr) (l : List Str), xs = [.ref p] ∧ H p = some (SetT P w p l) ∧ Q (.int l.length) H
section
variable {X : Cx}
theorem c_setS (hc : X.calm = true) : CallR X (.type "set") (rSetTx X.prog X.w) := by
  intro pins s σ H xs us Q I r h
  obtain ⟨l, rfl, hl, q⟩ := h
  obtain ⟨u, rfl, t, rfl⟩ := vals1 r
  refine set_of_text (I.ok.hd hc) (by simpa using hl) fun h' tk hs hk => ?_
  have hp : H s.heap.objs.size = none := I.hok.fresh (Nat.le_refl _)
  refine ⟨.ref s.heap.objs.size, upd H s.heap.objs.size (SetT X.prog X.w s.heap.objs.size (metOf (l.map fun c => tx [c]))), I.laid (h' := h') (t' := tk) (fun b o e => hk b o (Heap.lt_size e) e) (Nat.le_refl _) (setT_new ?_), rfl, q _ hp⟩
  simpa using hs
theorem c_lenSet : CallR X (.builtin "len") (rLenSet X.prog X.w) := by
  intro pins s σ H xs us Q I r h
  obtain ⟨p, l, rfl, hp, q⟩ := h
  obtain ⟨u, rfl, ru⟩ := vals1 r
  cases ru
  have hs : SetIs X.prog X.w s.heap p l := (I.hok p _ hp).1
  obtain ⟨o, es, ep, t, ho, hex, hd, h1, h2, h3, hf, hn⟩ := hs
  refine call_len_set ho hex hd hf ?_ ⟨.int l.length, H, I.tok _, ⟨_, by rw [hn]⟩, q⟩
  have : es.size < scanBound := h3
  unfold scanBound at this
  omega
end
theorem v_setS {P : Program} {w : World} {H : Hp} {Q : VK} {l : List Nat} (h : l.length < 1000) (q : ∀ p H', H p = none → Same H H' → H' p = some (SetT P w p (metOf (l.map fun c => tx [c]))) → Q (.ref p) H') : rSetTx P w [.str (tx l)] H Q :=
  ⟨l, rfl, by unfold scanBound; omega, fun p hp => q p _ hp (Same.new hp) upd_same⟩
theorem v_lenSet {P : Program} {w : World} {H : Hp} {Q : VK} {p : Addr} {l : List Str} (h : H p = some (SetT P w p l)) (q : Q (.int l.length) H) : rLenSet P w [.ref p] H Q := ⟨p, l, rfl, h, q⟩
end Cw
set_option Elab.async false
set_option linter.all false
set_option maxRecDepth 100000
set_option maxHeartbeats 4000000
/-! operators of classes of one's own -/
namespace PySem.W
open PySem PySem.Calls PyProof.Rows Builtin
section
variable {prog : Program} {w : World} {A : Around} {E : Value → Shared → Prop} {s : Shared} {K : Frag} {x C L f : Addr} {h0 : Heap} {m : Str → Option Value} {ox : Obj} {od : Option Obj} {b tb : Value}
end
end PySem.W
set_option Elab.async false
set_option linter.all false
set_option maxRecDepth 100000
set_option maxHeartbeats 4000000
namespace Cw
open PySem PySem.Spec L2
/-! ### methods -/
structure MAt (K : PySem.W.Frag) (C : Addr) (m qual : Str) (st : Stmt) : Prop where
  ex : ∃ f fd, PySem.W.findIn K (.ref C) m = some (some (.ref f)) ∧ PySem.W.isFn K (.ref f) = true ∧ Fun K m qual st f fd
structure MDef (P : Program) (w : World) (K : PySem.W.Frag) (mg : Str → Option Value) (base : Heap) (CX : CXT) (k : Nat) (C : Addr) (m : Str) (ps : List Str) (sp : Sp) : Prop where
  ex : ∃ f fd, PySem.W.findIn K (.ref C) m = some (some (.ref f)) ∧ PySem.W.isFn K (.ref f) = true ∧ PySem.W.keepIn K (.ref f) = true ∧ Bd K f fd ps ∧ FnOk P w K mg base CX k f fd ps sp
section
variable {P : Program} {w : World} {K : PySem.W.Frag} {mg : Str → Option Value} {base : Heap} {CX : CXT} {k : Nat} {C : Addr} {m qual : Str} {ps N : List Str} {sp : Sp} {st : Stmt}
theorem MDef.mono {j : Nat} (D : MDef P w K mg base CX j C m ps sp) (h : j ≤ k) : MDef P w K mg base CX k C m ps sp := by
  obtain ⟨f, fd, a, b, c, d, e⟩ := D.ex
  exact ⟨f, fd, a, b, c, d, e.mono h⟩
theorem MDef.imp {sp' : Sp} (D : MDef P w K mg base CX k C m ps sp) (h : ∀ vs H Q E, sp' vs H Q E → sp vs H Q E) : MDef P w K mg base CX k C m ps sp' := by
  obtain ⟨f, fd, a, b, c, d, e⟩ := D.ex
  exact ⟨f, fd, a, b, c, d, e.imp h⟩
theorem MAt.ok (F : MAt K C m qual st) (S : FnScope N ps (defScope st))
    (hb : ∀ (kV doc pm : Value) (an : Option Addr) (cdv ct : Value) (us : List Value), us.length = ps.length → bindArgs (PySem.W.fnOf m qual (defArgs st) (defBody st) (defScope st) .none kV doc pm an cdv ct) ⟨us, []⟩ = pure (ps.zip us))
    (len : ∀ vs H Q E, sp vs H Q E → vs.length = ps.length)
    (hbody : ∀ (f : Addr) (cdv : Value) (A : Around) (outer : List Env) (s : Shared) (H : Hp) (vs : List V) (Q : VK) (E : XK), Room k (A.deeper (PyProof.Rows.envOfC qual (defScope st) s.heap.objs.size f cdv)) → sp vs H Q E →
      ∃ t, PSs (cxOf CX0 P w K mg base N qual (defScope st) f cdv A outer s H E).nox (defBody st) t ∧ t { nx := fun _ H' => Q .non H', rt := Q } (start N vs) H) : MDef P w K mg base CX0 (k + 1) C m ps sp := by
  obtain ⟨f, fd, h1, h2, F⟩ := F.ex
  exact ⟨f, fd, h1, h2, F.kp, ⟨F.binds hb, funLk F⟩, F.ok S len fun cdv A outer s H vs Q E hr h => hbody f cdv A outer s H vs Q E hr h⟩
theorem MAt.okX (F : MAt K C m qual st) (S : FnScope N ps (defScope st))
    (hb : ∀ (kV doc pm : Value) (an : Option Addr) (cdv ct : Value) (us : List Value), us.length = ps.length → bindArgs (PySem.W.fnOf m qual (defArgs st) (defBody st) (defScope st) .none kV doc pm an cdv ct) ⟨us, []⟩ = pure (ps.zip us))
    (len : ∀ vs H Q E, sp vs H Q E → vs.length = ps.length)
    (hbody : ∀ (f : Addr) (cdv : Value) (A : Around) (outer : List Env) (s : Shared) (H : Hp) (vs : List V) (Q : VK) (E : XK), Room k (A.deeper (PyProof.Rows.envOfC qual (defScope st) s.heap.objs.size f cdv)) → sp vs H Q E →
      ∃ t, PSs (cxOf (L2.CX P w) P w K mg base N qual (defScope st) f cdv A outer s H E) (defBody st) t ∧ t { nx := fun _ H' => Q .non H', rt := Q } (start N vs) H) : MDef P w K mg base (L2.CX P w) (k + 1) C m ps sp := by
  obtain ⟨f, fd, h1, h2, F⟩ := F.ex
  exact ⟨f, fd, h1, h2, F.kp, ⟨F.binds hb, funLk F⟩, F.okX S len fun cdv A outer s H vs Q E hr h => hbody f cdv A outer s H vs Q E hr h⟩
end
section
variable {X : Cx} {CX : CXT} {k : Nat} {C : Addr} {m : Str} {ps : List Str} {sp : Sp} {E : XK} {pos apos : PySem.Pos} {o e : Expr} {es : List Expr} {ta : TE} {t : TA}
theorem pe_md {pl : Sem Bool} (D : MDef X.prog X.w X.K X.mg X.base CX k C m ps sp) (c : Cls X.K C) (hr : Room k X.A) (hx : Passes CX X E) (he : PE X o ta) (ha : PA X (e :: es) t)
    (hst : starEach (e :: es) X.env = (false, eval e X.env) :: starEach es X.env := by rfl) (hpl : (backTo pos (starEach es X.env)).any (·.1) = false := by rfl)
    (ht : eval (.Call (.Attribute o m apos) (e :: es) [] pos) X.env = (do
      let ov ← eval o X.env
      standAt apos.atName
      let (f, first) ← holding [ov] (getMethod ov m pl)
      callWith pos f first (backTo pos (starEach (e :: es) X.env)) (backToKw pos (keywordEach [] X.env))) := by rfl) :
    PE X (.Call (.Attribute o m apos) (e :: es) [] pos) (tMeth C m sp [] E ta t) := by
  obtain ⟨f, fd, a, b, kp, ⟨d, _⟩, g⟩ := D.ex
  exact pe_meth (pl := pl) he c ⟨a, b, kp⟩ g hr d .nil hx ha hst hpl ht
/-- two instances of the class at C, by its own operator -/
def rM2 (C : Addr) (sp : Sp) (E : XK) : R2 := fun x y H Q => ∃ a b dx dy fs gs, x = .ref a ∧ y = .ref b ∧ H a = some (.ins C dx fs) ∧ H b = some (.ins C dy gs) ∧ sp [.ref a, .ref b] H Q E
def rM2n (C : Addr) (sp : Sp) (E : XK) : R2 := fun x y H Q => ∃ a b dx dy fs gs, x = .ref a ∧ y = .ref b ∧ H a = some (.ins C dx fs) ∧ H b = some (.ins C dy gs) ∧ sp [.ref a, .ref b] H (fun v H' => ∃ r, v = .bl r ∧ Q (.bl (!r)) H') E
/-- len(o) -/
def rLenM (C : Addr) (sp : Sp) (E : XK) : List V → Hp → VK → Prop := fun xs H Q => ∃ a dx fs, xs = [.ref a] ∧ H a = some (.ins C dx fs) ∧ sp [.ref a] H (fun v H' => ∃ n : Nat, v = .int n ∧ n < 1000000 ∧ Q (.int n) H') E
end
section
variable {C : Addr} {sp : Sp} {E : XK} {H : Hp} {Q : VK} {a b dx dy : Addr} {fs gs : List (Str × V)}
theorem v_M2 (ha : H a = some (.ins C dx fs)) (hb : H b = some (.ins C dy gs)) (q : sp [.ref a, .ref b] H Q E) : rM2 C sp E (.ref a) (.ref b) H Q := ⟨a, b, dx, dy, fs, gs, rfl, rfl, ha, hb, q⟩
theorem v_M2n (ha : H a = some (.ins C dx fs)) (hb : H b = some (.ins C dy gs)) (q : sp [.ref a, .ref b] H (fun v H' => ∃ r, v = .bl r ∧ Q (.bl (!r)) H') E) : rM2n C sp E (.ref a) (.ref b) H Q := ⟨a, b, dx, dy, fs, gs, rfl, rfl, ha, hb, q⟩
theorem v_lenM (ha : H a = some (.ins C dx fs)) (q : sp [.ref a] H (fun v H' => ∃ n : Nat, v = .int n ∧ n < 1000000 ∧ Q (.int n) H') E) : rLenM C sp E [.ref a] H Q := ⟨a, dx, fs, rfl, ha, q⟩
end
end Cw
set_option Elab.async false
set_option linter.all false
set_option maxRecDepth 100000
set_option maxHeartbeats 4000000
namespace Cw
open PySem PySem.Spec L2
/-! ### texts as lists of codes: operators -/
def rTAdd : R2 := fun x y H Q => ∃ a b : List Nat, x = .str (tx a) ∧ y = .str (tx b) ∧ a.length + b.length ≤ 1000000 ∧ Q (.str (tx (a ++ b))) H
def rTLt : R2 := fun x y H Q => ∃ a b : List Nat, x = .str (tx a) ∧ y = .str (tx b) ∧ Q (.bl (decide (a < b))) H
section
variable {X : Cx}
theorem op_addS : OpR X (binaryOp .Add) rTAdd := by
  intro pins s σ H x y v u Q I rx ry h
  obtain ⟨a, b, rfl, rfl, hl, q⟩ := h
  refine op_add_str pins s σ H _ _ v u Q I rx ry ⟨tx a, tx b, rfl, rfl, ?_, ?_⟩
  · rw [tx_len, tx_len]; exact szl hl
  · rw [tx_app]; exact q
theorem op_ltS : OpR X (compareOp .Lt) rTLt := by
  intro pins s σ H x y v u Q I rx ry h
  obtain ⟨a, b, rfl, rfl, q⟩ := h
  exact op_lt_str pins s σ H _ _ v u Q I rx ry ⟨tx a, tx b, rfl, rfl, by simpa using q⟩
/-- text[::-1] -/
def tRevS (te : TE) : TE := fun σ H Q => te σ H fun x H1 => ∃ l : List Nat, x = .str (tx l) ∧ l.length ≤ 1000000 ∧ Q (.str (tx l.reverse)) H1
theorem pe_revS {e : Expr} {te : TE} {k : Nat} {p1 p2 p3 pos : PySem.Pos} (he : PE X e te) : PE X (.Subscript e (.Slice none none (some (.UnaryOp .USub (.Constant (.int 1) k p1) p2)) p3) pos) (tRevS te) := by
  refine ⟨fun pins s σ H Q I h => ?_⟩
  refine PyProof.Rows.Subscript_ (thn (he.run pins s σ H _ I h) fun v s1 ⟨x, H1, I1, r1, l, ex, hl, q⟩ => ?_)
  subst ex
  obtain ⟨t, rfl⟩ := r1
  have hst : PO X (some (.UnaryOp .USub (.Constant (.int 1) k p1) p2)) (tPart (tUn (rU fun i => .int (-i)) (tC (.int 1)))) := po_some (pe_un un_neg pe_int)
  refine wpAny_Slice (thn (po_none.run pins s1 σ H1 (fun o H2 => o = none ∧ H2 = H1) I1 ⟨rfl, rfl⟩) fun vl s2 ⟨o1, H2, I2, w1, e1, e2⟩ => ?_)
  subst e1 e2
  refine thn (po_none.run pins s2 σ H2 (fun o H3 => o = none ∧ H3 = H2) I2 ⟨rfl, rfl⟩) fun vu s3 ⟨o2, H3, I3, w2, e3, e4⟩ => ?_
  subst e3 e4
  refine thn (hst.run pins s3 σ H3 (fun o H4 => o = some (-1) ∧ H4 = H3) I3 ⟨1, rfl, -1, rfl, rfl, rfl⟩) fun vs s4 ⟨o3, H4, I4, w3, e5, e6⟩ => ?_
  subst e5 e6
  obtain ⟨l1, rfl, m1⟩ := IsPart.raw w1
  obtain ⟨l2, rfl, m2⟩ := IsPart.raw w2
  obtain ⟨l3, rfl, m3⟩ := IsPart.raw w3
  have I5 : Inv X pins σ H4 { s4 with heap := s4.heap.push { cls := .type "slice", data := .fields #[partValue l1, partValue l2, partValue l3] } } := I4.kept (t' := s4.toks) fun b ob q => Heap.get?_push_of_some _ q
  show wpAny (model X.prog X.w) X.A (PyProof.Rows.subscriptTail e (.Slice none none (some (.UnaryOp .USub (.Constant (.int 1) k p1) p2)) p3) (.str (tx l) t) (.ref s4.heap.objs.size)) (EP X pins σ Q) X.xe _
  refine PyProof.Rows.tail_any (ops := [.str (tx l) t, .ref s4.heap.objs.size]) (typeIs_str _ _ _) F.slot_str_getitem.lookup ?_ (by with_unfolding_all rfl)
  refine wpAny_getItem_str_slice (l := l1) (u := l2) (st := l3) ⟨_, Heap.get?_push_size _ rfl, rfl, rfl⟩ (by rw [m3]; rfl) ?_
  unfold sliceMade slicePicked
  rw [m1, m2, m3]
  have e : (⟨((Builtin.Str.strSliceIndices none none ((some (-1 : Int)).getD 1) (tx l).length).filterMap ((tx l).cps[·]?)).toArray⟩ : Str) = tx l.reverse := by
    show (⟨((Builtin.Str.strSliceIndices none none (-1) (tx l).length).filterMap ((tx l).cps[·]?)).toArray⟩ : Str) = tx l.reverse
    rw [PyProof.Rows.picked_rev, tx_len, PySem.W.krv_range]
    have k2 := PySem.W.krv_all (tx l).cps
    rw [show (tx l).cps.size = l.length from tx_len l] at k2
    rw [List.filterMap_reverse, k2]
  rw [e]
  rw [if_neg (by simp)]
  refine ⟨?_, .str (tx l.reverse), H4, I5.tok _, ⟨_, rfl⟩, q⟩
  rw [tx_len, List.length_reverse]
  exact szl hl
end
section
variable {σ : St} {H : Hp} {Q : VK}
theorem v_addS {a b : List Nat} (h : a.length + b.length ≤ 1000000) (q : Q (.str (tx (a ++ b))) H) : rTAdd (.str (tx a)) (.str (tx b)) H Q := ⟨a, b, rfl, rfl, h, q⟩
theorem v_ltS {a b : List Nat} (q : Q (.bl (decide (a < b))) H) : rTLt (.str (tx a)) (.str (tx b)) H Q := ⟨a, b, rfl, rfl, q⟩
theorem e_revS {te : TE} (q : te σ H fun x H1 => ∃ l : List Nat, x = .str (tx l) ∧ l.length ≤ 1000000 ∧ Q (.str (tx l.reverse)) H1) : tRevS te σ H Q := q
theorem v_revS {l : List Nat} {P : List Nat → Prop} (h : l.length ≤ 1000000) (q : P l) : ∃ l' : List Nat, V.str (tx l) = .str (tx l') ∧ l'.length ≤ 1000000 ∧ P l' := ⟨l, rfl, h, q⟩
end
end Cw
set_option Elab.async false
set_option linter.all false
set_option maxRecDepth 100000
set_option maxHeartbeats 4000000
namespace Cw
open PySem PySem.Spec L2
/-! ### constants and globals -/
section
variable {X : Cx} {x : Str} {pos : PySem.Pos} {j : Nat}
theorem pe_tx {kd : _} (l : List Nat) (h : x = tx l) : PE X (.Constant (.str x) kd pos) (tC (.str (tx l))) := by
  rw [h]
  exact pe_str
theorem pe_globS {z : Str} (h : ∃ t, X.mg x = some (.str z t)) (hg : Gl X x := by rfl) (hd : (x == ("__debug__" : Str)) = false := by decide) : PE X (.Name x pos) (tC (.str z)) := by
  obtain ⟨t, h⟩ := h
  exact pe_glob hg h ⟨t, rfl⟩ hd
theorem pe_globI {z : Int} (h : ∃ t, X.mg x = some (.int z t)) (hg : Gl X x := by rfl) (hd : (x == ("__debug__" : Str)) = false := by decide) : PE X (.Name x pos) (tC (.int z)) := by
  obtain ⟨t, h⟩ := h
  exact pe_glob hg h ⟨t, rfl⟩ hd
end
/-! ### slices of texts -/
theorem sl_S {X : Cx} : SlR X rSlS := sl_str
section
variable {σ : St} {H : Hp} {Q : VK} {te : TE} {tl th : TO} {K : PySem.W.Frag}
theorem e_sl {r : V → Option Int → Option Int → Hp → VK → Prop} (q : te σ H fun x H1 => tl σ H1 fun l H2 => th σ H2 fun u H3 => r x l u H3 Q) : tSl r te tl th σ H Q := q
theorem e_nopart {Q : Option Int → Hp → Prop} (q : Q none H) : tNoPart σ H Q := q
theorem e_part {Q : Option Int → Hp → Prop} (q : te σ H fun x H1 => ∃ i, x = .int i ∧ Q (some i) H1) : tPart te σ H Q := q
theorem cut_to (l : List Nat) {n : Int} (h : 0 ≤ n) : cutS (tx l) none (some n) = tx (l.take n.toNat) := by
  unfold cutS
  rw [tx_len]
  show (⟨((l.toArray.toList.drop 0).take ((if n < 0 then _ else min n.toNat l.length) - 0)).toArray⟩ : Str) = _
  rw [if_neg (by omega)]
  simp only [List.drop_zero, Nat.sub_zero]
  rw [← List.take_take]
  simp
theorem cut_from (l : List Nat) {n : Int} (h : 0 ≤ n) : cutS (tx l) (some n) none = tx (l.drop n.toNat) := by
  unfold cutS
  rw [tx_len]
  show (⟨((l.toArray.toList.drop (if n < 0 then _ else min n.toNat l.length)).take (l.length - (if n < 0 then _ else min n.toNat l.length))).toArray⟩ : Str) = _
  rw [if_neg (by omega)]
  have e : (l.drop (min n.toNat l.length)) = l.drop n.toNat := by
    by_cases hl : n.toNat ≤ l.length
    · rw [Nat.min_eq_left hl]
    · rw [Nat.min_eq_right (by omega), List.drop_of_length_le (by omega), List.drop_of_length_le (by omega)]
  simp only
  rw [e, List.take_of_length_le (by rw [List.length_drop]; omega)]
theorem v_slTo {l : List Nat} {n : Int} (hl : l.length ≤ 1000000) (h : 0 ≤ n) (q : Q (.str (tx (l.take n.toNat))) H) : rSlS (.str (tx l)) none (some n) H Q := ⟨tx l, rfl, by rw [tx_len]; exact szl hl, by rw [cut_to l h]; exact q⟩
theorem v_slFrom {l : List Nat} {n : Int} (hl : l.length ≤ 1000000) (h : 0 ≤ n) (q : Q (.str (tx (l.drop n.toNat))) H) : rSlS (.str (tx l)) (some n) none H Q := ⟨tx l, rfl, by rw [tx_len]; exact szl hl, by rw [cut_from l h]; exact q⟩
end
/-! ### join -/
def rJoinT (K : PySem.W.Frag) : V → List V → Hp → VK → Prop := fun x xs H Q => ∃ (p : Addr) (ls : List (List Nat)), x = .str (tx []) ∧ xs = [.ref p] ∧ (SqL K H p (ls.map fun l => V.str (tx l)) ∨ SqT K H p (ls.map fun l => V.str (tx l))) ∧ ls.flatten.length ≤ 1000000 ∧ Q (.str (tx ls.flatten)) H
theorem join_empty (ls : List (List Nat)) : Txt.join (tx []) (ls.map tx) = tx ls.flatten := by
  have e : ∀ ls : List (List Nat), TL.joinL [] ls = ls.flatten := by
    intro ls
    induction ls with
    | nil => rfl
    | cons p r ih =>
      cases r with
      | nil => simp [TL.joinL]
      | cons q r =>
        show p ++ ([] ++ TL.joinL [] (q :: r)) = _
        rw [ih]
        simp
  have h := TL.tl_join (tx []) (ls.map tx)
  have h2 : (Str.join (tx []) (ls.map tx)).cps.toList = ls.flatten := by
    refine Eq.trans h ?_
    show TL.joinL [] ((ls.map tx).map TL.tl) = _
    rw [List.map_map, e]
    congr 1
    have : (TL.tl ∘ tx) = id := by
      funext l
      show (tx l).cps.toList = l
      simp
    rw [this, List.map_id]
  have g : Txt.join (tx []) (ls.map tx) = Str.join (tx []) (ls.map tx) := by
    show Builtin.Str.glued _ _ = _
    rw [StrLaws.glued_eq_join]
  rw [g, tx_eq (z := Str.join (tx []) (ls.map tx)), h2]
section
variable {X : Cx} {o e : Expr} {to te : TE}
theorem mt_joinT : MtR X "str.join" (rJoinT X.K) := by
  intro pins s σ H x xs v us Q I rx rs h
  obtain ⟨p, ls, rfl, rfl, hp, hl, q⟩ := h
  refine mt_join pins s σ H _ _ v us Q I rx rs ⟨tx [], p, ls.map tx, rfl, rfl, ?_, ?_, ?_⟩
  · simpa [List.map_map, Function.comp_def] using hp
  · have e : ((ls.map tx).map (·.length)).sum = ls.flatten.length := by
      rw [List.map_map, List.length_flatten]
      exact congrArg List.sum (List.map_congr_left fun l _ => tx_len l)
    rw [e]
    have e0 : (tx []).length = 0 := rfl
    rw [e0]
    omega
  · rw [join_empty]
    exact q
theorem pe_joinT {apos pos : PySem.Pos} (ho : PE X o to) (he : PE X e te) (hs : starEach [e] X.env = [(false, eval e X.env)] := by rfl) (hbase : attributeBase o "join" X.env (eval o X.env) = eval o X.env := by rfl) (hline : (apos.endLine == pos.line) = true := by rfl) :
    PE X (.Call (.Attribute o "join" apos) [e] [] pos) (tM1 (rJoinT X.K) to te) := pe_m1 F.slot_str_join F.type_str_join mt_joinT ho he hs hbase hline
end
section
variable {σ : St} {H : Hp} {Q : VK} {to te : TE} {K : PySem.W.Frag}
theorem e_m1 {r : V → List V → Hp → VK → Prop} (q : to σ H fun x H1 => (∃ a, x = .str a) ∧ te σ H1 fun y H2 => r x [y] H2 Q) : tM1 r to te σ H Q := q
theorem v_isS {a : Str} {P : Prop} (q : P) : (∃ b, V.str a = .str b) ∧ P := ⟨⟨a, rfl⟩, q⟩
theorem v_join {p : Addr} {ls : List (List Nat)} (h : H p = some (.lst (ls.map fun l => V.str (tx l)))) (hl : ls.flatten.length ≤ 1000000) (q : Q (.str (tx ls.flatten)) H) : rJoinT K (.str (tx [])) [.ref p] H Q := ⟨p, ls, rfl, rfl, .inl (SqL.of h), hl, q⟩
/-! ### membership -/
theorem v_inS {c : Nat} {l : List Nat} (q : Q (.bl (decide (c ∈ l))) H) : rInS (.str (tx [c])) (.str (tx l)) H Q := ⟨c, tx l, rfl, rfl, by simpa using q⟩
theorem v_notInS {c : Nat} {l : List Nat} (q : Q (.bl (!decide (c ∈ l))) H) : rNotInS (.str (tx [c])) (.str (tx l)) H Q := ⟨c, tx l, rfl, rfl, by simpa using q⟩
theorem inV_tx {x : List Nat} : ∀ {ls : List (List Nat)}, inV (.str (tx x)) (ls.map fun l => V.str (tx l)) = decide (x ∈ ls)
  | [] => by simp [inV]
  | l :: r => by
    have ih := inV_tx (x := x) (ls := r)
    unfold inV at ih ⊢
    rw [List.map_cons, List.any_cons, ih]
    by_cases e : l = x
    · subst e
      simp [eqV]
    · have e2 : ¬ tx l = tx x := fun z => e (tx_inj.mp z)
      have e3 : ¬ x = l := fun z => e z.symm
      simp [eqV, e2, e3]
theorem flat_tx (ls : List (List Nat)) : (ls.map fun l => V.str (tx l)).all flatV = true := by
  rw [List.all_map]
  exact List.all_eq_true.mpr fun _ _ => rfl
theorem v_inL {x : List Nat} {ls : List (List Nat)} {p : Addr} (h : H p = some (.lst (ls.map fun l => V.str (tx l)))) (q : Q (.bl (decide (x ∈ ls))) H) : rIn K false (.str (tx x)) (.ref p) H Q :=
  ⟨p, _, rfl, .inl (SqL.of h), rfl, flat_tx ls, by rw [inV_tx]; exact q⟩
theorem v_inT {x : List Nat} {ls : List (List Nat)} {p : Addr} (h : SqT K H p (ls.map fun l => V.str (tx l))) (q : Q (.bl (decide (x ∈ ls))) H) : rIn K false (.str (tx x)) (.ref p) H Q :=
  ⟨p, _, rfl, .inr h, rfl, flat_tx ls, by rw [inV_tx]; exact q⟩
end
/-! ### comprehensions -/
theorem wipe1 {σ : St} {i : Nat} {x : Option V} : wipe ((wipe σ [i]).set i x) [i] = wipe σ [i] := by
  show (((σ.set i none).set i x).set i none) = σ.set i none
  rw [List.set_set, List.set_set]
section
variable {σ : St} {H : Hp} {Q : VK} {wi : TI} {g : TG} {tt : TT} {te t0 : TE} {i : Nat} {K : PySem.W.Frag}
/-- what a comprehension's new list is, item by item: Y tells the turn's items -/
theorem lc_gen {P : Addr → Hp → Prop} {J : It} {n : Nat} {G : Hp → Prop} {it : Nat → V} {b : Nat → Bool} {f : Nat → V} (w : Walk J n G (fun k H x H' => H' = H ∧ x = it k)) (hG : ∀ H', Same H H' → G H') (hn : n ≤ 1000000)
    (ht : ∀ k, k < n → ∀ H1, Same H H1 → ∀ R : Bool → Hp → Prop, (∀ H2, Same H1 H2 → R (b k) H2) → tt ((wipe σ [i]).set i (some (it k))) H1 R)
    (he : ∀ k, k < n → b k = true → ∀ H1, Same H H1 → ∀ R : VK, (∀ H2, Same H1 H2 → R (f k) H2) → te ((wipe σ [i]).set i (some (it k))) H1 R)
    (q : ∀ D H', H D = none → Same H H' → H' D = some (.lst (((List.range n).filter b).map f)) → P D H') :
    ∀ D, H D = none → ∃ W : Nat → Nat → Hp → Prop, (∃ m, W 0 m (upd H D (.lst []))) ∧ ∀ k m H, W k m H →
      (J.stop k H ∧ P D H) ∨ (J.go k H ∧ ∃ Nx : Hp → Prop, (∀ H', Nx H' → ∃ m', m' < m ∧ W (k + 1) m' H') ∧ ∀ x H', J.yld k H x H' → (gName i) x (wipe σ [i]) H' fun s2 H2 => wipe s2 [i] = wipe σ [i] ∧ tt s2 H2 fun c H3 =>
        if c = true then te s2 H3 fun y H4 => ∃ acc, H4 D = some (.lst acc) ∧ acc.length < sizeLine ∧ Nx (upd H4 D (.lst (acc ++ [y]))) else Nx H3) := by
  intro D hD
  refine lc_it w (vs := [i]) (σ := σ) (g := gName i) (tt := tt) (te := te) (Qd := fun H' => P D H') (fun k H' => Same H H' ∧ H' D = some (.lst (((List.range k).filter b).map f)))
    ⟨Same.new hD, upd_same⟩ (fun k H' _ p => hG H' p.1) (fun k x H1 H2 hk p y => ?_) (fun H' p => q D H' hD p.1 p.2)
  obtain ⟨p1, p2⟩ := p
  obtain ⟨rfl, rfl⟩ := y
  refine ⟨wipe1, ht k hk _ p1 _ fun H3 s3 => ?_⟩
  have e1 : (List.range (k + 1)).filter b = (List.range k).filter b ++ (if b k = true then [k] else []) := by
    rw [List.range_succ, List.filter_append]
    congr 1
    by_cases c : b k = true
    · simp [c]
    · simp [c]
  by_cases c : b k = true
  · rw [if_pos c]
    refine he k hk c _ (p1.trans s3) _ fun H4 s4 => ?_
    refine ⟨_, s4 _ _ (s3 _ _ p2), ?_, fun a o ha => ?_, ?_⟩
    · rw [List.length_map]
      have h1 := List.length_filter_le b (List.range k)
      rw [List.length_range] at h1
      exact szlt (by omega)
    · rw [upd_ne (ne_of_none ha hD)]
      exact s4 _ _ (s3 _ _ (p1 _ _ ha))
    · rw [upd_same, e1, if_pos c, List.map_append]
      rfl
  · rw [if_neg c]
    refine ⟨p1.trans s3, ?_⟩
    rw [e1, if_neg c, List.append_nil]
    exact s3 _ _ p2
theorem e_lc {vs : List Nat} (q : wi σ H fun J H1 => ∀ D, H1 D = none → ∃ W : Nat → Nat → Hp → Prop, (∃ m, W 0 m (upd H1 D (.lst []))) ∧ ∀ i m H, W i m H →
    (J.stop i H ∧ Q (.ref D) H) ∨ (J.go i H ∧ ∃ Nx : Hp → Prop, (∀ H', Nx H' → ∃ m', m' < m ∧ W (i + 1) m' H') ∧ ∀ x H', J.yld i H x H' → g x (wipe σ vs) H' fun s2 H2 => wipe s2 vs = wipe σ vs ∧ tt s2 H2 fun b H3 =>
      if b = true then te s2 H3 fun y H4 => ∃ acc, H4 D = some (.lst acc) ∧ acc.length < sizeLine ∧ Nx (upd H4 D (.lst (acc ++ [y]))) else Nx H3)) : tLc wi g tt te vs σ H Q := q
theorem range_map {α : Type} (l : List Nat) (b : Nat → Bool) (f : Nat → α) : ((List.range l.length).filter fun k => b (l.getD k 0)).map (fun k => f (l.getD k 0)) = (l.filter b).map f := by
  have e : l = (List.range l.length).map fun k => l.getD k 0 := by
    apply List.ext_getElem
    · simp
    · intro j h1 h2
      simp [List.getD, h1]
  conv => rhs; rw [e, List.filter_map, List.map_map]
  rfl
/-- [e for c in text if t] -/
theorem v_lcS {P : Addr → Hp → Prop} {l : List Nat} {b : Nat → Bool} {f : Nat → V} (hn : l.length ≤ 1000000)
    (ht : ∀ c, c ∈ l → ∀ H1, Same H H1 → ∀ R : Bool → Hp → Prop, (∀ H2, Same H1 H2 → R (b c) H2) → tt ((wipe σ [i]).set i (some (.str (tx [c])))) H1 R)
    (he : ∀ c, c ∈ l → b c = true → ∀ H1, Same H H1 → ∀ R : VK, (∀ H2, Same H1 H2 → R (f c) H2) → te ((wipe σ [i]).set i (some (.str (tx [c])))) H1 R)
    (q : ∀ D H', H D = none → Same H H' → H' D = some (.lst ((l.filter b).map f)) → P D H') :
    ∀ D, H D = none → ∃ W : Nat → Nat → Hp → Prop, (∃ m, W 0 m (upd H D (.lst []))) ∧ ∀ k m H, W k m H →
      ((Its (tx l)).stop k H ∧ P D H) ∨ ((Its (tx l)).go k H ∧ ∃ Nx : Hp → Prop, (∀ H', Nx H' → ∃ m', m' < m ∧ W (k + 1) m' H') ∧ ∀ x H', (Its (tx l)).yld k H x H' → (gName i) x (wipe σ [i]) H' fun s2 H2 => wipe s2 [i] = wipe σ [i] ∧ tt s2 H2 fun c H3 =>
        if c = true then te s2 H3 fun y H4 => ∃ acc, H4 D = some (.lst acc) ∧ acc.length < sizeLine ∧ Nx (upd H4 D (.lst (acc ++ [y]))) else Nx H3) := by
  have mem : ∀ k, k < l.length → l.getD k 0 ∈ l := fun k hk => by
    rw [List.getD_eq_getElem?_getD, List.getElem?_eq_getElem hk]
    exact List.getElem_mem hk
  have w : Walk (Its (tx l)) l.length (fun _ => True) (fun k H x H' => H' = H ∧ x = .str (tx [l.getD k 0])) := by
    refine ⟨fun k H hk _ => by show k < (tx l).cps.size; simpa using hk, fun H _ => by show (tx l).cps.size ≤ l.length; simp, fun k H x H' hk _ y => ?_⟩
    obtain ⟨e, c, hc, rfl⟩ := y
    refine ⟨e, ?_⟩
    have hc : l[k]? = some c := by simpa using hc
    rw [List.getD_eq_getElem?_getD, hc]
    rfl
  refine lc_gen (b := fun k => b (l.getD k 0)) (f := fun k => f (l.getD k 0)) w (fun _ _ => trivial) hn (fun k hk H1 s1 R r => ht _ (mem k hk) H1 s1 R r) (fun k hk c H1 s1 R r => he _ (mem k hk) c H1 s1 R r) (fun D H' hD s' e => q D H' hD s' ?_)
  rw [e, range_map]
end
end Cw
set_option Elab.async false
set_option linter.all false
set_option maxRecDepth 100000
set_option maxHeartbeats 4000000
namespace Cw
open PySem PySem.Spec L2
/-! ### a comprehension of two fors over texts -/
theorem lc_in {J : It} {n : Nat} {G : Hp → Prop} {Y : Nat → Hp → V → Hp → Prop} (w : Walk J n G Y) {g : TG} {tt : TT} {te : TE} {vs : List Nat} {σ : St} {H1 : Hp} {D : Addr} {Qd : Hp → Prop} (Pv : Nat → Hp → Prop) (h0 : Pv 0 H1) (hG : ∀ i H, i ≤ n → Pv i H → G H)
    (hs : ∀ i x H H', i < n → Pv i H → Y i H x H' → g x (wipe σ vs) H' fun s2 H2 => wipe s2 vs = wipe σ vs ∧ tt s2 H2 fun b H3 =>
      if b = true then te s2 H3 fun y H4 => ∃ acc, H4 D = some (.lst acc) ∧ acc.length < sizeLine ∧ Pv (i + 1) (upd H4 D (.lst (acc ++ [y]))) else Pv (i + 1) H3) (hd : ∀ H, Pv n H → Qd H) :
    ∃ W : Nat → Nat → Hp → Prop, (∃ m, W 0 m H1) ∧ ∀ i m H, W i m H →
      (J.stop i H ∧ Qd H) ∨ (J.go i H ∧ ∃ Nx : Hp → Prop, (∀ H', Nx H' → ∃ m', m' < m ∧ W (i + 1) m' H') ∧ ∀ x H', J.yld i H x H' → g x (wipe σ vs) H' fun s2 H2 => wipe s2 vs = wipe σ vs ∧ tt s2 H2 fun b H3 =>
        if b = true then te s2 H3 fun y H4 => ∃ acc, H4 D = some (.lst acc) ∧ acc.length < sizeLine ∧ Nx (upd H4 D (.lst (acc ++ [y]))) else Nx H3) := by
  refine ⟨fun i m H => m = n - i ∧ i ≤ n ∧ Pv i H, ⟨n, rfl, Nat.zero_le _, h0⟩, ?_⟩
  rintro i m H ⟨rfl, hi, p⟩
  by_cases c : i < n
  · exact Or.inr ⟨w.goes i H c (hG i H hi p), Pv (i + 1), fun H' p' => ⟨_, by omega, rfl, c, p'⟩, fun x H' y => hs i x H H' c p (w.yields i H x H' c (hG i H hi p) y)⟩
  · have e : i = n := by omega
    rw [e] at p ⊢
    exact Or.inl ⟨w.stops H (hG n H (Nat.le_refl _) p), hd H p⟩
theorem walk_tx (l : List Nat) : Walk (Its (tx l)) l.length (fun _ => True) (fun k H x H' => H' = H ∧ x = .str (tx [l.getD k 0])) := by
  refine ⟨fun k H hk _ => by show k < (tx l).cps.size; simpa using hk, fun H _ => by show (tx l).cps.size ≤ l.length; simp, fun k H x H' hk _ y => ?_⟩
  obtain ⟨e, c, hc, rfl⟩ := y
  refine ⟨e, ?_⟩
  have hc : l[k]? = some c := by simpa using hc
  rw [List.getD_eq_getElem?_getD, hc]
  rfl
theorem getD_mem {l : List Nat} {k : Nat} (hk : k < l.length) : l.getD k 0 ∈ l := by
  rw [List.getD_eq_getElem?_getD, List.getElem?_eq_getElem hk]
  exact List.getElem_mem hk
theorem take_getD {l : List Nat} {k : Nat} (hk : k < l.length) : l.take (k + 1) = l.take k ++ [l.getD k 0] := by
  rw [List.take_add_one, List.getD_eq_getElem?_getD, List.getElem?_eq_getElem hk]
  rfl
section
variable {σ : St} {H : Hp} {Q : VK} {tt1 : TT} {te t1 : TE} {i j : Nat}
theorem v_lc2S {la lb : List Nat} {b : Nat → Nat → Bool} {f : Nat → Nat → V} (hij : i ≠ j) (hsz : la.length * lb.length < 1000000)
    (h1 : ∀ c, c ∈ la → ∀ H1, Same H H1 → ∀ R : VK, R (.str (tx lb)) H1 → t1 (((σ.set j none).set i none).set i (some (.str (tx [c])))) H1 R)
    (ht : ∀ c d, c ∈ la → d ∈ lb → ∀ H1, Same H H1 → ∀ R : Bool → Hp → Prop, (∀ H2, Same H1 H2 → R (b c d) H2) → tt1 (((((σ.set j none).set i none).set i (some (.str (tx [c])))).set j none).set j (some (.str (tx [d])))) H1 R)
    (he : ∀ c d, c ∈ la → d ∈ lb → b c d = true → ∀ H1, Same H H1 → ∀ R : VK, (∀ H2, Same H1 H2 → R (f c d) H2) → te (((((σ.set j none).set i none).set i (some (.str (tx [c])))).set j none).set j (some (.str (tx [d])))) H1 R)
    (q : ∀ D H', H D = none → Same H H' → H' D = some (.lst (la.flatMap fun c => (lb.filter (b c)).map (f c))) → Q (.ref D) H') :
    tLc2 (iStr (tC (.str (tx la)))) (gName i) tYes (iStr t1) (gName j) tt1 te [i, j] [j] σ H Q := by
  refine ⟨tx la, rfl, fun D hD => ?_⟩
  have len : ∀ l : List Nat, (l.flatMap fun c => (lb.filter (b c)).map (f c)).length ≤ l.length * lb.length := by
    intro l
    induction l with
    | nil => simp
    | cons c r ih =>
      rw [List.flatMap_cons, List.length_append, List.length_map, List.length_cons, Nat.succ_mul]
      have := List.length_filter_le (b c) lb
      omega
  refine ⟨fun k m H' => m = la.length - k ∧ k ≤ la.length ∧ Same H H' ∧ H' D = some (.lst ((la.take k).flatMap fun c => (lb.filter (b c)).map (f c))), ⟨_, rfl, Nat.zero_le _, Same.new hD, upd_same⟩, ?_⟩
  rintro k m H1 ⟨rfl, hk, s1, e1⟩
  have w := walk_tx la
  by_cases c : k < la.length
  · refine Or.inr ⟨w.goes k H1 c trivial, fun H' => Same H H' ∧ H' D = some (.lst ((la.take (k + 1)).flatMap fun c => (lb.filter (b c)).map (f c))), fun H' p => ⟨_, by omega, rfl, c, p.1, p.2⟩, fun x H2 y => ?_⟩
    obtain ⟨rfl, rfl⟩ := w.yields k H1 x H2 c trivial y
    have hm := getD_mem c
    refine ⟨?_, ?_⟩
    · show ((((σ.set j none).set i none).set i _).set j none).set i none = (σ.set j none).set i none
      rw [List.set_comm _ _ hij.symm, List.set_set, List.set_set, List.set_comm _ _ hij, List.set_set]
    · unfold tYes
      refine iteT ?_
      refine h1 _ hm _ s1 _ ⟨tx lb, rfl, ?_⟩
      refine lc_in (walk_tx lb) (fun z H' => Same H H' ∧ H' D = some (.lst (((la.take k).flatMap fun c => (lb.filter (b c)).map (f c)) ++ ((lb.take z).filter (b (la.getD k 0))).map (f (la.getD k 0))))) ⟨s1, by simpa using e1⟩ (fun _ _ _ _ => trivial) ?_ ?_
      · rintro z x H3 H4 hz ⟨s3, e3⟩ ⟨rfl, rfl⟩
        have hm2 := getD_mem hz
        have et := take_getD hz
        refine ⟨?_, ht _ _ hm hm2 _ s3 _ fun H5 s5 => ?_⟩
        · exact wipe1
        · show (if b (la.getD k 0) (lb.getD z 0) = true then _ else _)
          by_cases cb : b (la.getD k 0) (lb.getD z 0) = true
          · rw [if_pos cb]
            refine he _ _ hm hm2 cb _ (s3.trans s5) _ fun H6 s6 => ⟨_, s6 _ _ (s5 _ _ e3), ?_, fun a o ha => ?_, ?_⟩
            · have n1 := len (la.take k)
              have n2 : ((lb.take z).filter (b (la.getD k 0))).length ≤ z := by
                have := List.length_filter_le (b (la.getD k 0)) (lb.take z)
                rw [List.length_take] at this
                omega
              rw [List.length_append, List.length_map]
              rw [List.length_take, Nat.min_eq_left (by omega)] at n1
              have n3 : k * lb.length + lb.length ≤ la.length * lb.length := by
                rw [← Nat.succ_mul]
                exact Nat.mul_le_mul_right _ c
              exact szlt (by omega)
            · rw [upd_ne (ne_of_none ha hD)]
              exact s6 _ _ (s5 _ _ (s3 _ _ ha))
            · rw [upd_same, et, List.filter_append, List.map_append, List.append_assoc, List.filter_cons, if_pos cb]
              rfl
          · rw [if_neg cb]
            refine ⟨s3.trans s5, ?_⟩
            rw [s5 _ _ e3, et, List.filter_append, List.filter_cons, if_neg cb, List.filter_nil, List.append_nil]
      · rintro H' ⟨s', e'⟩
        refine ⟨s', ?_⟩
        rw [e', take_getD c, List.flatMap_append, List.take_of_length_le (Nat.le_refl _)]
        simp
  · have e : k = la.length := by omega
    subst e
    refine Or.inl ⟨w.stops H1 trivial, q D H1 hD s1 ?_⟩
    rw [e1, List.take_of_length_le (Nat.le_refl _)]
end
end Cw
set_option Elab.async false
set_option linter.all false
set_option maxRecDepth 100000
set_option maxHeartbeats 4000000
/-! plain words about plans -/
namespace Cw
open PySem L2
def LET : List Nat := [97, 98, 99, 100, 101, 102, 103, 104, 105, 106, 107, 108, 109, 110, 111, 112, 113, 114, 115, 116, 117, 118, 119, 120, 121, 122]
def ascOf (l : List Nat) : List Nat := LET.filter fun c => decide (c ∈ l)
def pairsOf (found : List (List Nat)) : List (List Nat) := LET.flatMap fun a => (LET.filter fun b => decide ([a, b] ∈ found)).map fun b => [a, b]
def crossOf (ks : List Nat) (ps : List (List Nat)) (k : Nat) : List Nat := ks.filter fun o => decide ([k, o] ∈ ps) || decide ([o, k] ∈ ps)
/-- the pairs that a plan may be told by: two different kinds each -/
def PairsIn (ks : List Nat) (ps : List (List Nat)) : Prop := ∀ p ∈ ps, ∃ a b, p = [a, b] ∧ a ≠ b ∧ a ∈ ks ∧ b ∈ ks
def crossKV (ks : List Nat) (ps : List (List Nat)) (l : List Nat) : List (Key × V) := l.map fun k => (Sum.inr (tx [k]), V.str (tx (crossOf ks ps k)))
/-- a list of texts as values -/
abbrev strsV (ls : List (List Nat)) : List V := ls.map fun l => V.str (tx l)
theorem LET_lt {c : Nat} (h : c ∈ LET) : 97 ≤ c ∧ c < 123 := by
  unfold LET at h
  simp only [List.mem_cons, List.not_mem_nil, or_false] at h
  omega
theorem ascOf_mem {l : List Nat} {c : Nat} : c ∈ ascOf l ↔ c ∈ LET ∧ c ∈ l := by
  unfold ascOf
  rw [List.mem_filter, decide_eq_true_iff]
theorem ascOf_len (l : List Nat) : (ascOf l).length ≤ 26 := List.length_filter_le _ _
theorem LET_nodup : LET.Nodup := by decide
theorem ascOf_nodup (l : List Nat) : (ascOf l).Nodup := LET_nodup.filter _
theorem pairsOf_mem {f : List (List Nat)} {p : List Nat} : p ∈ pairsOf f ↔ ∃ a b, p = [a, b] ∧ a ∈ LET ∧ b ∈ LET ∧ [a, b] ∈ f := by
  unfold pairsOf
  simp only [List.mem_flatMap, List.mem_map, List.mem_filter, decide_eq_true_iff]
  constructor
  · rintro ⟨a, ha, b, ⟨hb, hf⟩, rfl⟩
    exact ⟨a, b, rfl, ha, hb, hf⟩
  · rintro ⟨a, b, rfl, ha, hb, hf⟩
    exact ⟨a, ha, b, ⟨hb, hf⟩, rfl⟩
theorem filter_yes {α : Type} (l : List α) : l.filter (fun _ => true) = l := List.filter_eq_self.mpr fun _ _ => rfl
theorem flat_ones (l : List Nat) : (l.map fun c => [c]).flatten = l := by
  induction l with
  | nil => rfl
  | cons c r ih => rw [List.map_cons, List.flatten_cons, ih]; rfl
theorem strs_ones (l : List Nat) : (l.map fun c => V.str (tx [c])) = strsV (l.map fun c => [c]) := by
  unfold strsV
  rw [List.map_map]
  rfl
theorem nodup_ones {l : List Nat} : (l.map fun c => tx [c]).Nodup ↔ l.Nodup := by
  induction l with
  | nil => simp
  | cons c r ih =>
    rw [List.map_cons, List.nodup_cons, List.nodup_cons, ih]
    refine and_congr_left fun _ => not_congr ?_
    rw [List.mem_map]
    constructor
    · rintro ⟨d, hd, e⟩
      have : [d] = [c] := tx_inj.mp e
      injection this with e _
      exact e ▸ hd
    · intro h
      exact ⟨c, h, rfl⟩
theorem metOf_ones (l : List Nat) : ((metOf (l.map fun c => tx [c])).length = l.length) ↔ l.Nodup := by
  by_cases h : l.Nodup
  · rw [metOf_nodup (nodup_ones.mpr h), List.length_map]
    exact ⟨fun _ => h, fun _ => rfl⟩
  · have := metOf_lt (fun n => h (nodup_ones.mp n))
    rw [List.length_map] at this
    exact ⟨fun e => by omega, fun n => absurd n h⟩
theorem crossOf_len (ks : List Nat) (ps : List (List Nat)) (k : Nat) : (crossOf ks ps k).length ≤ ks.length := List.length_filter_le _ _
section
variable {σ : L2.St} {H : Hp} {Q : VK} {te : TE} {K : PySem.W.Frag}
theorem e_iStr {R : It → Hp → Prop} (q : te σ H fun v H1 => ∃ x, v = .str x ∧ R (Its x) H1) : iStr te σ H R := q
theorem e_iL {R : It → Hp → Prop} (q : te σ H fun x H1 => ∃ a, x = .ref a ∧ (∃ xs, SqL K H1 a xs) ∧ R (Itl K a) H1) : iList K te σ H R := q
theorem v_iL {P : Addr → Prop} {a : Addr} {xs : List V} (h : H a = some (.lst xs)) (q : P a) : ∃ a', V.ref a = .ref a' ∧ (∃ xs, SqL K H a' xs) ∧ P a' := ⟨a, rfl, ⟨xs, SqL.of h⟩, q⟩
theorem e_iR1 {ta : TA} {R : It → Hp → Prop} (q : ta σ H fun vs H1 => ∃ j : Int, vs = [.int j] ∧ -(2 ^ 62) ≤ j ∧ j < 2 ^ 62 ∧ R (Itr 0 j.toNat) H1) : iRng1 ta σ H R := q
theorem v_iR1 {P : Int → Prop} {j : Int} (h1 : -1000000 ≤ j) (h2 : j < 1000000) (q : P j) : ∃ j' : Int, [V.int j] = [.int j'] ∧ -(2 ^ 62) ≤ j' ∧ j' < 2 ^ 62 ∧ P j' := ⟨j, rfl, by omega, by omega, q⟩
theorem e_iR2 {ta : TA} {R : It → Hp → Prop} (q : ta σ H fun vs H1 => ∃ i j : Int, vs = [.int i, .int j] ∧ (-(2 ^ 62) ≤ i ∧ i < 2 ^ 62 ∧ -(2 ^ 62) ≤ j ∧ j < 2 ^ 62) ∧ R (Itr i (j - i).toNat) H1) : iRng2 ta σ H R := q
theorem v_iR2 {P : Int → Int → Prop} {i j : Int} (h1 : -1000000 ≤ i ∧ i < 1000000 ∧ -1000000 ≤ j ∧ j < 1000000) (q : P i j) : ∃ i' j' : Int, [V.int i, V.int j] = [.int i', .int j'] ∧ (-(2 ^ 62) ≤ i' ∧ i' < 2 ^ 62 ∧ -(2 ^ 62) ≤ j' ∧ j' < 2 ^ 62) ∧ P i' j' := ⟨i, j, rfl, by omega, q⟩
theorem e_for {wi : TI} {g : TG} {tb : TS} {D : Ends} (q : wi σ H fun J H1 => ∃ W : Nat → Nat → L2.St → Hp → Prop, (∃ m, W 0 m σ H1) ∧ ∀ i m σ H, W i m σ H →
    (J.stop i H ∧ D.nx σ H) ∨ (J.go i H ∧ ∃ N : L2.St → Hp → Prop, (∀ σ' H', N σ' H' → ∃ m', m' < m ∧ W (i + 1) m' σ' H') ∧ ∀ x H', J.yld i H x H' → g x σ H' fun s2 H2 => tb { D with nx := N, ct := N, bk := D.nx } s2 H2)) : tFor wi g tb D σ H := q
theorem iteNT {A B : Prop} (h : B) : if (!true) = true then A else B := by
  rw [if_neg (by decide)]
  exact h
theorem iteNF {A B : Prop} (h : A) : if (!false) = true then A else B := by
  rw [if_pos (by decide)]
  exact h
theorem e_yes {Q : Bool → Hp → Prop} (q : Q true H) : tYes σ H Q := q
theorem v_isiS {x : Str} (q : Q (.bl true) H) : rIsi K [.str x, .ty "str"] H Q := ⟨.str x, .ty "str", .type "str", .type "str", true, rfl, .ty "str", .base (.str x), kit_ty (by decide +kernel), q⟩
theorem v_all {p : Addr} {bs : List Bool} (h : H p = some (.lst (bs.map V.bl))) (q : Q (.bl (bs.all id)) H) : rAll K [.ref p] H Q := ⟨p, bs, rfl, SqL.of h, q⟩
theorem v_fld {P : V → Prop} {a C dx : Addr} {fs : List (Str × V)} {f : Str} {v : V} (h : H a = some (.ins C dx fs)) (c : Cls K C) (n : NoAttr K C f) (l : fs.lookup f = some v) (q : P v) : ∃ a' C dx fs v, V.ref a = .ref a' ∧ H a' = some (.ins C dx fs) ∧ Cls K C ∧ NoAttr K C f ∧ fs.lookup f = some v ∧ P v := ⟨a, C, dx, fs, v, rfl, h, c, n, l, q⟩
theorem e_sfld {ta tv : TE} {f : Str} {D : Ends} (q : tv σ H fun y H1 => ta σ H1 fun x H2 => ∃ a C dx fs, x = .ref a ∧ H2 a = some (.ins C dx fs) ∧ Cls K C ∧ NoAttr K C f ∧ fs.length < 1000 ∧ D.nx σ (upd H2 a (.ins C dx (putF f y fs)))) : sFld K ta tv f D σ H := q
theorem v_sfld {P : Hp → Prop} {a C dx : Addr} {fs : List (Str × V)} {f : Str} {y : V} (h : H a = some (.ins C dx fs)) (c : Cls K C) (n : NoAttr K C f) (l : fs.length < 1000) (q : ∀ H', Keep a H H' → H' a = some (.ins C dx (putF f y fs)) → P H') :
    ∃ a' C dx fs, V.ref a = .ref a' ∧ H a' = some (.ins C dx fs) ∧ Cls K C ∧ NoAttr K C f ∧ fs.length < 1000 ∧ P (upd H a' (.ins C dx (putF f y fs))) := ⟨a, C, dx, fs, rfl, h, c, n, l, q _ Keep.put upd_same⟩
/-- a class of the text -/
structure ClsF (K : PySem.W.Frag) (mg : Str → Option Value) (x : Str) (C : Addr) : Prop where
  «at» : mg x = some (.ref C)
  cl : Cls K C
  mks : PySem.W.makesIn K C = true
  kp : PySem.W.keepIn K (.ref C) = true
  ha : PySem.W.findIn K (.ref C) "__class__" = some (some (.builtin "object.__class__"))
  hn : PySem.W.specialIn K (.builtin "object.__class__") "__get__" = some (some (.builtin "getset_descriptor.__get__"))
  ht : PySem.W.takesIn K (.builtin "object.__class__") = some true
  hm : PySem.W.mroIn K C (.type "object") = some true
  ob : PySem.W.subIn K (.ref C) (.type "object") = some true
  ne : PySem.W.findIn K (.ref C) "__ne__" = some (some (.builtin "object.__ne__"))
theorem v_isiL {p t : Addr} {xs : List V} (h : H p = some (.lst xs)) (ht : H t = some (.tup [.ty "list", .ty "tuple"])) (q : Q (.bl true) H) : rIsiT K [.ref p, .ref t] H Q :=
  ⟨.ref p, t, _, .type "list", [.type "list", .type "tuple"], true, rfl, ht, .cons (.ty _) (.cons (.ty _) .nil), .base (.lst h), kitAny_cons (b := true) (kit_ty (by decide +kernel)) (fun z => nomatch z) (fun _ => rfl), q⟩
end
def rTuple (K : PySem.W.Frag) : List V → Hp → VK → Prop := fun xs H Q => ∃ p ys, xs = [.ref p] ∧ ((SqL K H p ys ∧ ∀ l, H l = none → Q (.ref l) (upd H l (.tup ys))) ∨ (SqT K H p ys ∧ Q (.ref p) H))
theorem c_tuple {X : Cx} : CallR X (.type "tuple") (rTuple X.K) := call_tuple_of
theorem v_tuple {K : PySem.W.Frag} {H : Hp} {Q : VK} {p : Addr} {ys : List V} (h : H p = some (.lst ys)) (q : ∀ l H', H l = none → Same H H' → H' l = some (.tup ys) → Q (.ref l) H') : rTuple K [.ref p] H Q :=
  ⟨p, ys, rfl, .inl ⟨SqL.of h, fun l hl => q l _ hl (Same.new hl) upd_same⟩⟩
def rList (K : PySem.W.Frag) : List V → Hp → VK → Prop := fun xs H Q => ∃ p ys, xs = [.ref p] ∧ (SqL K H p ys ∨ SqT K H p ys) ∧ ∀ l, H l = none → Q (.ref l) (upd H l (.lst ys))
theorem c_list {X : Cx} : CallR X (.type "list") (rList X.K) := call_list_of
theorem v_list {K : PySem.W.Frag} {H : Hp} {Q : VK} {p : Addr} {ys : List V} (h : SqL K H p ys) (q : ∀ l H', H l = none → Same H H' → H' l = some (.lst ys) → Q (.ref l) H') : rList K [.ref p] H Q :=
  ⟨p, ys, rfl, .inl h, fun l hl => q l _ hl (Same.new hl) upd_same⟩
section
variable {σ : L2.St} {H : Hp} {Q : VK} {K : PySem.W.Frag}
theorem e_bm {T : String} {r : V → List V → Hp → VK → Prop} {to : TE} {t : TA} (q : to σ H fun x H1 => tyV K T x H1 ∧ t σ H1 fun xs H2 => r x xs H2 Q) : tBM K T r to t σ H Q := q
theorem e_bm0 {T : String} {r : V → List V → Hp → VK → Prop} {to : TE} (q : to σ H fun x H1 => tyV K T x H1 ∧ r x [] H1 Q) : tBM0 K T r to σ H Q := q
theorem v_tyL {P : Prop} {p : Addr} {xs : List V} (h : H p = some (.lst xs)) (q : P) : tyV K "list" (.ref p) H ∧ P := ⟨.inl ⟨rfl, _, SqL.of h⟩, q⟩
theorem v_app {p : Addr} {xs : List V} {y : V} (h : H p = some (.lst xs)) (hl : xs.length < 1000000) (q : ∀ H', Keep p H H' → H' p = some (.lst (xs ++ [y])) → Q .non H') : rAppend (.ref p) [y] H Q :=
  ⟨p, xs, y, rfl, rfl, h, szlt hl, q _ Keep.put upd_same⟩
end
/-! ### rules with the written part named (in a comprehension's block too) -/
section
variable {X : Cx} {K : PySem.W.Frag}
theorem op_inLK (h : X.K = K) : OpR X (compareOp .In) (rIn K false) := h ▸ op_in_seq
theorem op_notInLK (h : X.K = K) : OpR X (compareOp .NotIn) (rIn K true) := h ▸ op_notIn_seq
theorem ix_LK (h : X.K = K) : IxR X (rIxL K) := h ▸ ix_list
theorem pe_flK {e : Expr} {f : Str} {pos : PySem.Pos} {ta : TE} (h : X.K = K) (he : PE X e ta) (hb : attributeBase e f X.env (eval e X.env) = eval e X.env) : PE X (.Attribute e f pos) (tFld K ta f) := h ▸ pe_fld he hb
theorem ps_flK {o value : Expr} {f : Str} {pos pos' : PySem.Pos} {ta tv : TE} (h : X.K = K) (ha : PE X o ta) (hv : PE X value tv) (hs : swapsWith value (some (.Attribute o f pos')) pos.line X.env = pure false) : PS X (.Assign [.Attribute o f pos'] value pos) (sFld K ta tv f) := h ▸ ps_fld ha hv hs
theorem pe_joinK {o e : Expr} {to te : TE} {apos pos : PySem.Pos} (h : X.K = K) (ho : PE X o to) (he : PE X e te) (hs : starEach [e] X.env = [(false, eval e X.env)] := by rfl) (hbase : attributeBase o "join" X.env (eval o X.env) = eval o X.env := by rfl) (hline : (apos.endLine == pos.line) = true := by rfl) :
    PE X (.Call (.Attribute o "join" apos) [e] [] pos) (tM1 (rJoinT K) to te) := h ▸ pe_joinT ho he hs hbase hline
theorem c_lenK (h : X.K = K) : CallR X (.builtin "len") (rLen K) := h ▸ c_len
theorem c_isiK (h : X.K = K) : CallR X (.builtin "isinstance") (rIsi K) := h ▸ call_isi
theorem c_isiTK (h : X.K = K) : CallR X (.builtin "isinstance") (rIsiT K) := h ▸ call_isiT
theorem c_listK (h : X.K = K) : CallR X (.type "list") (rList K) := h ▸ c_list
theorem c_tupleK (h : X.K = K) : CallR X (.type "tuple") (rTuple K) := h ▸ c_tuple
theorem c_allK (h : X.K = K) (hc : X.calm = true) : CallR X (.builtin "all") (rAll K) := h ▸ cr_all hc
theorem sl_LK (h : X.K = K) : SlR X (rSlL K) := h ▸ sl_list
theorem op_eqDK (h : X.K = K) (hu : X.A.units + 64 < cLine) : OpR X (compareOp .Eq) (rEqD K) := h ▸ op_eqD hu
theorem op_neDK (h : X.K = K) (hu : X.A.units + 64 < cLine) : OpR X (compareOp .NotEq) (rNeD K) := h ▸ op_neD hu
theorem pi_listK {tg e : Expr} {te : TE} (h : X.K = K) (he : PE X e te) : PI X tg e (iList K te) := h ▸ pi_list he
theorem pi_tupK {tg e : Expr} {te : TE} (h : X.K = K) (he : PE X e te) : PI X tg e (iTup K te) := h ▸ pi_tup he
theorem pe_appK {o e : Expr} {to te : TE} {apos cpos : PySem.Pos} (h : X.K = K) (ho : PE X o to) (he : PE X e te) (hbase : attributeBase o "append" X.env (eval o X.env) = eval o X.env := by rfl)
    (hfew : ((backTo cpos (starEach [e] X.env)).all (fun x => !x.1) && (backToKw cpos (keywordEach [] X.env)).all (fun x => x.1.isSome) && decide ([e].length + ([] : List Keyword).length + (if ([] : List Keyword).isEmpty then 0 else 1) < 30)) = true := by rfl)
    (hline : (apos.endLine == cpos.line) = true := by rfl) (hs : starEach [e] X.env = (false, eval e X.env) :: starEach [] X.env := by rfl) (hplain : (backTo cpos (starEach [] X.env)).any (·.1) = false := by rfl) :
    PE X (.Call (.Attribute o "append" apos) [e] [] cpos) (tBM K "list" rAppend to (tCons te tNil)) := h ▸ pe_bm PySem.F.plainAttrs_list PySem.F.slot_list_append PySem.F.type_list_append mt_append ho (pa_cons he pa_nil hs) hbase hfew hline hs hplain
end
/-- two readings of one walk -/
def iOr (a b : TI) : TI := fun σ H R => a σ H R ∨ b σ H R
theorem pi_or {X : Cx} {tg e : Expr} {a b : TI} (h1 : PI X tg e a) (h2 : PI X tg e b) : PI X tg e (iOr a b) :=
  ⟨fun pos s σ H R I h => h.elim (h1.run pos s σ H R I) (h2.run pos s σ H R I)⟩
/-- a list or a tuple, or the empty tuple of the top -/
def SeqO (K : PySem.W.Frag) (H : Hp) (p : Addr) (xs : List V) : Prop := H p = some (.lst xs) ∨ H p = some (.tup xs) ∨ (xs = [] ∧ ∃ o n, K.lookup p = some o ∧ o.cls = .type "tuple" ∧ o.data = .seq #[] n)
section
variable {K : PySem.W.Frag} {H H' : Hp} {p x : Addr} {xs : List V}
theorem SeqO.go (h : SeqO K H p xs) (s : ∀ o, H p = some o → H' p = some o) : SeqO K H' p xs := h.imp (s _) (fun z => z.imp (s _) id)
theorem SeqO.same (h : SeqO K H p xs) (s : Same H H') : SeqO K H' p xs := h.go (s _)
theorem SeqO.keepI {C dx : Addr} {fs : List (Str × V)} (h : SeqO K H p xs) (s : Keep x H H') (hx : H x = some (.ins C dx fs)) : SeqO K H' p xs := by
  rcases h with h | h | h
  · exact .inl (s _ _ h (ne_of h hx (by intro z; cases z)))
  · exact .inr (.inl (s _ _ h (ne_of h hx (by intro z; cases z))))
  · exact .inr (.inr h)
theorem v_isiQ {Q : VK} {t : Addr} (h : SeqO K H p xs) (ht : H t = some (.tup [.ty "list", .ty "tuple"])) (q : Q (.bl true) H) : rIsiT K [.ref p, .ref t] H Q := by
  have key : TyX K H (.ref p) (.type "tuple") → rIsiT K [.ref p, .ref t] H Q := fun ty => ⟨.ref p, t, _, .type "tuple", [.type "list", .type "tuple"], true, rfl, ht, .cons (.ty _) (.cons (.ty _) .nil), ty, kitAny_cons (b := false) (kit_ty (by decide +kernel)) (fun _ => kitAny_cons (b := true) (kit_ty (by decide +kernel)) (fun z => nomatch z) (fun _ => rfl)) (fun z => nomatch z), q⟩
  rcases h with h | h | ⟨_, o, n, h, c, _⟩
  · exact v_isiL h ht q
  · exact key (.base (.tup h))
  · exact key (.kTuple h c)
/-- a for over a list or a tuple -/
theorem e_forSeq {te : TE} {g : TG} {tb : TS} {D : Ends} {σ : L2.St} {H0 : Hp} (hp : SeqO K H0 p xs) (s0 : Same H0 H) (ht : ∀ Q : VK, Q (.ref p) H → te σ H Q) (Pv : Nat → L2.St → Hp → Prop) (h0 : Pv 0 σ H) (hG : ∀ i σ' H', Pv i σ' H' → Same H0 H')
    (hs : ∀ i x σ H H', i < xs.length → Pv i σ H → YAt xs i H x H' → g x σ H' fun σ2 H2 => tb { D with nx := Pv (i + 1), ct := Pv (i + 1), bk := D.nx } σ2 H2) (hd : ∀ σ H, Pv xs.length σ H → D.nx σ H) : tFor (iOr (iList K te) (iTup K te)) g tb D σ H := by
  rcases hp with hp | hp | ⟨rfl, o, n, h, c, e⟩
  · exact Or.inl (ht _ ⟨p, rfl, ⟨xs, SqL.of (s0 _ _ hp)⟩, for_it walk_list Pv h0 (fun i σ' H' _ z => SqL.of (hG i σ' H' z _ _ hp)) hs hd⟩)
  · exact Or.inr (ht _ ⟨p, rfl, ⟨xs, SqT.of (s0 _ _ hp)⟩, for_it walk_tup Pv h0 (fun i σ' H' _ z => SqT.of (hG i σ' H' z _ _ hp)) hs hd⟩)
  · have k : ∀ H', SqT K H' p [] := fun H' => .inr ⟨o, #[], n, h, c, e, by decide, .nil⟩
    exact Or.inr (ht _ ⟨p, rfl, ⟨[], k _⟩, for_it walk_tup Pv h0 (fun i σ' H' _ z => k _) hs hd⟩)
end
theorem DPut.cross {H : Hp} {a : Addr} {kvs : List (Key × V)} {l : List Nat} {v : V} (e : H a = some (.dK kvs)) (hn : valV kvs (Sum.inr (tx l)) = none) (hl : kvs.length < 1000000) : DPut H a (.str (tx l)) v (upd H a (.dK (kvs ++ [(Sum.inr (tx l), v)]))) := by
  have h := DPut.k (k := Sum.inr (tx l)) (v := v) e (szlt hl)
  rw [putK_new v hn] at h
  exact h
theorem key_tx {a b : List Nat} : (Sum.inr (tx a) : Key) = Sum.inr (tx b) ↔ a = b := by
  constructor
  · intro h
    injection h with h
    exact tx_inj.mp h
  · intro h
    rw [h]
/-- a dict by letters -/
theorem letV_none {g : Nat → V} {k : Nat} : ∀ {l : List Nat}, ¬ k ∈ l → valV (l.map fun c => ((Sum.inr (tx [c]) : Key), g c)) (Sum.inr (tx [k])) = none
  | [], _ => rfl
  | c :: r, h => by
    rw [List.map_cons, valV_neg, letV_none fun z => h (List.mem_cons_of_mem _ z)]
    intro e
    have := key_tx.mp e
    injection this with e _
    exact h (e ▸ List.mem_cons_self ..)
theorem letV_some {g : Nat → V} {k : Nat} : ∀ {l : List Nat}, k ∈ l → valV (l.map fun c => ((Sum.inr (tx [c]) : Key), g c)) (Sum.inr (tx [k])) = some (g k)
  | [], h => by cases h
  | c :: r, h => by
    by_cases e : c = k
    · subst e
      rw [List.map_cons, valV_pos rfl]
    · rw [List.map_cons, valV_neg, letV_some ((List.mem_cons.mp h).resolve_left fun z => e z.symm)]
      intro z
      have := key_tx.mp z
      injection this with z _
      exact e z
theorem dget_let {H : Hp} {d : Addr} {g : Nat → V} {k : Nat} {l : List Nat} (h : H d = some (.dK (l.map fun c => ((Sum.inr (tx [c]) : Key), g c)))) (hk : k ∈ l) : DGet H d (.str (tx [k])) (some (g k)) := by
  have e := DGet.k (k := Sum.inr (tx [k])) h
  rw [letV_some hk] at e
  exact e
theorem take_notin {l : List Nat} (h : l.Nodup) {i : Nat} (hi : i < l.length) : ¬ l.getD i 0 ∈ l.take i := by
  intro m
  obtain ⟨j, hj, e⟩ := List.mem_iff_getElem.mp m
  rw [List.length_take] at hj
  rw [List.getElem_take, List.getD_eq_getElem?_getD, List.getElem?_eq_getElem hi] at e
  have := (List.getElem_inj h).mp e
  omega
end Cw
set_option Elab.async false
set_option linter.all false
set_option maxRecDepth 100000
set_option maxHeartbeats 4000000
/-! the same steps, what is to be found asked behind the match -/
namespace Cw
open PySem PySem.Spec L2
section
variable {σ : St} {H : Hp} {Q : VK} {i : Nat} {y : V} {K : PySem.W.Frag}
theorem e_varG (q : ∃ v, σ[i]? = some (some v) ∧ Q v H) : tVar i σ H Q := q
theorem v_lenG {p : Addr} (q : ∃ ys, H p = some (.lst ys) ∧ Q (.int (ys.length : Nat)) H) : rLen K [.ref p] H Q := by
  obtain ⟨ys, h, q⟩ := q
  exact v_len h q
theorem v_inLG {x : List Nat} {p : Addr} (q : ∃ ls : List (List Nat), H p = some (.lst (ls.map fun l => V.str (tx l))) ∧ Q (.bl (decide (x ∈ ls))) H) : rIn K false (.str (tx x)) (.ref p) H Q := by
  obtain ⟨ys, h, q⟩ := q
  exact v_inL h q
theorem v_lenSetG {P : Program} {w : World} {p : Addr} (q : ∃ l : List Str, H p = some (SetT P w p l) ∧ Q (.int (l.length : Nat)) H) : rLenSet P w [.ref p] H Q := by
  obtain ⟨ys, h, q⟩ := q
  exact v_lenSet h q
theorem v_tyLG {P : Prop} {p : Addr} (q : ∃ xs, H p = some (.lst xs) ∧ P) : tyV K "list" (.ref p) H ∧ P := by
  obtain ⟨ys, h, q⟩ := q
  exact v_tyL h q
theorem v_iLG {P : Addr → Prop} {a : Addr} (q : ∃ xs, H a = some (.lst xs) ∧ P a) : ∃ a', V.ref a = .ref a' ∧ (∃ xs, SqL K H a' xs) ∧ P a' := by
  obtain ⟨ys, h, q⟩ := q
  exact v_iL h q
theorem v_dgetG {P : V → Prop} {a : Addr} (q : ∃ v, DGet H a y (some v) ∧ P v) : ∃ a' v, V.ref a = .ref a' ∧ DGet H a' y (some v) ∧ P v := by
  obtain ⟨v, h, q⟩ := q
  exact v_dget h q
end
end Cw
set_option Elab.async false
set_option linter.all false
set_option maxRecDepth 100000
set_option maxHeartbeats 4000000
/-! C(..) as a call with a promise of its own -/
namespace Cw
open PySem PySem.Spec L2
/-- from what a caller wants of C(..) to what __init__ promises -/
def Conv (C : Addr) (sp0 sp : Sp) : Prop := ∀ vs H Q E, sp vs H Q E → ∀ x dx, H x = none → H dx = none → dx ≠ x → sp0 (.ref x :: vs) (upd (upd H dx (.own x)) x (.ins C dx [])) (fun v H2 => v = .non ∧ Q (.ref x) H2) E
structure CDef (P : Program) (w : World) (K : PySem.W.Frag) (mg : Str → Option Value) (base : Heap) (CX : CXT) (k : Nat) (x : Str) (C : Addr) (sp : Sp) : Prop where
  ex : ∃ f fd ps sp0, mg x = some (.ref C) ∧ Mk K C f ∧ Binds K fd ps [] ∧ FnOk P w K mg base CX k f fd ps sp0 ∧ Conv C sp0 sp
section
variable {X : Cx} {CX : CXT} {k : Nat} {sp : Sp} {E : XK} {x : Str} {C : Addr} {p pos : PySem.Pos} {e : Expr} {es : List Expr} {t : TA}
theorem pe_mk (D : CDef X.prog X.w X.K X.mg X.base CX k x C sp) (hr : Room (k + 1) X.A) (hx : Passes CX X E) (ha : PA X (e :: es) t) (hg : Gl X x := by rfl) (hdb : (x == ("__debug__" : Str)) = false := by decide)
    (he : starEach (e :: es) X.env = (false, eval e X.env) :: starEach es X.env := by rfl) (hpl : (backTo pos (starEach es X.env)).any (·.1) = false := by rfl) : PE X (.Call (.Name x p) (e :: es) [] pos) (tCall sp [] E t) := by
  obtain ⟨f, fd, ps, sp0, hm, M, hb, F, cv⟩ := D.ex
  refine ⟨fun pins s σ H Q I h => ?_⟩
  refine wpAny_Call_Name_kw (ld_glob I hg hm ?_ hdb)
  refine PySem.W.callWith_K (h₀ := X.base) I.ok.mod.kin M.kp (thn (ha.run pos pins s σ H _ I h) fun us s1 ⟨vs, H1, I1, r, q⟩ => ⟨I1.kIn, ?_⟩) he hpl
  refine run_make M F hr hb .nil hx I1 r fun a da n1 n2 n3 => ?_
  have q : sp (vs ++ []) H1 Q E := q
  rw [List.append_nil] at q ⊢
  exact cv vs H1 Q E q a da n1 n2 n3
end
/-- a method with defaults, all parameters given -/
structure MAtD (K : PySem.W.Frag) (C : Addr) (m qual : Str) (st : Stmt) (dvs : List V) : Prop where
  ex : ∃ f fd, PySem.W.findIn K (.ref C) m = some (some (.ref f)) ∧ PySem.W.isFn K (.ref f) = true ∧ FunD K m qual (defArgs st) (defBody st) (defScope st) dvs [] f fd
section
variable {P : Program} {w : World} {K : PySem.W.Frag} {mg : Str → Option Value} {base : Heap} {CX : CXT} {k : Nat} {C : Addr} {x qual : Str} {ps N : List Str} {sp sp0 : Sp} {st : Stmt} {dvs : List V}
/-- C(..) by its __init__ -/
structure CMk (P : Program) (w : World) (K : PySem.W.Frag) (mg : Str → Option Value) (base : Heap) (CX : CXT) (k : Nat) (x : Str) (C : Addr) (sp : Sp) (ps : List Str) (qual : Str) (st : Stmt) (dvs : List V) : Prop where
  ex : ∃ f fd sp0, mg x = some (.ref C) ∧ Mk K C f ∧ Binds K fd ps [] ∧ FnOk P w K mg base CX k f fd ps sp0 ∧ Conv C sp0 sp ∧ FunD K "__init__" qual (defArgs st) (defBody st) (defScope st) dvs [] f fd
theorem CMk.cdef (D : CMk P w K mg base CX k x C sp ps qual st dvs) : CDef P w K mg base CX k x C sp := by
  obtain ⟨f, fd, sp0, a, b, c, d, e, _⟩ := D.ex
  exact ⟨f, fd, ps, sp0, a, b, c, d, e⟩
/-- C(..) by its __init__, that lets nothing out; h: how the arguments bind where all are given -/
theorem MAtD.make (F : MAtD K C "__init__" qual st dvs) (cf : ClsF K mg x C) (S : FnScope N ps (defScope st)) (hd : dvs ≠ [])
    (hb : ∀ (T : Addr) (kV doc pm : Value) (an : Option Addr) (cdv ct : Value) (us its : List Value), us.length = ps.length → its.length = dvs.length →
      ∃ k, bindArgs (PySem.W.fnOf "__init__" qual (defArgs st) (defBody st) (defScope st) (.ref T) kV doc pm an cdv ct) ⟨us, []⟩ = seqItems? (.ref T) >>= k ∧ k (some its.toArray) = pure (ps.zip (us ++ its.drop dvs.length)))
    (len : ∀ vs H Q E, sp0 vs H Q E → vs.length = ps.length) (cv : Conv C sp0 sp)
    (hbody : ∀ (f : Addr) (cdv : Value) (A : Around) (outer : List Env) (s : Shared) (H : Hp) (vs : List V) (Q : VK) (E : XK), Room k (A.deeper (PyProof.Rows.envOfC qual (defScope st) s.heap.objs.size f cdv)) → sp0 vs H Q E →
      ∃ t, PSs (cxOf CX0 P w K mg base N qual (defScope st) f cdv A outer s H E).nox (defBody st) t ∧ t { nx := fun _ H' => Q .non H', rt := Q } (start N vs) H) : CMk P w K mg base CX0 (k + 1) x C sp ps qual st dvs := by
  obtain ⟨f, fd, h1, h2, F⟩ := F.ex
  have B : Binds K fd ps [] := by
    obtain ⟨ds, r, b⟩ := F.binds1 (ps := ps) ps.length dvs.length hd (by omega) fun T kV doc pm an cdv ct us its l1 l2 => hb T kV doc pm an cdv ct us its l1 l2
    rw [List.drop_of_length_le (Nat.le_refl _)] at r
    cases r
    exact b
  refine ⟨f, fd, sp0, cf.at, ⟨cf.mks, h1, h2, cf.kp⟩, B, F.ok S len fun cdv A outer s H vs Q E hr h => ?_, cv, F⟩
  obtain ⟨t, a, b⟩ := hbody f cdv A outer s H vs Q E hr h
  exact ⟨t, a.nox, b⟩
theorem CDef.mono {j : Nat} (D : CDef P w K mg base CX j x C sp) (h : j ≤ k) : CDef P w K mg base CX k x C sp := by
  obtain ⟨f, fd, ps, sp0, a, b, c, d, e⟩ := D.ex
  exact ⟨f, fd, ps, sp0, a, b, c, d.mono h, e⟩
end
end Cw
set_option Elab.async false
set_option linter.all false
set_option maxRecDepth 100000
set_option maxHeartbeats 4000000
/-! enumerate(text) -/
namespace Cw
open PySem PySem.Spec L2
def Itx (l : List Nat) : It := ⟨fun i _ => i < l.length, fun i H v H' => ∃ T c, v = .ref T ∧ H T = none ∧ H' = upd H T (.tup [.int (i : Nat), .str (tx [c])]) ∧ l[i]? = some c, fun i _ => l.length ≤ i⟩
theorem turn_enumS {P : Program} {w : World} {K : PySem.W.Frag} {elts : List Expr} {kk : Nat} {tpos : PySem.Pos} (l : List Nat) (t : Tok) (e it : Addr) (hne : e ≠ it) :
    Turn P w K (.Tuple elts kk tpos) (Itx l) [e, it] e (fun i h => i ≤ l.length ∧ (∃ old, IsEnum h e it (i : Nat) old) ∧ h.IsStrIter it (strIterType (tx l)) (tx l) t i) where
  mem := by simp
  obj := fun i h st b hb => by
    obtain ⟨_, ⟨old, he⟩, ⟨o, ho, hc, hd⟩⟩ := st
    simp only [List.mem_cons, List.not_mem_nil, or_false] at hb
    rcases hb with z | z
    · subst z; exact ⟨_, he, fun v q => nomatch q⟩
    · subst z; exact ⟨o, ho, fun v q => by rw [hd] at q; cases q⟩
  keep := fun i h h' st k => by
    obtain ⟨a, ⟨old, he⟩, ⟨o, ho, r⟩⟩ := st
    exact ⟨a, ⟨old, k e (by simp) _ he⟩, ⟨o, k it (by simp) o ho, r⟩⟩
  item := by
    intro X hP hw hK hc i pins s σ H E I hf st hg
    subst hP hw hK
    obtain ⟨hi, st⟩ := st
    have hg : i < l.length := hg
    have W := WalksT.enumerateD (A := X.A) (Draws.text (prog := X.prog) (w := X.w) (A := X.A.in1) (I.ok.hd hc) it (tx l) t) e hne (by simp [hne]) (by simp)
    have hel : e < s.heap.objs.size := by obtain ⟨⟨_, he⟩, _⟩ := st; exact Heap.lt_size he
    have hil : it < s.heap.objs.size := by obtain ⟨_, ⟨_, q, _⟩⟩ := st; exact Heap.lt_size q
    refine W.item i s _ E (by simpa using hg) st fun T vals h' tk hv hT isT mid kp => ⟨_, rfl, W.go elts kk tpos i T { s with heap := h', toks := tk } _ E mid fun h2 st2 kp2 => ?_⟩
    obtain ⟨t', x, hx, rfl⟩ := hv
    obtain ⟨c, u, hc', rfl⟩ := hx
    have hTw := W.apart i T h' mid
    obtain ⟨o, ho, r⟩ := isT
    have isT2 : h2.IsTuple T #[.int i t', .str ⟨#[c]⟩ u] := ⟨o, kp2 T o hTw ho, r⟩
    have new : ObjOk X.prog X.w (upd H T (.tup [.int (i : Nat), .str (tx [c])])) h2 T (.tup [.int (i : Nat), .str (tx [c])]) := ⟨by show 2 ≤ sizeLine; decide, [.int i t', .str ⟨#[c]⟩ u], .cons ⟨_, rfl⟩ (.cons ⟨_, rfl⟩ .nil), isT2⟩
    refine ⟨.ref T, _, I.turnedNew (ch := [e, it]) (t' := tk) (fun b ob hb q => kp2 b ob hb (kp b ob hb q)) hf hT new, rfl, ⟨T, c, rfl, I.hok.fresh hT, rfl, by simpa using hc'⟩, ⟨hg, st2⟩, fun b hb => ?_⟩
    have hb2 : b < T := by
      simp only [List.mem_cons, List.not_mem_nil, or_false] at hb
      rcases hb with z | z
      · rw [z]; exact Nat.lt_of_lt_of_le hel hT
      · rw [z]; exact Nat.lt_of_lt_of_le hil hT
    rw [upd_ne (Nat.ne_of_lt hb2)]
    exact (hf b hb).1
  done := by
    intro X hP hw hK hc i pins s σ H E I hf st hg
    subst hP hw hK
    obtain ⟨hi, st⟩ := st
    have hg : l.length ≤ i := hg
    have e1 : i = (tx l).cps.size := by
      have : (tx l).cps.size = l.length := by simp
      omega
    subst e1
    have W := WalksT.enumerateD (A := X.A) (Draws.text (prog := X.prog) (w := X.w) (A := X.A.in1) (I.ok.hd hc) it (tx l) t) e hne (by simp [hne]) (by simp)
    exact W.done s _ E st fun h' tk kp => ⟨rfl, I.turnedL kp hf⟩
  self := fun A i s Q E st h => by
    obtain ⟨_, ⟨_, he⟩, _⟩ := st
    exact wpAny_pyIter_enum he h
def iEnumS (ta : TA) : TI := fun σ H R => ta σ H fun vs H1 => ∃ l : List Nat, vs = [.str (tx l)] ∧ R (Itx l) H1
theorem pi_enumS {X : Cx} {e : Expr} {ta : TA} {p pos tpos : PySem.Pos} {elts : List Expr} {kk : Nat} (hg : Gl X "enumerate") (hm : X.mg "enumerate" = none) (ha : PA X [e] ta) (hs : starEach [e] X.env = [(false, eval e X.env)] := by rfl) :
    PI X (.Tuple elts kk tpos) (.Call (.Name "enumerate" p) [e] [] pos) (iEnumS ta) := by
  refine ⟨fun pins s σ H R I h => ?_⟩
  refine PyProof.Rows.Call_ (ld_blt I hg hm PyProof.Rows.boot_enumerate (PyProof.Rows.callWith_type1 (thn (ha.run pos pins s σ H _ I h) fun us s1 ⟨vs, H1, I1, r1, l, ex, q⟩ => ?_) hs rfl))
  subst ex
  obtain ⟨u, rfl, t, rfl⟩ := vals1 r1
  refine call_enumerate_str fun h' he hit hsz hk => wpAny_pyIter_enum he ?_
  have I2 : L2.Inv X pins σ H1 { s1 with heap := h' } := I1.kept (t' := s1.toks) hk
  refine ⟨s1.heap.objs.size + 1, [s1.heap.objs.size + 1, s1.heap.objs.size], _, _, H1, rfl, I2, turn_enumS l t (s1.heap.objs.size + 1) s1.heap.objs.size (Nat.succ_ne_self _), ⟨Nat.zero_le _, ⟨.none, he⟩, hit⟩, fun b hb => ?_, q⟩
  have hle : s1.heap.objs.size ≤ b := by
    simp only [List.mem_cons, List.not_mem_nil, or_false] at hb
    rcases hb with z | z
    · rw [z]; exact Nat.le_succ _
    · rw [z]; exact Nat.le_refl _
  exact I1.fpOk hle (I1.hok.fresh hle)
theorem walk_enumS (l : List Nat) : Walk (Itx l) l.length (fun _ => True) (fun i H v H' => ∃ T c, v = .ref T ∧ H T = none ∧ H' = upd H T (.tup [.int (i : Nat), .str (tx [c])]) ∧ l[i]? = some c) :=
  ⟨fun _ _ hi _ => hi, fun _ _ => Nat.le_refl _, fun _ _ _ _ _ _ y => y⟩
section
variable {σ : St} {H : Hp}
theorem e_iEnumS {ta : TA} {R : It → Hp → Prop} (q : ta σ H fun vs H1 => ∃ l : List Nat, vs = [.str (tx l)] ∧ R (Itx l) H1) : iEnumS ta σ H R := q
theorem v_iEnumS {P : List Nat → Prop} {l : List Nat} (q : P l) : ∃ l' : List Nat, [V.str (tx l)] = [.str (tx l')] ∧ P l' := ⟨l, rfl, q⟩
end
end Cw
set_option Elab.async false
set_option linter.all false
set_option maxRecDepth 100000
set_option maxHeartbeats 4000000
/-! pairs of a number and a text, compared -/
namespace Cw
open PySem PySem.Spec L2
section
variable {X : Cx} {op : CmpOp} {ri : Int → Int → Bool} {rs : List Nat → List Nat → Bool} {z : Bool}
end
end Cw
set_option Elab.async false
set_option linter.all false
set_option maxRecDepth 100000
set_option maxHeartbeats 4000000
/-! names: one step, as a plain function -/
namespace Cw
open PySem PySem.Spec L2
/-- the name (turned about) without its last letters out of part, and these -/
def splitB (part : List Nat) : List Nat → List Nat → List Nat × List Nat
  | [], b => ([], b)
  | x :: r, b => if x ∈ part then splitB part r (x :: b) else (x :: r, b)
def putIn (k : Nat) (b : List Nat) : List Nat := b.takeWhile (fun c => decide (c < k)) ++ k :: b.dropWhile (fun c => decide (c < k))
def stepAt (k : Nat) (ra b : List Nat) : List Nat := if ra.head? = some k then ra.tail.reverse ++ b else ra.reverse ++ putIn k b
def stepOf (part name : List Nat) (k : Nat) : List Nat := stepAt k (splitB part name.reverse []).1 (splitB part name.reverse []).2
def joinOf (ks : List Nat) (ps : List (List Nat)) (name way : List Nat) : List Nat := way.foldl (fun n k => stepOf (crossOf ks ps k) n k) name
theorem splitB_eq (part : List Nat) : ∀ ra b : List Nat, (splitB part ra b).1.reverse ++ (splitB part ra b).2 = ra.reverse ++ b
  | [], b => rfl
  | x :: r, b => by
    unfold splitB
    by_cases h : x ∈ part
    · rw [if_pos h, splitB_eq part r (x :: b), List.reverse_cons, List.append_assoc]
      rfl
    · rw [if_neg h]
theorem putIn_len (k : Nat) (b : List Nat) : (putIn k b).length = b.length + 1 := by
  unfold putIn
  have h : (b.takeWhile (fun c => decide (c < k)) ++ b.dropWhile (fun c => decide (c < k))).length = b.length := by rw [List.takeWhile_append_dropWhile]
  rw [List.length_append] at h
  rw [List.length_append, List.length_cons]
  omega
theorem stepAt_len (k : Nat) (ra b : List Nat) : (stepAt k ra b).length ≤ ra.length + b.length + 1 := by
  unfold stepAt
  split
  · rw [List.length_append, List.length_reverse, List.length_tail]
    omega
  · rw [List.length_append, List.length_reverse, putIn_len]
    omega
theorem stepOf_len (part name : List Nat) (k : Nat) : (stepOf part name k).length ≤ name.length + 1 := by
  have h := congrArg List.length (splitB_eq part name.reverse [])
  simp only [List.length_append, List.length_reverse, List.length_nil] at h
  have := stepAt_len k (splitB part name.reverse []).1 (splitB part name.reverse []).2
  unfold stepOf
  omega
theorem joinOf_len (ks : List Nat) (ps : List (List Nat)) : ∀ (way name : List Nat), (joinOf ks ps name way).length ≤ name.length + way.length
  | [], name => Nat.le_refl _
  | k :: r, name => by
    show (joinOf ks ps (stepOf (crossOf ks ps k) name k) r).length ≤ _
    have := joinOf_len ks ps r (stepOf (crossOf ks ps k) name k)
    have := stepOf_len (crossOf ks ps k) name k
    rw [List.length_cons]
    omega
theorem joinOf_snoc {ks : List Nat} {ps : List (List Nat)} {name way : List Nat} {k : Nat} : joinOf ks ps name (way ++ [k]) = stepOf (crossOf ks ps k) (joinOf ks ps name way) k := by
  unfold joinOf
  rw [List.foldl_append]
  rfl
/-! ### letters at their places -/
theorem at_last {x : Nat} {r b : List Nat} : atI ((x :: r).reverse ++ b) (((x :: r).length : Int) - 1) = some x := by
  have e : (((x :: r).length : Int) - 1) = ((r.length : Nat) : Int) := by
    rw [List.length_cons]
    omega
  rw [e]
  refine atI_nat ?_
  rw [List.reverse_cons, List.append_assoc, List.getElem?_append_right (by rw [List.length_reverse]; exact Nat.le_refl _), List.length_reverse, Nat.sub_self]
  rfl
theorem at_mid {x : Nat} {a b : List Nat} : atI (a ++ x :: b) ((a.length : Nat) : Int) = some x := by
  refine atI_nat ?_
  rw [List.getElem?_append_right (Nat.le_refl _), Nat.sub_self]
  rfl
theorem lt_one {a k : Nat} : decide ([a] < [k]) = decide (a < k) := by
  refine decide_eq_decide.mpr ⟨fun h => ?_, fun h => List.Lex.rel h⟩
  cases h with
  | rel h => exact h
  | cons h => cases h
section
variable {σ : St} {H : Hp} {tb : TS} {D : Ends} {tt : TT}
theorem g_nm {i : Nat} {v : V} {Q : St → Hp → Prop} (q : Q (σ.set i (some v)) H) : gName i v σ H Q := q
theorem s_while (W : Nat → St → Hp → Prop) (m : Nat) (h0 : W m σ H) (hs : ∀ m σ H, W m σ H → tt σ H fun b H1 => if b = true then ∃ N : St → Hp → Prop, (∀ σ' H', N σ' H' → ∃ m', m' < m ∧ W m' σ' H') ∧ tb { D with nx := N, ct := N, bk := D.nx } σ H1 else D.nx σ H1) : tWhile tt tb D σ H := ⟨W, ⟨m, h0⟩, hs⟩
theorem v_turn {W : Nat → St → Hp → Prop} {m : Nat} (q : tb { D with nx := fun σ' H' => ∃ m', m' < m ∧ W m' σ' H', ct := fun σ' H' => ∃ m', m' < m ∧ W m' σ' H', bk := D.nx } σ H) : ∃ N : St → Hp → Prop, (∀ σ' H', N σ' H' → ∃ m', m' < m ∧ W m' σ' H') ∧ tb { D with nx := N, ct := N, bk := D.nx } σ H := ⟨_, fun _ _ h => h, q⟩
end
section
variable {H : Hp} {Q : VK} {K : PySem.W.Frag} {p q : Addr}
theorem ok_strs {ls : List (List Nat)} (h : ∀ l ∈ ls, ∀ c ∈ l, c < 1000) : ∀ x ∈ ls.map tx, PyData.strOk x = true := by
  intro x hx
  obtain ⟨l, hl, rfl⟩ := List.mem_map.mp hx
  exact ok_tx (h l hl)
theorem map_tx_inj {a b : List (List Nat)} : a.map tx = b.map tx ↔ a = b := by
  constructor
  · intro h
    induction a generalizing b with
    | nil => cases b with
      | nil => rfl
      | cons y b => cases h
    | cons x a ih => cases b with
      | nil => cases h
      | cons y b =>
        rw [List.map_cons, List.map_cons] at h
        injection h with h1 h2
        rw [tx_inj.mp h1, ih h2]
  · intro h
    rw [h]
theorem strsV_map (ls : List (List Nat)) : strsV ls = (ls.map tx).map V.str := by
  unfold strsV
  rw [List.map_map]
  rfl
end
end Cw
set_option Elab.async false
set_option linter.all false
set_option maxRecDepth 100000
set_option maxHeartbeats 4000000
/-! errors of one's own without values -/
namespace Cw
open PySem PySem.Spec L2
/-- an error class of the text, down from ValueError, without an __init__ -/
structure ExcF (K : PySem.W.Frag) (mg : Str → Option Value) (x : Str) (C : Addr) : Prop where
  «at» : mg x = some (.ref C)
  exc : PySem.W.excIn K C [.type "ValueError", .type "Exception", .type "BaseException", .type "object"] "ValueError.__new__" = true
  kp : PySem.W.keepIn K (.ref C) = true
  ty : PySem.W.typeIn K (.ref C) = some (.type "type")
  ec : ExcC K C
section
variable {X : Cx} {C : Addr} {x : Str} {p pos : PySem.Pos}
end
theorem v_gTup2 {K : PySem.W.Frag} {n i j : Nat} {σ : St} {H : Hp} {Q : St → Hp → Prop} {p : Addr} {a b : V} (hn : n = 2) (h : H p = some (.tup [a, b])) (q : Q ((σ.set i (some a)).set j (some b)) H) : gTup K n (gCons (gName i) (gCons (gName j) gNil)) (.ref p) σ H Q :=
  ⟨p, _, rfl, SqT.of h, hn.symm, a, [b], rfl, b, [], rfl, rfl, q⟩
theorem e_md {C : Addr} {m : Str} {sp : Sp} {E : XK} {ta : TE} {t : TA} {σ : St} {H : Hp} {Q : VK} (q : ta σ H fun x H1 => ∃ a dx fs, x = .ref a ∧ H1 a = some (.ins C dx fs) ∧ fs.lookup m = none ∧ t σ H1 fun vs H2 => sp (x :: vs) H2 Q E) : tMeth C m sp [] E ta t σ H Q := by
  have e : tMeth C m sp [] E ta t = fun σ H Q => ta σ H fun x H1 => ∃ a dx fs, x = .ref a ∧ H1 a = some (.ins C dx fs) ∧ fs.lookup m = none ∧ t σ H1 fun vs H2 => sp (x :: vs) H2 Q E := by
    unfold tMeth
    simp only [List.append_nil]
  rw [e]
  exact q
/-- a suite that is walked only where q holds -/
theorem pss_given {X : Cx} {b : List Stmt} {t : TS} {q : Prop} (h : q → PSs X b t) : PSs X b (fun D σ H => q ∧ t D σ H) := by
  by_cases e : q
  · exact ⟨fun pins s σ H D I z => (h e).run pins s σ H D I z.2⟩
  · exact ⟨fun pins s σ H D I z => absurd z.1 e⟩
end Cw
set_option Elab.async false
set_option linter.all false
set_option maxRecDepth 100000
set_option maxHeartbeats 4000000
/-! what the laws' own helpers need: copies of dicts, pop, several names at once, walks over dicts -/
namespace Cw
open PySem PySem.Spec L2
section
variable {σ : St} {H : Hp} {Q : VK} {D : Ends} {K : PySem.W.Frag} {X : Cx}
theorem e_par {i j : Nat} {ta : TA} (q : ta σ H fun vs H1 => ∃ v w, vs = [v, w] ∧ D.nx ((σ.set i (some v)).set j (some w)) H1) : tPar i j ta D σ H := q
theorem v_par {v w : V} {P : V → V → Prop} (q : P v w) : ∃ v' w', [v, w] = [v', w'] ∧ P v' w' := ⟨v, w, rfl, q⟩
theorem e_par3 {i j l : Nat} {ta : TA} (q : ta σ H fun vs H1 => ∃ u v w, vs = [u, v, w] ∧ D.nx (((σ.set i (some u)).set j (some v)).set l (some w)) H1) : tPar3 i j l ta D σ H := q
theorem v_par3 {u v w : V} {P : V → V → V → Prop} (q : P u v w) : ∃ u' v' w', [u, v, w] = [u', v', w'] ∧ P u' v' w' := ⟨u, v, w, rfl, q⟩
theorem e_iK {td : TE} {R : It → Hp → Prop} (q : td σ H fun x H1 => ∃ d o, x = .ref d ∧ ((∃ kvs, H1 d = some (.frz o (.dK kvs)) ∧ R (Itk d o kvs) H1) ∨ ∃ kvs, H1 d = some (.frz o (.dT kvs)) ∧ R (Itkt d o kvs) H1)) : iKeys td σ H R := q
theorem e_dnotin {ty td : TE} (q : ty σ H fun y H1 => td σ H1 fun x H2 => ∃ a o, x = .ref a ∧ DGet H2 a y o ∧ Q (.bl (!o.isSome)) H2) : tDNotIn ty td σ H Q := q
end
/-! ### tables by letters -/
structure Tab (ls : List Nat) (f : Nat → List Nat) : Prop where
  nd : ls.Nodup
  lt : ∀ c ∈ ls, c ∈ LET
  len : ls.length ≤ 8
  sub : ∀ a ∈ ls, ∀ b ∈ f a, b ∈ ls ∧ b ≠ a ∧ a ∈ f b
  gl : ∀ a ∈ ls, (f a).length ≤ 8
end Cw
set_option Elab.async false
set_option linter.all false
set_option maxRecDepth 100000
set_option maxHeartbeats 4000000
/-! the drawn tables, in plain words -/
namespace Cw
open PySem PySem.Spec L2
def ABC : List (List Nat) := [[97, 98, 99, 100, 101, 102, 103, 104], [98, 100, 102, 104, 106, 108, 110, 112], [115, 116, 117, 118, 119, 120, 121, 122]]
def addRel (rel : Nat → Nat → Bool) (x y : Nat) : Nat → Nat → Bool := fun a b => rel a b || (a == x && b == y) || (a == y && b == x)
/-- which kinds cross: both ways, never with itself, kinds alone -/
structure RelOk (ls : List Nat) (rel : Nat → Nat → Bool) : Prop where
  sym : ∀ a b, rel a b = rel b a
  «in» : ∀ a b, rel a b = true → a ∈ ls ∧ b ∈ ls ∧ a ≠ b
/-- only pairs up to here -/
def Upto (ls : List Nat) (rel : Nat → Nat → Bool) (i j : Nat) : Prop := ∀ i1 j1, i1 < j1 → j1 < ls.length → rel (ls.getD i1 0) (ls.getD j1 0) = true → i1 < i ∨ (i1 = i ∧ j1 < j)
def crossBy (ls : List Nat) (rel : Nat → Nat → Bool) (c : Nat) : List Nat := ls.filter (rel c)
theorem getD_inj {ls : List Nat} (h : ls.Nodup) {i j : Nat} (hi : i < ls.length) (hj : j < ls.length) (e : ls.getD i 0 = ls.getD j 0) : i = j := by
  rw [List.getD_eq_getElem?_getD, List.getD_eq_getElem?_getD, List.getElem?_eq_getElem hi, List.getElem?_eq_getElem hj] at e
  exact (List.getElem_inj h).mp e
section
variable {ls : List Nat} {rel : Nat → Nat → Bool} {i j : Nat}
theorem RelOk.add (ok : RelOk ls rel) {x y : Nat} (hx : x ∈ ls) (hy : y ∈ ls) (ne : x ≠ y) : RelOk ls (addRel rel x y) where
  sym a b := by
    unfold addRel
    rw [ok.sym a b, Bool.or_assoc, Bool.or_assoc]
    congr 1
    rw [Bool.or_comm, Bool.and_comm, Bool.and_comm (a == x)]
  «in» a b h := by
    unfold addRel at h
    simp only [Bool.or_eq_true, Bool.and_eq_true, beq_iff_eq] at h
    rcases h with (h | ⟨rfl, rfl⟩) | ⟨rfl, rfl⟩
    · exact ok.in a b h
    · exact ⟨hx, hy, ne⟩
    · exact ⟨hy, hx, ne.symm⟩
theorem Upto.add (hn : ls.Nodup) (hij : i < j) (hj : j < ls.length) (up : Upto ls rel i j) : Upto ls (addRel rel (ls.getD i 0) (ls.getD j 0)) i (j + 1) := by
  intro i1 j1 h1 h2 h3
  unfold addRel at h3
  simp only [Bool.or_eq_true, Bool.and_eq_true, beq_iff_eq] at h3
  rcases h3 with (h | ⟨h4, h5⟩) | ⟨h4, h5⟩
  · have := up i1 j1 h1 h2 h
    omega
  · have a := getD_inj hn (by omega) (by omega) h4
    have b := getD_inj hn h2 hj h5
    omega
  · have a := getD_inj hn (by omega) hj h4
    have b := getD_inj hn h2 (by omega) h5
    omega
theorem Upto.more (up : Upto ls rel i j) : Upto ls rel i (j + 1) := fun i1 j1 h1 h2 h3 => by
  have := up i1 j1 h1 h2 h3
  omega
end
theorem walk_rI {lo : Int} {n : Nat} (f : Nat → Int) (h : ∀ k : Nat, lo + (k : Int) = f k) : Walk (Itr lo n) n (fun _ => True) (YFn fun k => .int (f k)) :=
  walk_range.mono (fun _ h => h) fun i H x H' _ _ y => ⟨y.1, by show x = V.int (f i); rw [← h i]; exact y.2⟩
theorem at_getD {ls : List Nat} {i : Nat} (h : i < ls.length) : atI ls ((i : Nat) : Int) = some (ls.getD i 0) := by
  refine atI_nat ?_
  rw [List.getD_eq_getElem?_getD, List.getElem?_eq_getElem h]
  rfl
theorem ascOf_congr {a b : List Nat} (h : ∀ c, c ∈ a ↔ c ∈ b) : ascOf a = ascOf b := by
  unfold ascOf
  exact List.filter_congr fun c _ => decide_eq_decide.mpr (h c)
/-- a drawn table: a beginning of one of the three texts -/
structure Flr (num : Nat) (ls : List Nat) (rel : Nat → Nat → Bool) : Prop where
  cut : ∃ t ∈ ABC, ∃ m, 1 ≤ m ∧ m ≤ num ∧ ls = t.take m
  ok : RelOk ls rel
theorem abc_ok : ∀ t ∈ ABC, t.Nodup ∧ (∀ c ∈ t, c ∈ LET) ∧ t.length = 8 ∧ t.Pairwise (· < ·) := by decide +kernel
section
variable {num : Nat} {ls : List Nat} {rel : Nat → Nat → Bool}
theorem cut_nd (h : ∃ t ∈ ABC, ∃ m, 1 ≤ m ∧ m ≤ num ∧ ls = t.take m) : ls.Nodup := by
  obtain ⟨t, ht, m, h1, h2, rfl⟩ := h
  exact (List.take_sublist m t).nodup (abc_ok t ht).1
theorem cut_lt (h : ∃ t ∈ ABC, ∃ m, 1 ≤ m ∧ m ≤ num ∧ ls = t.take m) : ∀ c ∈ ls, c ∈ LET := by
  obtain ⟨t, ht, m, h1, h2, rfl⟩ := h
  exact fun c hc => (abc_ok t ht).2.1 c ((List.take_sublist m t).subset hc)
theorem cut_len (h : ∃ t ∈ ABC, ∃ m, 1 ≤ m ∧ m ≤ num ∧ ls = t.take m) : ls.length ≤ 8 ∧ ls.length ≤ num ∧ 1 ≤ ls.length := by
  obtain ⟨t, ht, m, h1, h2, rfl⟩ := h
  have := (abc_ok t ht).2.2.1
  rw [List.length_take]
  omega
theorem cut_lt' (h : ∃ t ∈ ABC, ∃ m, 1 ≤ m ∧ m ≤ num ∧ ls = t.take m) : ls.Pairwise (· < ·) := by
  obtain ⟨t, ht, m, h1, h2, rfl⟩ := h
  exact List.Pairwise.sublist (List.take_sublist m t) (abc_ok t ht).2.2.2
theorem Flr.tab (h : Flr num ls rel) : Tab ls (crossBy ls rel) where
  nd := cut_nd h.cut
  lt := cut_lt h.cut
  len := (cut_len h.cut).1
  sub a ha b hb := by
    obtain ⟨h1, h2⟩ := List.mem_filter.mp hb
    refine ⟨h1, (h.ok.in a b h2).2.2.symm, List.mem_filter.mpr ⟨ha, ?_⟩⟩
    rw [h.ok.sym]
    exact h2
  gl a ha := Nat.le_trans (List.length_filter_le _ _) (cut_len h.cut).1
end
end Cw
set_option Elab.async false
set_option linter.all false
set_option maxRecDepth 100000
set_option maxHeartbeats 4000000
/-! calls within a try; calls that raise nothing after all -/
namespace Cw
open PySem PySem.Spec L2
section
variable {P : Program} {w : World} {K : PySem.W.Frag} {mg : Str → Option Value} {base : Heap} {k : Nat} {f : Addr} {fd : FuncData} {ps : List Str} {sp : Sp}
/-- a promise whose wishes for errors are none -/
def calmOf (sp : Sp) : Sp := fun vs H Q _ => sp vs H Q fun _ _ _ => False
theorem calm_fn (F : FnOk P w K mg base (L2.CX P w) k f fd ps sp) : FnOk P w K mg base CX0 k f fd ps (calmOf sp) := by
  refine ⟨fun vs H Q E h => F.len _ _ _ _ h, fun A outer s H args us vs Q E hr e0 hb hv h => ?_⟩
  refine codeAny_mono (F.run A outer s H args us vs Q (fun _ _ _ => False) hr e0 hb hv h) fun r s' q => ?_
  cases r with
  | ok fl => cases fl <;> exact q
  | error e =>
    obtain ⟨a, B, H', cls, d, _, _, _, _, _, _, _, z⟩ := q
    exact z.elim
theorem Def.calm {x : Str} (D : Def P w K mg base (L2.CX P w) k x ps sp) : Def P w K mg base CX0 k x ps (calmOf sp) := by
  obtain ⟨f, fd, a, b, c, d⟩ := D.ex
  exact ⟨f, fd, a, b, c, calm_fn d⟩
theorem MDef.calm {C : Addr} {m : Str} (D : MDef P w K mg base (L2.CX P w) k C m ps sp) : MDef P w K mg base CX0 k C m ps (calmOf sp) := by
  obtain ⟨f, fd, a, b, c, d, e⟩ := D.ex
  exact ⟨f, fd, a, b, c, d, calm_fn e⟩
end
section
variable {X : Cx} {CX : CXT} {k : Nat} {C : Addr} {x m : Str} {ps : List Str} {sp : Sp} {E : St → XK} {p pos apos : PySem.Pos} {o e : Expr} {es : List Expr} {ta : TE} {t : TA}
def tMethS (C : Addr) (m : Str) (sp : Sp) (E : St → XK) (ta : TE) (t : TA) : TE := fun σ H Q => ta σ H fun x H1 => ∃ a dx fs, x = .ref a ∧ H1 a = some (.ins C dx fs) ∧ fs.lookup m = none ∧ t σ H1 fun vs H2 => sp (x :: vs) H2 Q (E σ)
end
/-- a try with one clause, its reading by name -/
def tTryA (K : PySem.W.Frag) (c : Value) (i : Nat) (ts : Addr → Value → Option Addr → TS) (Wout : WX) (tb : WX → TS) : TS := fun D σ H => tb (wAs K c i ts Wout D) D σ H
theorem e_tryA {K : PySem.W.Frag} {c : Value} {i : Nat} {ts : Addr → Value → Option Addr → TS} {Wout : WX} {tb : WX → TS} {D : Ends} {σ : St} {H : Hp} (q : tb (wAs K c i ts Wout D) D σ H) : tTryA K c i ts Wout tb D σ H := q
section
variable {σ : St} {H : Hp} {Q : VK} {C : Addr} {m : Str} {sp : Sp} {E : St → XK} {ta : TE} {t : TA}
theorem e_callS (q : t σ H fun vs H1 => sp vs H1 Q (E σ)) : tCallS sp E t σ H Q := q
theorem e_mdS (q : ta σ H fun x H1 => ∃ a dx fs, x = .ref a ∧ H1 a = some (.ins C dx fs) ∧ fs.lookup m = none ∧ t σ H1 fun vs H2 => sp (x :: vs) H2 Q (E σ)) : tMethS C m sp E ta t σ H Q := q
end
theorem s_asgT {te : TE} {K : PySem.W.Frag} {n : Nat} {t : TGs} {D : Ends} {σ : St} {H : Hp} (q : te σ H fun v H1 => gTup K n t v σ H1 fun σ' H' => D.nx σ' H') : tAsg te (gTup K n t) D σ H := q
theorem e_pr {tk tv : TE} {r : List (TE × TE)} {σ : St} {H : Hp} {Q : List (V × V) → Hp → Prop} (q : tk σ H fun x H1 => tv σ H1 fun y H2 => tPairs r σ H2 fun ps H3 => Q ((x, y) :: ps) H3) : tPairs ((tk, tv) :: r) σ H Q := q
theorem e_pr0 {σ : St} {H : Hp} {Q : List (V × V) → Hp → Prop} (q : Q [] H) : tPairs [] σ H Q := q
theorem e_disp {trs : List (TE × TE)} {σ : St} {H : Hp} {Q : VK} (q : ∀ p, H p = none → tPairs trs σ (upd H p (.dK [])) fun ps H2 => H2 p = some (.dK []) ∧ ∃ kvs : List (Key × V), ps = kvs.map (fun kv => (kV kv.1, kv.2)) ∧ kvs.length ≤ 15 ∧ Q (.ref p) (upd H2 p (.dK (mergeK [] kvs)))) : tDisp trs σ H Q := q
theorem sqL_same {K : PySem.W.Frag} {H H' : Hp} {a : Addr} {xs : List V} (h : SqL K H a xs) (s : Same H H') : SqL K H' a xs := by
  rcases h with (h | ⟨o, h⟩) | h
  · exact .inl (.inl (s _ _ h))
  · exact .inl (.inr ⟨o, s _ _ h⟩)
  · exact .inr h
theorem v_slL {K : PySem.W.Frag} {H : Hp} {Q : VK} {a : Addr} {xs : List V} {lo hi : Option Int} (h : SqL K H a xs) (q : ∀ p H', H p = none → Same H H' → H' p = some (.lst (cutV xs lo hi)) → Q (.ref p) H') : rSlL K (.ref a) lo hi H Q := ⟨a, xs, rfl, h, fun p hp => q p _ hp (Same.new hp) upd_same⟩
end Cw
set_option Elab.async false
set_option linter.all false
set_option maxRecDepth 100000
set_option maxHeartbeats 4000000
/-! plans that are not equal, in plain words -/
namespace Cw
open PySem PySem.Spec L2
/-- the end of a body, by a name: smaller goals -/
theorem s_hide {t : TS} {D0 : Ends} {σ : St} {H : Hp} (h : ∀ D : Ends, (∀ σ H, D0.nx σ H → D.nx σ H) → t D σ H) : t D0 σ H := h D0 fun _ _ z => z
theorem pairsOf_nodup (f : List (List Nat)) : (pairsOf f).Nodup := by
  have h : ∀ l : List Nat, l.Nodup → (l.flatMap fun a => (LET.filter fun b => decide ([a, b] ∈ f)).map fun b => [a, b]).Nodup := by
    intro l
    induction l with
    | nil => intro _; exact List.nodup_nil
    | cons c r ih =>
      intro hn
      rw [List.nodup_cons] at hn
      rw [List.flatMap_cons, List.nodup_append]
      refine ⟨?_, ih hn.2, ?_⟩
      · have : (LET.filter fun b => decide ([c, b] ∈ f)).Nodup := (LET_nodup.filter fun b => decide ([c, b] ∈ f))
        generalize LET.filter (fun b => decide ([c, b] ∈ f)) = m at this ⊢
        induction m with
        | nil => exact List.nodup_nil
        | cons x y ih2 =>
          rw [List.nodup_cons] at this
          rw [List.map_cons, List.nodup_cons]
          refine ⟨?_, ih2 this.2⟩
          intro z
          obtain ⟨w, hw, e⟩ := List.mem_map.mp z
          injection e with _ e
          injection e with e
          exact this.1 (e ▸ hw)
      · intro p hp q hq e
        subst e
        obtain ⟨b, _, e1⟩ := List.mem_map.mp hp
        obtain ⟨a, ha, hm⟩ := List.mem_flatMap.mp hq
        obtain ⟨b', _, e2⟩ := List.mem_map.mp hm
        have e3 := e1.trans e2.symm
        injection e3 with e3
        exact hn.1 (e3 ▸ ha)
  exact h LET LET_nodup
section
variable {K : PySem.W.Frag} {H : Hp} {Q : VK} {p q : Addr} {n m : Int} {a b : List Nat}
end
end Cw
set_option Elab.async false
set_option linter.all false
set_option maxRecDepth 100000
set_option maxHeartbeats 4000000
/-! calls with keywords and with defaults, by where each parameter comes from -/
namespace Cw
open PySem PySem.Spec L2
/-- a parameter's value: the i-th that is given, a default, a keyword's -/
inductive Src where
  | pos (i : Nat)
  | dfl (i : Nat)
  | kw (i : Nat)
def Src.up : Src → Src
  | .pos i => .pos (i + 1)
  | .dfl i => .dfl i
  | .kw i => .kw i
def getS {α : Type} (us its ws : List α) : Src → Option α
  | .pos i => us[i]?
  | .dfl i => its[i]?
  | .kw i => ws[i]?
def gS (ss : List Src) {α : Type} (us its ws : List α) : List α := ss.filterMap (getS us its ws)
theorem vals_get : ∀ {vs : List V} {us : List Value}, Vals vs us → ∀ i : Nat, (vs[i]? = none ∧ us[i]? = none) ∨ ∃ v u, vs[i]? = some v ∧ us[i]? = some u ∧ RelV v u
  | _, _, .nil, i => .inl ⟨rfl, rfl⟩
  | _, _, .cons r t, 0 => .inr ⟨_, _, rfl, rfl, r⟩
  | _, _, .cons r t, i + 1 => by
    have := vals_get t i
    simpa using this
theorem gS_rel {vs ds zs : List V} {us its ws : List Value} (r1 : Vals vs us) (r2 : Vals ds its) (r3 : Vals zs ws) : ∀ ss : List Src, Vals (gS ss vs ds zs) (gS ss us its ws)
  | [] => .nil
  | s :: ss => by
    have ih := gS_rel r1 r2 r3 ss
    have key : (getS vs ds zs s = none ∧ getS us its ws s = none) ∨ ∃ v u, getS vs ds zs s = some v ∧ getS us its ws s = some u ∧ RelV v u := by
      cases s with
      | pos i => exact vals_get r1 i
      | dfl i => exact vals_get r2 i
      | kw i => exact vals_get r3 i
    unfold gS at ih ⊢
    rcases key with ⟨a, b⟩ | ⟨v, u, a, b, r⟩
    · rw [List.filterMap_cons_none a, List.filterMap_cons_none b]
      exact ih
    · rw [List.filterMap_cons_some a, List.filterMap_cons_some b]
      exact .cons r ih
theorem gS_up {α : Type} {x : α} {vs ds zs : List α} : ∀ ss : List Src, gS (.pos 0 :: ss.map Src.up) (x :: vs) ds zs = x :: gS ss vs ds zs := by
  intro ss
  unfold gS
  rw [List.filterMap_cons_some (show getS (x :: vs) ds zs (.pos 0) = some x from rfl), List.filterMap_map]
  congr 1
  congr 1
  funext s
  cases s <;> rfl
/-- how a call binds its n values and its keywords ks -/
abbrev KB (K : PySem.W.Frag) (fd : FuncData) (ps : List Str) (n : Nat) (ks : List Str) (ss : List Src) (dvs : List V) : Prop := ∃ g, KBn K fd ps n ks g (fun vs zs => gS ss vs dvs zs)
section
variable {K : PySem.W.Frag} {x qual : Str} {params : Arguments} {body : List Stmt} {scope : Scope} {dvs : List V} {f : Addr} {fd : FuncData} {ps : List Str}
theorem FunD.kb (F : FunD K x qual params body scope dvs [] f fd) (n : Nat) (ks : List Str) (ss : List Src) (hd : dvs ≠ [])
    (h : ∀ (T : Addr) (kV doc pm : Value) (an : Option Addr) (cdv ct : Value) (us its ws : List Value), us.length = n → its.length = dvs.length → ws.length = ks.length →
      ∃ k, bindArgs (PySem.W.fnOf x qual params body scope (.ref T) kV doc pm an cdv ct) ⟨us, ks.zip ws⟩ = seqItems? (.ref T) >>= k ∧ k (some its.toArray) = pure (ps.zip (gS ss us its ws))) : KB K fd ps n ks ss dvs := by
  obtain ⟨its, b⟩ := F.kbindsD (ps := ps) n ks (fun {_} vs ds zs => gS ss vs ds zs) hd (fun r1 r2 r3 => gS_rel r1 r2 r3 ss) h
  exact ⟨_, b⟩
end
/-- C(..) by n values and the keywords ks -/
structure CDefN (P : Program) (w : World) (K : PySem.W.Frag) (mg : Str → Option Value) (base : Heap) (CX : CXT) (k : Nat) (x : Str) (C : Addr) (sp : Sp) (n : Nat) (ks : List Str) (ss : List Src) (dvs : List V) : Prop where
  ex : ∃ f fd ps sp0, mg x = some (.ref C) ∧ Mk K C f ∧ KB K fd ps (n + 1) ks (.pos 0 :: ss.map Src.up) dvs ∧ FnOk P w K mg base CX k f fd ps sp0 ∧ Conv C sp0 sp
/-- the reading of such a call -/
def tCN (sp : Sp) (n m : Nat) (ss : List Src) (dvs : List V) (E : XK) (t tk : TA) : TE := fun σ H Q => t σ H fun vs H1 => tk σ H1 fun zs H2 => vs.length = n ∧ zs.length = m ∧ sp (gS ss vs dvs zs) H2 Q E
section
variable {P : Program} {w : World} {K : PySem.W.Frag} {mg : Str → Option Value} {base : Heap} {CX : CXT} {k : Nat} {C : Addr} {x qual : Str} {sp : Sp} {st : Stmt} {dvs : List V} {n : Nat} {ks : List Str} {ss : List Src}
theorem CDefN.mono {j : Nat} (D : CDefN P w K mg base CX j x C sp n ks ss dvs) (h : j ≤ k) : CDefN P w K mg base CX k x C sp n ks ss dvs := by
  obtain ⟨f, fd, ps, sp0, a, b, c, d, e⟩ := D.ex
  exact ⟨f, fd, ps, sp0, a, b, c, d.mono h, e⟩
theorem CMk.kw {ps : List Str} (D : CMk P w K mg base CX k x C sp ps qual st dvs) (n : Nat) (ks : List Str) (ss : List Src) (hd : dvs ≠ [])
    (h : ∀ (T : Addr) (kV doc pm : Value) (an : Option Addr) (cdv ct : Value) (us its ws : List Value), us.length = n + 1 → its.length = dvs.length → ws.length = ks.length →
      ∃ k, bindArgs (PySem.W.fnOf "__init__" qual (defArgs st) (defBody st) (defScope st) (.ref T) kV doc pm an cdv ct) ⟨us, ks.zip ws⟩ = seqItems? (.ref T) >>= k ∧ k (some its.toArray) = pure (ps.zip (gS (.pos 0 :: ss.map Src.up) us its ws))) : CDefN P w K mg base CX k x C sp n ks ss dvs := by
  obtain ⟨f, fd, sp0, a, b, c, d, e, G⟩ := D.ex
  exact ⟨f, fd, ps, sp0, a, b, FunD.kb G (n + 1) ks _ hd h, d, e⟩
end
section
variable {X : Cx} {CX : CXT} {k n : Nat} {sp : Sp} {E : XK} {x : Str} {C : Addr} {p pos : PySem.Pos} {e : Expr} {es : List Expr} {kws : List Keyword} {t tk : TA} {ks : List Str} {ss : List Src} {dvs : List V}
theorem run_mkN {pins : List (Addr × Obj)} {σ : St} {H : Hp} {s : Shared} {Q : VK} {us ws : List Value} {vs zs : List V} {f : Addr} {fd : FuncData} {ps : List Str} {sp0 : Sp} {g : List Value → List Value → List Value} (M : Mk X.K C f) (F : FnOk X.prog X.w X.K X.mg X.base CX k f fd ps sp0) (cv : Conv C sp0 sp) (hr : Room (k + 1) X.A) (hb : KBn X.K fd ps (n + 1) ks g (fun vs zs => gS (.pos 0 :: ss.map Src.up) vs dvs zs))
    (hx : Passes CX X E) (I : Inv X pins σ H s) (r : Vals vs us) (rz : Vals zs ws) (l1 : vs.length = n) (l2 : zs.length = ks.length) (h : sp (gS ss vs dvs zs) H Q E) :
    wpAny (model X.prog X.w) X.A (call (.ref C) us (ks.zip ws)) (EP X pins σ Q) X.xe s := by
  refine run_makeN M F hr hb hx I r rz l1 l2 fun a da n1 n2 n3 => ?_
  rw [gS_up]
  exact cv _ H Q E h a da n1 n2 n3
theorem pe_mkN (D : CDefN X.prog X.w X.K X.mg X.base CX k x C sp n ks ss dvs) (hr : Room (k + 1) X.A) (hx : Passes CX X E) (ha : PA X (e :: es) t) (hkw : PK X kws tk) (hg : Gl X x := by rfl)
    (hall : (backToKw pos (keywordEach kws X.env)).all (·.1.isSome) = true := by rfl) (hks : (backToKw pos (keywordEach kws X.env)).filterMap (·.1) = ks := by rfl)
    (hdb : (x == ("__debug__" : Str)) = false := by decide) (he : starEach (e :: es) X.env = (false, eval e X.env) :: starEach es X.env := by rfl)
    (hpl : ((backTo pos (starEach (e :: es) X.env)).any (·.1) || (backToKw pos (keywordEach kws X.env)).any (·.1.isNone)) = false := by rfl) :
    PE X (.Call (.Name x p) (e :: es) kws pos) (tCN sp n ks.length ss dvs E t tk) := by
  obtain ⟨f, fd, ps, sp0, a, M, ⟨g, kb⟩, F, cv⟩ := D.ex
  refine ⟨fun pins s σ H Q I h => ?_⟩
  refine wpAny_Call_Name_kw (ld_glob I hg a ?_ hdb)
  refine PySem.W.callWith_KW (h₀ := X.base) I.ok.mod.kin M.kp hall (thn (ha.run pos pins s σ H _ I h) fun us s1 ⟨vs, H1, I1, r, q⟩ => ?_) hpl he
  refine thn (hkw.run pos pins s1 σ H1 _ I1 q) fun ws s2 ⟨zs, H2, I2, rz, l1, l2, q2⟩ => ⟨I2.kIn, ?_⟩
  rw [hks]
  exact run_mkN M F cv hr kb hx I2 r rz l1 l2 q2
end
/-! ### defs and methods by keywords -/
structure DefN (P : Program) (w : World) (K : PySem.W.Frag) (mg : Str → Option Value) (base : Heap) (CX : CXT) (k : Nat) (x : Str) (sp : Sp) (n : Nat) (ks : List Str) (ss : List Src) (dvs : List V) : Prop where
  ex : ∃ f fd ps, mg x = some (.ref f) ∧ PySem.W.keepIn K (.ref f) = true ∧ KB K fd ps n ks ss dvs ∧ FnOk P w K mg base CX k f fd ps sp
structure MDefN (P : Program) (w : World) (K : PySem.W.Frag) (mg : Str → Option Value) (base : Heap) (CX : CXT) (k : Nat) (C : Addr) (m : Str) (sp : Sp) (n : Nat) (ks : List Str) (ss : List Src) (dvs : List V) : Prop where
  ex : ∃ f fd ps, PySem.W.findIn K (.ref C) m = some (some (.ref f)) ∧ PySem.W.isFn K (.ref f) = true ∧ PySem.W.keepIn K (.ref f) = true ∧ KB K fd ps (n + 1) ks (.pos 0 :: ss.map Src.up) dvs ∧ FnOk P w K mg base CX k f fd ps sp
section
variable {P : Program} {w : World} {K : PySem.W.Frag} {mg : Str → Option Value} {base : Heap} {CX : CXT} {k : Nat} {C : Addr} {x m qual : Str} {sp : Sp} {st : Stmt} {dvs : List V} {n : Nat} {ks ps : List Str} {ss : List Src}
theorem DefN.mono {j : Nat} (D : DefN P w K mg base CX j x sp n ks ss dvs) (h : j ≤ k) : DefN P w K mg base CX k x sp n ks ss dvs := by
  obtain ⟨f, fd, ps, a, b, c, d⟩ := D.ex
  exact ⟨f, fd, ps, a, b, c, d.mono h⟩
theorem MDefN.mono {j : Nat} (D : MDefN P w K mg base CX j C m sp n ks ss dvs) (h : j ≤ k) : MDefN P w K mg base CX k C m sp n ks ss dvs := by
  obtain ⟨f, fd, ps, a, b, c, d, e⟩ := D.ex
  exact ⟨f, fd, ps, a, b, c, d, e.mono h⟩
theorem kb_of {fd : FuncData} (h : ∀ us ws : List Value, us.length = n → ws.length = ks.length → bindArgs fd ⟨us, ks.zip ws⟩ = pure (ps.zip (gS ss us [] ws))) : KB K fd ps n ks ss [] :=
  ⟨fun us ws => gS ss us [] ws, ⟨fun s us ws _ l1 l2 => .of_eq (h us ws l1 l2), fun r1 r2 => gS_rel r1 .nil r2 ss⟩⟩
theorem fd_eq {f : Addr} {fd fd' : FuncData} (h : ∃ oc od osl, K.lookup f = some ⟨oc, od, .func fd, osl⟩) (h' : ∃ oc od osl, K.lookup f = some ⟨oc, od, .func fd', osl⟩) : fd = fd' := by
  obtain ⟨_, _, _, h⟩ := h
  obtain ⟨_, _, _, h'⟩ := h'
  rw [h] at h'
  injection h' with h'
  injection h' with _ _ h' _
  injection h'
theorem Def.kw (D : Def P w K mg base CX k x ps sp) (F : FnAt K mg x st) (n : Nat) (ks : List Str) (ss : List Src)
    (h : ∀ (kV doc pm : Value) (an : Option Addr) (cdv ct : Value) (us ws : List Value), us.length = n → ws.length = ks.length → bindArgs (PySem.W.fnOf x x (defArgs st) (defBody st) (defScope st) .none kV doc pm an cdv ct) ⟨us, ks.zip ws⟩ = pure (ps.zip (gS ss us [] ws))) : DefN P w K mg base CX k x sp n ks ss [] := by
  obtain ⟨f, fd, a, b, c, d⟩ := D.ex
  obtain ⟨f', fd', a', G⟩ := F.ex
  rw [a] at a'
  injection a' with a'
  injection a' with a'
  subst a'
  have e := fd_eq c.lk (funLk G)
  subst e
  refine ⟨f, fd, ps, a, b, ?_, d⟩
  obtain ⟨oc, od, kV, doc, pm, an, cdv, ct, osl, rfl, _⟩ := G.ex
  exact kb_of (h kV doc pm an cdv ct)
theorem MDef.kw (D : MDef P w K mg base CX k C m ps sp) (F : MAt K C m qual st) (n : Nat) (ks : List Str) (ss : List Src)
    (h : ∀ (kV doc pm : Value) (an : Option Addr) (cdv ct : Value) (us ws : List Value), us.length = n + 1 → ws.length = ks.length → bindArgs (PySem.W.fnOf m qual (defArgs st) (defBody st) (defScope st) .none kV doc pm an cdv ct) ⟨us, ks.zip ws⟩ = pure (ps.zip (gS (.pos 0 :: ss.map Src.up) us [] ws))) : MDefN P w K mg base CX k C m sp n ks ss [] := by
  obtain ⟨f, fd, a, b, kp, c, d⟩ := D.ex
  obtain ⟨f', fd', a', b', G⟩ := F.ex
  rw [a] at a'
  injection a' with a'
  injection a' with a'
  injection a' with a'
  subst a'
  have e := fd_eq c.lk (funLk G)
  subst e
  refine ⟨f, fd, ps, a, b, kp, ?_, d⟩
  obtain ⟨oc, od, kV, doc, pm, an, cdv, ct, osl, rfl, _⟩ := G.ex
  exact kb_of (h kV doc pm an cdv ct)
end
section
variable {X : Cx} {CX : CXT} {k n : Nat} {sp : Sp} {E : XK} {x m : Str} {C : Addr} {p pos apos : PySem.Pos} {o e : Expr} {es : List Expr} {kws : List Keyword} {ta : TE} {t tk : TA} {ks : List Str} {ss : List Src} {dvs : List V}
/-- o.m(.., k = v) -/
def tMN (C : Addr) (m : Str) (sp : Sp) (n l : Nat) (ss : List Src) (dvs : List V) (E : XK) (ta : TE) (t tk : TA) : TE := fun σ H Q => ta σ H fun x H1 => ∃ a dx fs, x = .ref a ∧ H1 a = some (.ins C dx fs) ∧ fs.lookup m = none ∧ t σ H1 fun vs H2 => tk σ H2 fun zs H3 => vs.length = n ∧ zs.length = l ∧ sp (x :: gS ss vs dvs zs) H3 Q E
end
section
variable {X : Cx} {CX : CXT} {k : Nat} {C : Addr} {m : Str} {ps : List Str} {sp : Sp} {E : XK} {pos apos : PySem.Pos} {o : Expr} {ta : TE}
/-- o.m() -/
theorem pe_md0 {pl : Sem Bool} (D : MDef X.prog X.w X.K X.mg X.base CX k C m ps sp) (c : Cls X.K C) (hr : Room k X.A) (hx : Passes CX X E) (he : PE X o ta)
    (ht : eval (.Call (.Attribute o m apos) [] [] pos) X.env = (do
      let ov ← eval o X.env
      standAt apos.atName
      let (f, first) ← holding [ov] (getMethod ov m pl)
      callWith pos f first (backTo pos (starEach [] X.env)) (backToKw pos (keywordEach [] X.env))) := by rfl) :
    PE X (.Call (.Attribute o m apos) [] [] pos) (tMeth C m sp [] E ta tNil) := by
  obtain ⟨f, fd, a, b, kp, ⟨d, _⟩, g⟩ := D.ex
  exact pe_meth0 (pl := pl) he c ⟨a, b, kp⟩ g hr d .nil hx ht
end
section
variable {σ : St} {H : Hp} {Q : VK}
theorem e_CN {sp : Sp} {n m : Nat} {ss : List Src} {dvs : List V} {E : XK} {t tk : TA} (q : t σ H fun vs H1 => tk σ H1 fun zs H2 => vs.length = n ∧ zs.length = m ∧ sp (gS ss vs dvs zs) H2 Q E) : tCN sp n m ss dvs E t tk σ H Q := q
end
end Cw
set_option Elab.async false
set_option linter.all false
set_option maxRecDepth 100000
set_option maxHeartbeats 4000000
/-! names in plain words: no letter stands behind a greater or an equal one that it could be exchanged back to -/
namespace Cw
structure CrOk (cr : Nat → List Nat) : Prop where
  sym : ∀ a b, a ∈ cr b → b ∈ cr a
  irr : ∀ a, ¬ a ∈ cr a
/-- s may stand behind the letters of the list (the nearest first) -/
def okAt (cr : Nat → List Nat) (s : Nat) : List Nat → Prop
  | [] => True
  | t :: r => t ≠ s ∧ (t ∈ cr s → t < s ∧ okAt cr s r)
/-- a name, its last letter first -/
def NFr (cr : Nat → List Nat) : List Nat → Prop
  | [] => True
  | s :: r => okAt cr s r ∧ NFr cr r
def NF (cr : Nat → List Nat) (w : List Nat) : Prop := NFr cr w.reverse
section
variable {cr : Nat → List Nat} {s k x : Nat} {d e : List Nat}
theorem okAt_app : ∀ {q : List Nat}, okAt cr s (q ++ e) → (∀ y ∈ q, y ∈ cr s) → okAt cr s e
  | [], h, _ => h
  | y :: q, h, hq => okAt_app (q := q) (h.2 (hq y (List.mem_cons_self ..))).2 fun z hz => hq z (List.mem_cons_of_mem _ hz)
theorem NFr_right : ∀ {a b : List Nat}, NFr cr (a ++ b) → NFr cr b
  | [], _, h => h
  | _ :: a, b, h => NFr_right (a := a) h.2
/-! ### what a step does -/
end
/-! ### ways -/
section
variable {cr : Nat → List Nat}
/-- the same by any two letters -/
theorem NF.two {w : List Nat} (h : NF cr w) {p q r : List Nat} {t s : Nat} (e : w = p ++ t :: (q ++ s :: r)) (hq : ∀ y ∈ q, y ∈ cr s) : t ≠ s ∧ (t ∈ cr s → t < s) := by
  unfold NF at h
  have e2 : w.reverse = r.reverse ++ s :: (q.reverse ++ t :: p.reverse) := by rw [e]; simp
  rw [e2] at h
  have h1 := (NFr_right h).1
  have h2 := okAt_app h1 fun y hy => hq y (List.mem_reverse.mp hy)
  exact ⟨h2.1, fun z => (h2.2 z).1⟩
end
end Cw
set_option Elab.async false
set_option linter.all false
set_option maxRecDepth 100000
set_option maxHeartbeats 4000000
/-! the vectors of the laws, in plain words -/
namespace Cw
/-- one coordinate of the marks, behind the door d -/
def thr (cr : Nat → List Nat) (d : Nat) (f : Nat → Int) : Nat → Int := fun e => if e = d then - f d else if e ∈ cr d then f e else f e + 2 * f d
/-- the first letter of the list is the last door -/
def act (cr : Nat → List Nat) (w : List Nat) (f : Nat → Int) : Nat → Int := w.foldr (thr cr) f
def unit (x : Nat) : Nat → Int := fun e => if e = x then 1 else 0
section
variable {cr : Nat → List Nat} {a b d e k : Nat} {f : Nat → Int} {w : List Nat}
/-! ### doors that lead back -/
def desc (cr : Nat → List Nat) (s : Nat) : List Nat → Prop
  | [] => False
  | t :: r => t = s ∨ (t ∈ cr s ∧ desc cr s r)
end
/-- all coordinates are at least nought, one is above -/
def Pos (ls : List Nat) (v : Nat → Int) : Prop := (∀ x ∈ ls, 0 ≤ v x) ∧ ∃ x ∈ ls, 0 < v x
theorem Pos.congr {ls : List Nat} {u v : Nat → Int} (hu : Pos ls u) (h : ∀ x ∈ ls, v x = u x) : Pos ls v := by
  refine ⟨fun x hx => h x hx ▸ hu.1 x hx, ?_⟩
  obtain ⟨x, hx, p⟩ := hu.2
  exact ⟨x, hx, h x hx ▸ p⟩
/-- the mark of the door e behind the way w, coordinate by coordinate -/
def mark (cr : Nat → List Nat) (w : List Nat) (e : Nat) : Nat → Int := fun x => act cr w (unit x) e
section
variable {cr : Nat → List Nat} {ls : List Nat}
/-! ### names by marks -/
theorem NF.tail {c : Nat} {r : List Nat} (h : NF cr (c :: r)) : NF cr r := by
  unfold NF at h ⊢
  rw [List.reverse_cons] at h
  have key : ∀ {a b : List Nat}, NFr cr (a ++ b) → NFr cr a := by
    intro a b
    induction a with
    | nil => intro _; trivial
    | cons s a ih =>
      intro h
      refine ⟨?_, ih h.2⟩
      have h1 := h.1
      clear h ih
      induction a with
      | nil => trivial
      | cons t a ih => exact ⟨h1.1, fun z => ⟨(h1.2 z).1, ih (h1.2 z).2⟩⟩
  exact key h
end
end Cw
set_option Elab.async false
set_option linter.all false
set_option maxRecDepth 100000
set_option maxHeartbeats 4000000
/-! a drawn floor, in plain words -/
namespace Cw
/-- the letters of a drawn floor and which cross -/
structure Fl (ls : List Nat) (f : Nat → List Nat) : Prop where
  tab : Tab ls f
  ok : CrOk f
  asc : ls.Pairwise (· < ·)
  pos : 0 < ls.length
theorem Flr.fl {num : Nat} {ls : List Nat} {rel : Nat → Nat → Bool} (h : Flr num ls rel) : Fl ls (crossBy ls rel) where
  tab := h.tab
  asc := cut_lt' h.cut
  pos := (cut_len h.cut).2.2
  ok := by
    refine ⟨fun a b hab => ?_, fun a ha => ?_⟩
    · obtain ⟨h1, h2⟩ := List.mem_filter.mp hab
      have h3 := h.ok.in b a h2
      refine List.mem_filter.mpr ⟨h3.1, ?_⟩
      rw [h.ok.sym]
      exact h2
    · obtain ⟨h1, h2⟩ := List.mem_filter.mp ha
      exact (h.ok.in a a h2).2.2 rfl
theorem Fl.plain {ls : List Nat} {f : Nat → List Nat} (h : Fl ls f) : Fl ls (fun _ => []) where
  tab := ⟨h.tab.nd, h.tab.lt, h.tab.len, fun _ _ _ z => (nomatch z), fun _ _ => by simp⟩
  ok := ⟨fun _ _ z => (nomatch z), fun _ z => (nomatch z)⟩
  asc := h.asc
  pos := h.pos
section
variable {ls : List Nat} {f : Nat → List Nat}
end
end Cw
set_option Elab.async false
set_option linter.all false
set_option maxRecDepth 100000
set_option maxHeartbeats 4000000
/-! more operators of classes of one's own: o + text, o[text], o == text -/
namespace PySem.W
open PySem PySem.Calls PyProof.Rows Builtin
section
variable {prog : Program} {w : World} {A : Around} {E : Value → Shared → Prop} {s : Shared} {K : Frag} {x C L f : Addr} {h0 : Heap} {m : Str → Option Value} {ox : Obj} {od : Option Obj}
end
end PySem.W
namespace Cw
open PySem PySem.Spec L2
section
variable {X : Cx} {CX : CXT} {k : Nat} {C : Addr} {m : Str} {ps : List Str} {sp : Sp} {E : XK}
/-- o op text, by the class's own method -/
def rMS (C : Addr) (sp : Sp) (E : XK) : R2 := fun x y H Q => ∃ a dx fs z, x = .ref a ∧ y = .str z ∧ H a = some (.ins C dx fs) ∧ sp [.ref a, .str z] H Q E
end
section
variable {σ : St} {H : Hp} {Q : VK} {K : PySem.W.Frag}
theorem v_MS {C : Addr} {sp : Sp} {E : XK} {a dx : Addr} {fs : List (Str × V)} {z : Str} (h : H a = some (.ins C dx fs)) (q : sp [.ref a, .str z] H Q E) : rMS C sp E (.ref a) (.str z) H Q := ⟨a, dx, fs, z, rfl, rfl, h, q⟩
end
end Cw
set_option Elab.async false
set_option linter.all false
set_option maxRecDepth 100000
set_option maxHeartbeats 4000000
/-! tables of vectors -/
namespace Cw
open PySem PySem.Spec L2
def marksKV (ls : List Nat) (A : Nat → Addr) : List (Key × V) := ls.map fun c => ((Sum.inr (tx [c]) : Key), V.ref (A c))
def vecV (ls : List Nat) (v : Nat → Int) : List V := ls.map fun x => V.int (v x)
structure MarksAt (H : Hp) (m : Addr) (ls : List Nat) (M : Nat → Nat → Int) : Prop where
  ex : ∃ A : Nat → Addr, H m = some (.dK (marksKV ls A)) ∧ ∀ c ∈ ls, H (A c) = some (.tup (vecV ls (M c)))
theorem MarksAt.same {H H' : Hp} {m : Addr} {ls : List Nat} {M : Nat → Nat → Int} (h : MarksAt H m ls M) (s : Same H H') : MarksAt H' m ls M := by
  obtain ⟨A, a, b⟩ := h.ex
  exact ⟨A, s _ _ a, fun c hc => s _ _ (b c hc)⟩
theorem MarksAt.congr {H : Hp} {m : Addr} {ls : List Nat} {M M' : Nat → Nat → Int} (h : MarksAt H m ls M) (e : ∀ c ∈ ls, ∀ x ∈ ls, M c x = M' c x) : MarksAt H m ls M' := by
  obtain ⟨A, a, b⟩ := h.ex
  refine ⟨A, a, fun c hc => ?_⟩
  rw [b c hc]
  congr 2
  exact List.map_congr_left fun x hx => by rw [e c hc x hx]
section
variable {K : PySem.W.Frag} {a : Addr} {ls : List Nat} {f : Nat → V}
end
section
variable {σ : St} {H : Hp} {Q : VK} {te : TE} {K : PySem.W.Frag}
theorem e_iT {R : It → Hp → Prop} (q : te σ H fun x H1 => ∃ a, x = .ref a ∧ (∃ xs, SqT K H1 a xs) ∧ R (Itt K a) H1) : iTup K te σ H R := q
end
end Cw
namespace Cw
open PySem PySem.Spec L2
end Cw
set_option Elab.async false
set_option linter.all false
set_option maxRecDepth 100000
set_option maxHeartbeats 4000000
/-! ways turned back; the doors that lead nearer -/
namespace Cw
section
variable {cr f : Nat → List Nat} {ls : List Nat}
/-! ### odd and even -/
/-! ### doors nearer -/
instance descDec (cr : Nat → List Nat) (s : Nat) : (w : List Nat) → Decidable (desc cr s w)
  | [] => isFalse id
  | t :: r => by
    have := descDec cr s r
    exact inferInstanceAs (Decidable (t = s ∨ (t ∈ cr s ∧ desc cr s r)))
/-- letters of a way that all before them cross -/
def frees (f : Nat → List Nat) (ks : List Nat) (p : List Nat) : List Nat := p.foldl (fun free k => free.filter fun o => decide (o ∈ f k)) ks
end
end Cw
set_option Elab.async false
set_option linter.all false
set_option maxRecDepth 100000
set_option maxHeartbeats 4000000
/-! parts: groups of kinds that every other kind crosses; a name, part by part -/
namespace Cw
section
variable {f : Nat → List Nat} {ls : List Nat}
/-- a group of kinds: each kind beside it crosses each of it -/
structure Grp (f : Nat → List Nat) (ls G : List Nat) : Prop where
  sub : ∀ c ∈ G, c ∈ ls
  out : ∀ c ∈ ls, ¬ c ∈ G → ∀ d ∈ G, c ∈ f d
def cutG (G w : List Nat) : List Nat := w.filter fun c => decide (c ∈ G)
theorem cutG_mem {G w : List Nat} {c : Nat} : c ∈ cutG G w ↔ c ∈ w ∧ c ∈ G := by
  unfold cutG
  rw [List.mem_filter, decide_eq_true_iff]
/-! ### the parts of a floor -/
inductive Conn (f : Nat → List Nat) (ls : List Nat) (c : Nat) : Nat → Prop
  | base : Conn f ls c c
  | step {a b : Nat} : Conn f ls c a → b ∈ ls → ¬ b ∈ f a → Conn f ls c b
theorem Conn.in {c x : Nat} (h : Conn f ls c x) (hc : c ∈ ls) : x ∈ ls := by
  cases h with
  | base => exact hc
  | step _ h _ => exact h
theorem Conn.trans {a b c : Nat} (h : Conn f ls a b) (h2 : Conn f ls b c) : Conn f ls a c := by
  induction h2 with
  | base => exact h
  | step _ h1 h2 ih => exact .step ih h1 h2
theorem Conn.symm (ok : CrOk f) {a b : Nat} (ha : a ∈ ls) (h : Conn f ls a b) : Conn f ls b a := by
  induction h with
  | base => exact .base
  | @step x y h1 h2 h3 ih => exact (Conn.step .base (h1.in ha) (fun z => h3 (ok.sym _ _ z))).trans ih
/-- the groups of what is left, in order -/
inductive PartsOf (f : Nat → List Nat) (ls : List Nat) : List Nat → List (List Nat) → Prop
  | nil : PartsOf f ls [] []
  | cons {c : Nat} {r G : List Nat} {Gs : List (List Nat)} : cutG G ls = G → (∀ x ∈ ls, x ∈ G ↔ Conn f ls c x) → PartsOf f ls ((c :: r).filter fun x => !decide (x ∈ G)) Gs → PartsOf f ls (c :: r) (G :: Gs)
theorem PartsOf.head {c : Nat} {r G : List Nat} {Gs : List (List Nat)} (h : PartsOf f ls (c :: r) (G :: Gs)) : cutG G ls = G ∧ (∀ x ∈ ls, x ∈ G ↔ Conn f ls c x) ∧ PartsOf f ls ((c :: r).filter fun x => !decide (x ∈ G)) Gs := by
  cases h with
  | cons h1 h2 h3 => exact ⟨h1, h2, h3⟩
structure Parted (f : Nat → List Nat) (ls left : List Nat) (Gs : List (List Nat)) : Prop where
  all : ∀ x ∈ left, ∃ G ∈ Gs, x ∈ G
  sub : ∀ G ∈ Gs, ∀ x ∈ G, x ∈ left
  grp : ∀ G ∈ Gs, Grp f ls G
  cut : ∀ G ∈ Gs, cutG G ls = G
  dis : Gs.Pairwise fun G G' => ∀ x, x ∈ G → ¬ x ∈ G'
  ne : ∀ G ∈ Gs, G ≠ []
theorem parted (ok : CrOk f) {left : List Nat} {Gs : List (List Nat)} (h : PartsOf f ls left Gs) : (∀ c ∈ left, c ∈ ls) → (∀ x ∈ left, ∀ y, Conn f ls x y → y ∈ left) → Parted f ls left Gs := by
  induction h with
  | nil => exact fun _ _ => ⟨fun _ z => (nomatch z), fun _ z => (nomatch z), fun _ z => (nomatch z), fun _ z => (nomatch z), .nil, fun _ z => (nomatch z)⟩
  | @cons c r G Gs h1 h2 h3 ih =>
    intro hl hc
    have hcl := hl c (List.mem_cons_self ..)
    have memG : ∀ x, x ∈ G → x ∈ ls := fun x hx => (cutG_mem.mp (h1.symm ▸ hx : x ∈ cutG G ls)).1
    have fm : ∀ x, (x ∈ (c :: r).filter fun x => !decide (x ∈ G)) ↔ x ∈ c :: r ∧ ¬ x ∈ G := fun x => by
      rw [List.mem_filter]
      simp
    have p := ih (fun x hx => hl x ((fm x).mp hx).1) (fun x hx y hy => by
      obtain ⟨m, n⟩ := (fm x).mp hx
      refine (fm y).mpr ⟨hc x m y hy, fun z => n ?_⟩
      have hxl := hl x m
      exact (h2 x hxl).mpr (((h2 y (memG y z)).mp z).trans (hy.symm ok hxl)))
    refine ⟨fun x hx => ?_, fun G' hG x hx => ?_, fun G' hG => ?_, fun G' hG => ?_, ?_, fun G' hG => ?_⟩
    · by_cases z : x ∈ G
      · exact ⟨G, List.mem_cons_self .., z⟩
      · obtain ⟨G', m, n⟩ := p.all x ((fm x).mpr ⟨hx, z⟩)
        exact ⟨G', List.mem_cons_of_mem _ m, n⟩
    · rcases List.mem_cons.mp hG with rfl | m
      · exact hc c (List.mem_cons_self ..) x ((h2 x (memG x hx)).mp hx)
      · exact ((fm x).mp (p.sub G' m x hx)).1
    · rcases List.mem_cons.mp hG with rfl | m
      · refine ⟨memG, fun x hx n d hd => ?_⟩
        refine Classical.byContradiction fun z => n ?_
        exact (h2 x hx).mpr (.step ((h2 d (memG d hd)).mp hd) hx z)
      · exact p.grp G' m
    · rcases List.mem_cons.mp hG with rfl | m
      · exact h1
      · exact p.cut G' m
    · exact List.pairwise_cons.mpr ⟨fun G' m x hx hx' => ((fm x).mp (p.sub G' m x hx')).2 hx, p.dis⟩
    · rcases List.mem_cons.mp hG with rfl | m
      · intro z
        have := (h2 c hcl).mpr .base
        rw [z] at this
        cases this
      · exact p.ne G' m
theorem PartsOf.parted (ok : CrOk f) {Gs : List (List Nat)} (h : PartsOf f ls ls Gs) : Parted f ls ls Gs := Cw.parted ok h (fun _ z => z) (fun x hx y hy => hy.in hx)
/-! ### what is put together of its parts -/
theorem len_parts {Gs : List (List Nat)} (dis : Gs.Pairwise fun G G' => ∀ x, x ∈ G → ¬ x ∈ G') : ∀ {N : List Nat}, (∀ c ∈ N, ∃ G ∈ Gs, c ∈ G) → (Gs.map fun G => (cutG G N).length).sum = N.length
  | [], _ => by
    induction Gs with
    | nil => rfl
    | cons G Gs ih =>
      rw [List.map_cons, List.sum_cons, ih (List.pairwise_cons.mp dis).2 (fun _ z => nomatch z)]
      rfl
  | c :: N, h => by
    have ih := len_parts dis (N := N) fun d hd => h d (List.mem_cons_of_mem _ hd)
    have key : ∀ {Gs : List (List Nat)}, (Gs.Pairwise fun G G' => ∀ x, x ∈ G → ¬ x ∈ G') → (∃ G ∈ Gs, c ∈ G) → (Gs.map fun G => (cutG G (c :: N)).length).sum = (Gs.map fun G => (cutG G N).length).sum + 1 := by
      intro Gs
      induction Gs with
      | nil => rintro _ ⟨_, z, _⟩; cases z
      | cons A Gs ih =>
        intro dis ⟨G, hG, hc⟩
        obtain ⟨h1, h2⟩ := List.pairwise_cons.mp dis
        rw [List.map_cons, List.sum_cons, List.map_cons, List.sum_cons]
        by_cases z : c ∈ A
        · have e1 : cutG A (c :: N) = c :: cutG A N := List.filter_cons_of_pos (by simpa using z)
          have e2 : (Gs.map fun G => (cutG G (c :: N)).length) = Gs.map fun G => (cutG G N).length := List.map_congr_left fun G hG => by
            rw [show cutG G (c :: N) = cutG G N from List.filter_cons_of_neg (by simpa using h1 G hG c z)]
          rw [e1, e2, List.length_cons]
          omega
        · rw [show cutG A (c :: N) = cutG A N from List.filter_cons_of_neg (by simpa using z)]
          have hG : G ∈ Gs := (List.mem_cons.mp hG).resolve_left fun e => z (e ▸ hc)
          have := ih h2 ⟨G, hG, hc⟩
          omega
    rw [key dis (h c (List.mem_cons_self ..)), ih, List.length_cons]
theorem sum_ge {F : List Nat → Nat} : ∀ {Gs : List (List Nat)}, (∀ G ∈ Gs, 1 ≤ F G) → Gs.length ≤ (Gs.map F).sum
  | [], _ => Nat.le_refl _
  | G :: Gs, h => by
    have h1 := h G (List.mem_cons_self ..)
    have h2 := sum_ge (F := F) (Gs := Gs) fun A hA => h A (List.mem_cons_of_mem _ hA)
    rw [List.map_cons, List.sum_cons, List.length_cons]
    omega
theorem PartsOf.len (ok : CrOk f) {Gs : List (List Nat)} (h : PartsOf f ls ls Gs) : Gs.length ≤ ls.length := by
  have p := h.parted ok
  have e := len_parts p.dis (N := ls) p.all
  rw [← e]
  refine sum_ge fun G hG => ?_
  rw [p.cut G hG]
  have := p.ne G hG
  cases G with
  | nil => exact absurd rfl this
  | cons _ _ => simp
/-! ### how the groups are found -/
/-- the program's way: all kinds that do not cross one of the group -/
def loose (f : Nat → List Nat) (ls g : List Nat) : List Nat := ls.filter fun k => g.any fun o => !decide (k ∈ f o)
end
end Cw
set_option Elab.async false
set_option linter.all false
set_option maxRecDepth 100000
set_option maxHeartbeats 4000000
/-! x + y, x * y of two objects of one own class -/
namespace PySem.W
open PySem PySem.Calls PyProof.Rows Builtin
section
variable {prog : Program} {w : World} {A : Around} {E : Value → Shared → Prop} {s : Shared} {K : Frag} {x y C L f : Addr} {h0 : Heap} {m : Str → Option Value} {ox oy : Obj} {od ody : Option Obj}
end
end PySem.W
namespace Cw
open PySem PySem.Spec L2
section
variable {X : Cx} {CX : CXT} {k : Nat} {C : Addr} {m : Str} {ps : List Str} {sp : Sp} {E : XK}
end
end Cw
set_option Elab.async false
set_option linter.all false
set_option maxRecDepth 100000
set_option maxHeartbeats 4000000
/-! C.f(..), f a static method; o.f, f a property -/
namespace Cw
open PySem PySem.Spec L2
/-- the static method f of the class at C -/
structure StAt (K : PySem.W.Frag) (C : Addr) (f qual : Str) (st : Stmt) : Prop where
  ex : ∃ (mc : Value) (p g : Addr) (rest : List Value) (fd : FuncData), ClX.CRead K C mc ∧ PySem.W.findCls K (.ref C) mc f = some (.get (.builtin "staticmethod.__get__") (.ref p) .none (.ref C)) ∧ PySem.W.recIn K p "staticmethod" = some (.ref g :: rest) ∧ Fun K f qual st g fd
structure StDef (P : Program) (w : World) (K : PySem.W.Frag) (mg : Str → Option Value) (base : Heap) (CX : CXT) (k : Nat) (C : Addr) (f : Str) (sp : Sp) : Prop where
  ex : ∃ (mc : Value) (p g : Addr) (rest : List Value) (fd : FuncData) (ps : List Str), ClX.CRead K C mc ∧ PySem.W.findCls K (.ref C) mc f = some (.get (.builtin "staticmethod.__get__") (.ref p) .none (.ref C)) ∧ PySem.W.recIn K p "staticmethod" = some (.ref g :: rest) ∧ PySem.W.keepIn K (.ref g) = true ∧ Binds K fd ps [] ∧ FnOk P w K mg base CX k g fd ps sp
/-- the property f of the class at C -/
structure PrAt (K : PySem.W.Frag) (C : Addr) (f qual : Str) (st : Stmt) : Prop where
  ex : ∃ (p g : Addr) (fd : FuncData), PropOf K C f p g ∧ Fun K f qual st g fd
structure PrDef (P : Program) (w : World) (K : PySem.W.Frag) (mg : Str → Option Value) (base : Heap) (CX : CXT) (k : Nat) (C : Addr) (f : Str) (sp : Sp) : Prop where
  ex : ∃ (p g : Addr) (fd : FuncData) (ps : List Str), PropOf K C f p g ∧ Binds K fd ps [] ∧ FnOk P w K mg base CX k g fd ps sp
section
variable {P : Program} {w : World} {K : PySem.W.Frag} {mg : Str → Option Value} {base : Heap} {CX : CXT} {j k : Nat} {C : Addr} {f qual : Str} {ps N : List Str} {sp : Sp} {st : Stmt}
theorem StDef.mono (D : StDef P w K mg base CX j C f sp) (h : j ≤ k) : StDef P w K mg base CX k C f sp := by
  obtain ⟨mc, p, g, rest, fd, ps, a, b, c, d, e, F⟩ := D.ex
  exact ⟨mc, p, g, rest, fd, ps, a, b, c, d, e, F.mono h⟩
theorem PrDef.mono (D : PrDef P w K mg base CX j C f sp) (h : j ≤ k) : PrDef P w K mg base CX k C f sp := by
  obtain ⟨p, g, fd, ps, a, b, F⟩ := D.ex
  exact ⟨p, g, fd, ps, a, b, F.mono h⟩
theorem StAt.ok (F : StAt K C f qual st) (S : FnScope N ps (defScope st))
    (hb : ∀ (kV doc pm : Value) (an : Option Addr) (cdv ct : Value) (us : List Value), us.length = ps.length → bindArgs (PySem.W.fnOf f qual (defArgs st) (defBody st) (defScope st) .none kV doc pm an cdv ct) ⟨us, []⟩ = pure (ps.zip us))
    (len : ∀ vs H Q E, sp vs H Q E → vs.length = ps.length)
    (hbody : ∀ (f : Addr) (cdv : Value) (A : Around) (outer : List Env) (s : Shared) (H : Hp) (vs : List V) (Q : VK) (E : XK), Room k (A.deeper (PyProof.Rows.envOfC qual (defScope st) s.heap.objs.size f cdv)) → sp vs H Q E →
      ∃ t, PSs (cxOf CX0 P w K mg base N qual (defScope st) f cdv A outer s H E).nox (defBody st) t ∧ t { nx := fun _ H' => Q .non H', rt := Q } (start N vs) H) : StDef P w K mg base CX0 (k + 1) C f sp := by
  obtain ⟨mc, p, g, rest, fd, a, b, c, G⟩ := F.ex
  exact ⟨mc, p, g, rest, fd, ps, a, b, c, G.kp, G.binds hb, G.ok S len fun cdv A outer s H vs Q E hr h => hbody g cdv A outer s H vs Q E hr h⟩
theorem PrAt.ok (F : PrAt K C f qual st) (S : FnScope N ps (defScope st))
    (hb : ∀ (kV doc pm : Value) (an : Option Addr) (cdv ct : Value) (us : List Value), us.length = ps.length → bindArgs (PySem.W.fnOf f qual (defArgs st) (defBody st) (defScope st) .none kV doc pm an cdv ct) ⟨us, []⟩ = pure (ps.zip us))
    (len : ∀ vs H Q E, sp vs H Q E → vs.length = ps.length)
    (hbody : ∀ (f : Addr) (cdv : Value) (A : Around) (outer : List Env) (s : Shared) (H : Hp) (vs : List V) (Q : VK) (E : XK), Room k (A.deeper (PyProof.Rows.envOfC qual (defScope st) s.heap.objs.size f cdv)) → sp vs H Q E →
      ∃ t, PSs (cxOf CX0 P w K mg base N qual (defScope st) f cdv A outer s H E).nox (defBody st) t ∧ t { nx := fun _ H' => Q .non H', rt := Q } (start N vs) H) : PrDef P w K mg base CX0 (k + 1) C f sp := by
  obtain ⟨p, g, fd, a, G⟩ := F.ex
  exact ⟨p, g, fd, ps, a, G.binds hb, G.ok S len fun cdv A outer s H vs Q E hr h => hbody g cdv A outer s H vs Q E hr h⟩
end
section
variable {X : Cx} {CX : CXT} {k : Nat} {C : Addr} {x f : Str} {sp : Sp} {E : XK} {e o : Expr} {es : List Expr} {p apos pos : PySem.Pos} {t : TA} {ta : TE} {pl : Sem Bool}
end
end Cw
set_option Elab.async false
set_option linter.all false
set_option maxRecDepth 100000
set_option maxHeartbeats 4000000
/-! more words: >, upper, list + list, parts of texts, values that are no texts -/
namespace Cw
open PySem PySem.Spec L2
section
variable {X : Cx}
theorem op_cat1 : OpR X (binaryOp .Add) rCat := op_cat
end
section
variable {σ : St} {H : Hp} {Q : VK} {K : PySem.W.Frag}
theorem v_cat {l b : Addr} {xs zs : List V} (h1 : H l = some (.lst xs)) (h2 : H b = some (.lst zs)) (hl : xs.length + zs.length ≤ 1000000) (q : ∀ p H', H p = none → Same H H' → H' p = some (.lst (xs ++ zs)) → Q (.ref p) H') : rCat (.ref l) (.ref b) H Q :=
  ⟨l, b, xs, zs, rfl, rfl, h1, h2, szl hl, fun p hp => q p _ hp (Same.new hp) upd_same⟩
/-- isinstance(value, str) is False -/
def NoTx (K : PySem.W.Frag) (H : Hp) (v : V) : Prop := ∃ t, TyX K H v t ∧ PySem.W.kitOne K t (.type "str") = some false
theorem v_isiN {v : V} (h : NoTx K H v) (q : Q (.bl false) H) : rIsi K [v, .ty "str"] H Q := by
  obtain ⟨t, h1, h2⟩ := h
  exact ⟨v, .ty "str", t, .type "str", false, rfl, .ty "str", h1, h2, q⟩
theorem noTx_non : NoTx K H .non := ⟨_, .base .non, kit_ty (by decide +kernel)⟩
theorem noTx_int {i : Int} : NoTx K H (.int i) := ⟨_, .base (.int i), kit_ty (by decide +kernel)⟩
theorem noTx_bl {b : Bool} : NoTx K H (.bl b) := ⟨_, .base (.bl b), kit_ty (by decide +kernel)⟩
theorem noTx_lst {a : Addr} {xs : List V} (h : H a = some (.lst xs)) : NoTx K H (.ref a) := ⟨_, .base (.lst h), kit_ty (by decide +kernel)⟩
theorem noTx_tup {a : Addr} {xs : List V} (h : H a = some (.tup xs)) : NoTx K H (.ref a) := ⟨_, .base (.tup h), kit_ty (by decide +kernel)⟩
end
end Cw
set_option Elab.async false
set_option linter.all false
set_option maxRecDepth 100000
set_option maxHeartbeats 4000000
/-! an own exception over ValueError whose __init__ calls super().__init__(..) -/
namespace Cw
open PySem PySem.Spec L2
section
variable {X : Cx} {pins : List (Addr × Obj)} {σ : L2.St} {H : Hp} {s : Shared} {C a f cda cc : Addr}
/-- a parameter is read -/
theorem ld_par {E : Value → Shared → Prop} {i : Nat} {x : Str} {v : V} {Q : Value → Shared → Prop} (I : Inv X pins σ H s) (hN : X.N[i]? = some x) (hk : X.env.scope.names.lookup x = some .local) (e : σ[i]? = some (some v)) (h : ∀ u, RelV v u → Q u s) : wpAny (model X.prog X.w) X.A (loadName X.env x) Q E s := by
  obtain ⟨m, hn, hl⟩ := I.loc
  obtain ⟨u, r, l⟩ := hl i x v hN e (Or.inl hk)
  rcases l with ⟨_, hm⟩ | ⟨hk2, c, hc, hcell⟩
  · exact wpAny_loadName_local I.ok.kind hk hn hm (h u r)
  · have hk : X.env.kindOf x = some .local := hk
    rcases hk2 with hk2 | hk2
    · rw [hk] at hk2
      cases hk2
    · rw [hk] at hk2
      cases hk2
/-- what the written part says of the def -/
structure SupC (P : Program) (K : PySem.W.Frag) (C f cda cc : Addr) (fd : FuncData) (sf : Str) : Prop where
  fn : ∃ oc od osl, K.lookup f = some ⟨oc, od, .func fd, osl⟩
  par : ∃ ar, (fd.params.posonlyargs ++ fd.params.args).head? = some ar ∧ ar.arg = sf
  code : ∃ ccl cdd vs ccs file tf, K.lookup cda = some ⟨ccl, cdd, .fields vs, ccs⟩ ∧ vs[2]? = some (.str file tf) ∧ ((P.main.file : Str) == file) = true
  top : (P.main.scope.names.lookup ("super" : Str)).isSome = false
  cell : ∃ cl cld csl, K.lookup cc = some ⟨cl, cld, .cell (some (.ref C)), csl⟩
  op : PySem.W.nsIn K PySem.cStatics "thirdparty.any" = some none
  up : PySem.W.ks_superIn K C C "__init__" = some (some (.builtin "ValueError.__init__"))
/-- super().__init__(v, ..) -/
theorem ws_super {body : List Stmt} {fd : FuncData} {self : Str} {es : List Expr} {p0 p1 p2 p3 p4 : PySem.Pos} {Q : Flow → Shared → Prop} {pl : Sem Bool} (S : SupC X.prog X.K C f cda cc fd self) (I : Inv X pins σ H s) (T : OexC X.K C) (ea : H a = some (exo a C none))
    (hks : X.env.kindOf "super" = some .globalImplicit) (hkc : X.env.kindOf "__class__" = some .free) (hfu : X.env.func = some f) (hco : X.env.code = .ref cda) (hcl : X.env.cells.lookup ("__class__" : Str) = some cc) (hm : X.mg "super" = none) (hN : X.N[0]? = some self) (hself : X.env.scope.names.lookup self = some .local)
    (e0 : σ[0]? = some (some (.ref a))) (hargs : ∀ s', Inv X pins σ H s' → ∀ (Q : List Value → Shared → Prop), (∀ us, us.length ≤ sizeLine → Q us s') → wpAny (model X.prog X.w) X.A (spliced (backTo p3 (starEach es X.env))) Q X.xe s')
    (hpl : (backTo p3 (starEach es X.env)).any (·.1) = false) (hi : interactive X.env = false) (hcons : ∃ m r, backTo p3 (starEach es X.env) = (false, m) :: r)
    (he : eval (.Call (.Attribute (.Call (.Name "super" p0) [] [] p1) "__init__" p2) es [] p3) X.env = (do
      let ov ← attributeBase (.Call (.Name "super" p0) [] [] p1) "__init__" X.env (eval (.Call (.Name "super" p0) [] [] p1) X.env)
      standAt p2.atName
      let (f, first) ← holding [ov] (getMethod ov "__init__" pl)
      callWith p3 f first (backTo p3 (starEach es X.env)) []))
    (q : ∀ s', Inv X pins σ H s' → Q .next s') :
    PySem.wpAt (model X.prog X.w) X.A (.func body X.env) (exec (.Expr (.Call (.Attribute (.Call (.Name "super" p0) [] [] p1) "__init__" p2) es [] p3) p4) X.env) Q X.xe s := by
  obtain ⟨nm, qn, N, bs, bm, sn, sub, ab, col, dd, k0, k1, k2, k3, k5, hC, hbm⟩ := T.cls
  have hcl' : PySem.W.clsIn X.K C = some { name := nm, bases := bs, mro := .ref C :: bm, ns := N, qualname := qn, hasDict := true, slotNames := sn, subclasses := sub, abstract := ab, collection := col, hasDel := false } := by unfold PySem.W.clsIn; rw [hC] <;> rfl
  obtain ⟨oc, od, osl, hf⟩ := S.fn
  obtain ⟨ar, hp, har⟩ := S.par
  obtain ⟨ccl, cdd, vs, ccs, file, tf, hcode, hvs, hfile⟩ := S.code
  obtain ⟨cl, cld, csl, hcell⟩ := S.cell
  have hup : PySem.W.alongIn X.K "__init__" bm = some (some (.builtin "ValueError.__init__")) := by
    have h := S.up
    unfold PySem.W.ks_superIn at h
    rw [hcl'] at h
    have e : ((Value.ref C :: bm).dropWhile (· != .ref C)).drop 1 = bm := by simp [List.dropWhile]
    exact e ▸ h
  refine PySem.ks_wpAt_Expr_any (hi := hi) (PySem.ks_wpAt_MethodCall (pl := pl) ?_ he)
  refine PySem.ks_wpAt_super_base hks hkc (by decide +kernel) hfu (I.kIn _ _ hf) rfl hp hco (I.kIn _ _ hcode) rfl hvs hfile S.top ?_
  obtain ⟨mb, g1, g2⟩ := I.mod.blt
  refine PySem.W.ks_loadName_global I.ok.kind hks (Calls.loadGlobal_builtin (by rw [I.ok.glob]; exact I.mod.glob.keeps I.bk) hm (by rw [I.ok.blt]; exact g1.keeps I.bk) ((g2 "super" (by decide)).trans (show bootBuiltins "super" = some (.type "super") by decide +kernel)) ⟨rfl, ?_⟩)
  refine wpAny_loadName_free I.ok.kind hkc hcl ⟨_, I.kIn _ _ hcell, rfl⟩ ?_
  rw [har]
  refine ld_par I hN hself e0 fun u ru => ?_
  obtain rfl : u = Value.ref a := ru
  obtain ⟨t1, ho⟩ := exo_at I.hok ea
  have hCh := I.kIn _ _ hC
  refine PySem.ks_wpAny_isType_cls hCh rfl ⟨rfl, ?_⟩
  have naC : a ≠ C := by
    rintro rfl
    rw [hCh] at ho
    injection ho with ho
    injection ho with _ _ z
    cases z
  have hne : (Value.ref C :: bm).isEmpty = false := rfl
  have hmro : ∀ v : Value, (Value.ref C :: bm).contains v = true → PySem.W.mroIn X.K C v = some true := fun v hv => by
    unfold PySem.W.mroIn
    rw [hcl', Option.bind_some, if_neg (by rw [hne]; decide), hv]
  have hsub : PySem.W.Looks (model X.prog X.w) s.heap (isSubtype (.ref C) (.ref C)) true := PySem.W.looks_mroIn I.kIn (hmro _ (by simp))
  obtain ⟨hp0, g, d, t, os⟩ := s
  refine PySem.ks_wpAny_call_super hCh rfl ho rfl (fun c z => nomatch z) hsub fun h1 hso k1 => ?_
  have I1 := I.kept (t' := t) k1
  have J1 : PySem.W.InstAt h1 a ({ cls := .ref C, dict := none, data := .fields #[.ref t1, .none, .none, .none, .bool false, .none] } : Obj) C none := ⟨k1 _ _ ho, rfl, rfl, trivial⟩
  have hVE : (Value.ref C :: bm).contains (.type "ValueError") = true := by
    rw [List.contains_cons, PySem.HandSPX.refsVE_contains "ValueError" bm hbm]
    simp
  refine PySem.W.kxs_getMethod PySem.W.kxs_ValueError hso (PySem.W.looks_opaque I1.kIn S.op) (l₀ := .ref C :: bm) ((PySem.W.looks_clsIn I1.kIn hcl').andThen .now) (by simp [List.dropWhile]) I1.kIn hup (J1.type.andThen (PySem.W.looks_mroIn I1.kIn (hmro _ hVE))) naC (by decide +kernel) ?_
  have k2 : ∀ b o, h1.get? b = some o → (h1.push (PySem.W.kxs_mw "ValueError.__init__" a)).get? b = some o := fun b o e => Heap.get?_push_of_some _ e
  have I2 := I1.kept (t' := t + 1) k2
  have hu : (h1.push (PySem.W.kxs_mw "ValueError.__init__" a)).get? h1.objs.size = some (PySem.W.kxs_mw "ValueError.__init__" a) := Heap.get?_push_at rfl rfl
  have ho2 := k2 _ _ (k1 _ _ ho)
  obtain ⟨m0, r0, hc0⟩ := hcons
  have ha := hargs _ I2 (fun vs s₁ => PySem.W.KxsAt "ValueError.__init__" h1.objs.size a s₁.heap ∧ wpAny (model X.prog X.w) X.A (call (.ref h1.objs.size) vs) (fun _ => Q .next) X.xe s₁)
  rw [hc0] at hpl ha ⊢
  refine PySem.W.kxs_callWith (i := "ValueError.__init__") (x := a) hpl (PySem.Calls.evalArgs_plain (ha fun us hus => ⟨hu, ?_⟩))
  refine wpAny_call (codeAny_of_tree ?_)
  show wpAny _ X.A.in1 (callAny (.ref h1.objs.size) ⟨us, []⟩) _ _ _
  simp only [callAny]
  refine wpAny_bind (wpAny_load hu ?_)
  simp only [PySem.W.kxs_mw, show (Value.type "method-wrapper" == Value.type "method" || Value.type "method-wrapper" == Value.type "builtin_function_or_method" || Value.type "method-wrapper" == Value.type "method-wrapper") = true by decide, if_true]
  refine PySem.W.KFB.if_so (by decide) ?_
  refine wpAny_bind (PySem.W.check_bound_init PySem.F.excBase_ValueError.toExcCallFacts (I2.kIn _ _ hC) ho2 rfl ?_)
  refine wpAny_bind (wpAny_pure (wpAny_pure ?_))
  refine ⟨plainId_quiet PySem.F.excBase_ValueError.init.plain _, codeAny_builtin PySem.F.excBase_ValueError.initEntry ?_⟩
  refine PySem.W.exc_init_tree (cls := .ref C) (t0 := t1) (dv := none) (c2 := .none) (c3 := .none) (b4 := .bool false) ho2 hus fun h3 k3 e3 _ => ?_
  have J := I2.write (t' := t + 1) (x := a) (e := a) (o := exo a C none) (by rw [ea]; exact True.intro) (.inl rfl) k3 ⟨_, e3⟩ (exo_ok e3)
  have eu : upd H a (exo a C none) = H := by
    funext b
    by_cases hb : b = a
    · rw [hb, upd_same, ea]
    · rw [upd_ne hb]
  rw [eu] at J
  exact q _ J
theorem sp_name1 {y : Str} {i : Nat} {v : V} {q p3 : PySem.Pos} (I : Inv X pins σ H s) (hN : X.N[i]? = some y) (hk : X.env.scope.names.lookup y = some .local) (e : σ[i]? = some (some v)) (hd : (y == ("__debug__" : Str)) = false) {Q : List Value → Shared → Prop} (h : ∀ us, us.length ≤ sizeLine → Q us s) :
    wpAny (model X.prog X.w) X.A (spliced (backTo p3 (starEach [.Name y q] X.env))) Q X.xe s := by
  show wpAny _ _ (spliced ((false, eval (.Name y q) X.env) :: backTo p3 (starEach [] X.env))) _ _ s
  exact Calls.spliced_cons (wpAny_Name (ld_par I hN hk e fun u _ => Calls.spliced_nil (h [u] (by show 1 ≤ sizeLine; decide))) hd)
end
section
variable {CX : CXT} {P : Program} {w : World} {K : PySem.W.Frag} {mg : Str → Option Value} {base : Heap} {k : Nat} {C f cc : Addr} {N ps : List Str} {sp : Sp}
/-- such a def by its body -/
theorem exc_init {fd : FuncData} {F : NdefX.NF} {sf : Str} {es : List Expr} {rest : List Stmt} {p0 p1 p2 p3 p4 : PySem.Pos} {pl : Env → Sem Bool} (S : SupC P K C f F.c cc fd sf)
    (hfd : ∃ kV doc pm an ct, fd = PySem.W.fnX F.name F.qual F.params F.body F.scope F.cl .none kV doc pm an (.ref F.c) ct) (hcl : F.cl = [(("__class__" : Str), cc)]) (hcd : PySem.W.codeIn K (.ref F.c) F.qual = true) (NS : NdefX.NScope N ps ["__class__"] F.scope)
    (hb : F.body = .Expr (.Call (.Attribute (.Call (.Name "super" p0) [] [] p1) "__init__" p2) es [] p3) p4 :: rest) (hm : mg "super" = none) (h0 : N[0]? = some sf) (hsf : F.scope.names.lookup sf = some .local) (hks : F.scope.names.lookup ("super" : Str) = some .globalImplicit)
    (len : ∀ vs H Q E, sp vs H Q E → vs.length = ps.length)
    (hcons : ∀ env : Env, ∃ m r, backTo p3 (starEach es env) = (false, m) :: r) (hpl : ∀ env : Env, (backTo p3 (starEach es env)).any (·.1) = false)
    (he : ∀ env : Env, eval (.Call (.Attribute (.Call (.Name "super" p0) [] [] p1) "__init__" p2) es [] p3) env = (do
      let ov ← attributeBase (.Call (.Name "super" p0) [] [] p1) "__init__" env (eval (.Call (.Name "super" p0) [] [] p1) env)
      standAt p2.atName
      let (f, first) ← holding [ov] (getMethod ov "__init__" (pl env))
      callWith p3 f first (backTo p3 (starEach es env)) []))
    (hgo : ∀ (A : Around) (outer : List Env) (s : Shared) (H : Hp) (vs : List V) (Q : VK) (E : XK), Room k (A.deeper (NdefX.envF F f s.heap.objs.size)) → sp vs H Q E → ∃ a vs', vs = .ref a :: vs' ∧ OexC K C ∧ H a = some (exo a C none) ∧
      (∀ s', Inv (NdefX.ncx CX P w K mg base N F f A outer s H E) [] (NdefX.startF N vs [some (.ref C)]) H s' → ∀ (Q : List Value → Shared → Prop), (∀ us, us.length ≤ sizeLine → Q us s') → wpAny (model P w) (A.deeper (NdefX.envF F f s.heap.objs.size)) (spliced (backTo p3 (starEach es (NdefX.envF F f s.heap.objs.size)))) Q (NdefX.ncx CX P w K mg base N F f A outer s H E).xe s') ∧
      ∃ t, PSs (NdefX.ncx CX P w K mg base N F f A outer s H E) rest t ∧ t { nx := fun _ H' => Q .non H', rt := Q } (NdefX.startF N vs [some (.ref C)]) H) : FnOk P w K mg base CX (k + 1) f fd ps sp := by
  refine ⟨len, fun A outer s H args us vs Q E hr e0 hbd r hsp => ?_⟩
  have hl := len _ _ _ _ hsp
  obtain ⟨kV, doc, pm, an, ct, rfl⟩ := hfd
  obtain ⟨oc, od, osl, lk⟩ := S.fn
  obtain ⟨cl, cld, csl, hcell⟩ := S.cell
  have KX : K.In s.heap := e0.mod.kin.keeps fun b o e => (e0.bs b o e).1
  have lim : s.heap.NoLimit := e0.mod.nolimit.keeps fun b o e => (e0.bs b o e).1
  refine PySem.ks_codeAny_call_defAt (body := F.body) hr.depth (KX _ _ lk) rfl lim (PySem.W.codeRec_of KX hcd) rfl hbd NS.nocell (fun ⟨n, v⟩ hy => NS.par n (List.of_mem_zip hy).1) (fun h₁ hns kp => ?_) NS.co NS.gen NS.kind
  obtain ⟨a, vs', rfl, T, ea, hargs, t, ht, hq⟩ := hgo A outer s H vs Q E (hr.deeper _) hsp
  have hccH : H cc = none := (e0.bs cc _ (e0.mod.kin _ _ hcell)).2
  have hccI : s.heap.IsCell cc (some (.ref C)) := ⟨_, KX _ _ hcell, rfl⟩
  have lk1 : ∀ y c, F.cl.lookup y = some c → y = "__class__" ∧ c = cc := fun y c h => by
    rw [hcl] at h
    by_cases e : y = ("__class__" : Str)
    · subst e
      simp [List.lookup] at h
      exact ⟨rfl, h.symm⟩
    · have e' : (y == ("__class__" : Str)) = false := by simpa using e
      simp [List.lookup, e'] at h
  have hcc : F.cl.lookup ("__class__" : Str) = some cc := by rw [hcl]; simp [List.lookup]
  have C1 : NdefX.CellsAt F.cl ["__class__"] [some (.ref C)] s.heap H := {
    len := rfl
    all := fun y c h => by
      obtain ⟨_, rfl⟩ := lk1 y c h
      exact ⟨hccH, _, hccI⟩
    inj := fun x y c h1 h2 => (lk1 x c h1).1.trans (lk1 y c h2).1.symm
    has := fun i y h => by
      cases i with
      | succ i => simp at h
      | zero =>
        simp at h
        subst h
        refine ⟨cc, hcc, fun v hv => ?_⟩
        simp at hv
        subst hv
        exact ⟨_, rfl, hccI⟩ }
  have I : Inv (NdefX.ncx CX P w K mg base N F f A outer s H E) [] (NdefX.startF N (.ref a :: vs') [some (.ref C)]) H { s with heap := h₁, toks := s.toks + (ps.zip us).length } := NdefX.inv_startN NS hr.hd e0 hl r C1 hns kp
  show PySem.wpAt (model P w) (A.deeper (NdefX.envF F f s.heap.objs.size)) (.func F.body (NdefX.envF F f s.heap.objs.size)) (execs F.body (NdefX.envF F f s.heap.objs.size)) _ _ _
  rw [hb]
  refine PySem.ks_wpAt_execs_cons ?_
  refine ws_super (X := NdefX.ncx CX P w K mg base N F f A outer s H E) (a := a) (cc := cc) S I T ea hks (NS.frk _ (List.mem_singleton_self _)) rfl rfl hcc hm h0 hsf rfl hargs (hpl _) (by unfold interactive; simp [show (NdefX.ncx CX P w K mg base N F f A outer s H E).env.scope.kind = .function from NS.kind]) (hcons _) (he _) fun s' J => ?_
  show PySem.wpAt _ _ _ (execs rest _) _ _ _
  refine PySem.wpAt_of_wpAny (wpAny_mono (ht.run [] s' _ H _ J hq) (fun fl s2 hs => ?_) fun e s2 hs => hs)
  have fin : ∀ {σ' : L2.St} {H' : Hp} {v : V} {u : Value}, Inv (NdefX.ncx CX P w K mg base N F f A outer s H E) [] σ' H' s2 → L2.RelV v u → Q v H' → CE outer P w H s Q u s2 :=
    fun {σ' H' v u} J rv q => ⟨v, H', J.os, J.bare, J.base, J.hok, rv, q⟩
  cases fl with
  | ret u =>
    obtain ⟨v, σ', H', J, rv, q⟩ := hs
    exact fin J rv q
  | next =>
    obtain ⟨σ', H', J, q⟩ := hs
    exact fin (v := V.non) (u := Value.none) J rfl q
  | brk =>
    obtain ⟨_, _, _, q⟩ := hs
    exact False.elim q
  | cont =>
    obtain ⟨_, _, _, q⟩ := hs
    exact False.elim q
end
end Cw
set_option Elab.async false
set_option linter.all false
set_option maxRecDepth 100000
set_option maxHeartbeats 4000000
/-! own exceptions with fields: made, raised -/
namespace Cw
open PySem PySem.Spec L2
/-- what the top has left of such a class; st: its __init__ -/
structure ExcE (P : Program) (K : PySem.W.Frag) (mg : Str → Option Value) (x : Str) (B : Addr) (qual : Str) (st : Stmt) : Prop where
  «at» : mg x = some (.ref B)
  oex : OexC K B
  xf : XfC K B
  ec : ExcC K B
  init : ∃ (f cda cc : Addr) (fd : FuncData) (kV doc pm : Value) (an : Option Addr) (ct : Value), PySem.W.findIn K (.ref B) "__init__" = some (some (.ref f)) ∧ PySem.W.typeIn K (.ref f) = some (.type "function") ∧
    fd = PySem.W.fnX "__init__" qual (defArgs st) (defBody st) (defScope st) [(("__class__" : Str), cc)] .none kV doc pm an (.ref cda) ct ∧ PySem.W.codeIn K (.ref cda) qual = true ∧ SupC P K B f cda cc fd "self"
/-- its __init__: g tells the fields of the arguments -/
def spE (B : Addr) (n : Nat) (g : List V → List (Str × V)) : Sp := fun vs H Q _ => ∃ (a : Addr) (ws : List V), vs = .ref a :: ws ∧ ws.length = n ∧ H a = some (exo a B none) ∧
  ∀ d H', H d = none → d ≠ a → H' a = some (exo a B (some d)) → H' d = some (exd d (g ws)) → (∀ b, b ≠ a → b ≠ d → H' b = H b) → Q .non H'
structure XDef (P : Program) (w : World) (K : PySem.W.Frag) (mg : Str → Option Value) (base : Heap) (k : Nat) (x : Str) (B : Addr) (n : Nat) (g : List V → List (Str × V)) : Prop where
  «at» : mg x = some (.ref B)
  oex : OexC K B
  ex : ∃ (f : Addr) (fd : FuncData) (ps : List Str), PySem.W.findIn K (.ref B) "__init__" = some (some (.ref f)) ∧ PySem.W.typeIn K (.ref f) = some (.type "function") ∧ Binds K fd ps [] ∧ FnOk P w K mg base CX0 k f fd ps (spE B n g)
theorem XDef.mono {P : Program} {w : World} {K : PySem.W.Frag} {mg : Str → Option Value} {base : Heap} {j k : Nat} {x : Str} {B : Addr} {n : Nat} {g : List V → List (Str × V)} (D : XDef P w K mg base j x B n g) (h : j ≤ k) : XDef P w K mg base k x B n g := by
  obtain ⟨f, fd, ps, a, b, c, d⟩ := D.ex
  exact ⟨D.at, D.oex, f, fd, ps, a, b, c, d.mono h⟩
section
variable {X : Cx} {k n : Nat} {x : Str} {B : Addr} {g : List V → List (Str × V)} {e : Expr} {es : List Expr} {ta : TA} {p pos : PySem.Pos}
theorem pmk_E (D : XDef X.prog X.w X.K X.mg X.base k x B n g) (hr : Room (k + 1) X.A) (ha : PA X (e :: es) ta) (hg : Gl X x := by rfl) (hdb : (x == ("__debug__" : Str)) = false := by decide)
    (he : starEach (e :: es) X.env = (false, eval e X.env) :: starEach es X.env := by rfl) (hpl : (backTo pos (starEach es X.env)).any (·.1) = false := by rfl) : PMk X (.Call (.Name x p) (e :: es) [] pos) (tMkO B (spE B n g) [] ta) := by
  obtain ⟨f, fd, ps, a, b, c, d⟩ := D.ex
  exact pmk_oex D.oex a b d hr c .nil pass0 hg D.at ha hdb he hpl
end
/-- it is made -/
theorem v_mkE {B : Addr} {n : Nat} {g : List V → List (Str × V)} {H1 : Hp} {Q : XK} {ws : List V} (hl : ws.length = n) (hn : n ≤ 1000) (q : ∀ d, H1 d = none → Q (.ref B) (some d) (upd H1 d (.xd (g ws)))) :
    ws.length ≤ 1000 ∧ ∀ a, H1 a = none → spE B n g (.ref a :: (ws ++ [])) (upd H1 a (exo a B none)) (fun v H2 => v = .non ∧ ∃ (d : Addr) (fs : List (Str × V)), H2 a = some (exo a B (some d)) ∧ H2 d = some (exd d fs) ∧ H1 d = none ∧ Q (.ref B) (some d) (upd (del H2 a) d (.xd fs))) (fun _ _ _ => False) := by
  refine ⟨by omega, fun a ha => ⟨a, ws ++ [], rfl, by rw [List.append_nil]; exact hl, upd_same, fun d H' hd nd ea ed kp => ?_⟩⟩
  rw [List.append_nil] at ed
  rw [upd_ne nd] at hd
  refine ⟨rfl, d, _, ea, ed, hd, ?_⟩
  have e : upd (del H' a) d (.xd (g ws)) = upd H1 d (.xd (g ws)) := by
    funext b
    by_cases h1 : b = d
    · rw [h1, upd_same, upd_same]
    · rw [upd_ne h1, upd_ne h1]
      by_cases h2 : b = a
      · rw [h2, del_same, ha]
      · rw [del_ne h2, kp b h2 h1, upd_ne h2]
  rw [e]
  exact q d hd
section
variable {P : Program} {w : World} {K : PySem.W.Frag} {mg : Str → Option Value} {base : Heap} {k : Nat} {x qual : Str} {B : Addr} {st : Stmt}
/-- one field -/
theorem ok_E1 {fld y : Str} {p0 p1 p2 p3 p4 q0 q1 q2 q3 q4 : PySem.Pos} {pl : Env → Sem Bool} (E : ExcE P K mg x B qual st) (hs : mg "super" = none) (hno : PySem.W.findIn K (.ref B) fld = some none)
    (hb : defBody st = [.Expr (.Call (.Attribute (.Call (.Name "super" p0) [] [] p1) "__init__" p2) [.Name y q4] [] p3) p4, .Assign [.Attribute (.Name "self" q0) fld q1] (.Name y q2) q3])
    (NS : NdefX.NScope ["self", y, "__class__"] ["self", y] ["__class__"] (defScope st)) (hks : (defScope st).names.lookup ("super" : Str) = some .globalImplicit) (hd : (y == ("__debug__" : Str)) = false) (hd2 : (y == ("__classdict__" : Str)) = false)
    (hbd : ∀ (kV doc pm : Value) (an : Option Addr) (cda cc : Addr) (ct : Value) (us : List Value), us.length = 2 → bindArgs (PySem.W.fnX "__init__" qual (defArgs st) (defBody st) (defScope st) [(("__class__" : Str), cc)] .none kV doc pm an (.ref cda) ct) ⟨us, []⟩ = pure ((["self", y] : List Str).zip us))
    (he : ∀ env : Env, eval (.Call (.Attribute (.Call (.Name "super" p0) [] [] p1) "__init__" p2) [.Name y q4] [] p3) env = (do
      let ov ← attributeBase (.Call (.Name "super" p0) [] [] p1) "__init__" env (eval (.Call (.Name "super" p0) [] [] p1) env)
      standAt p2.atName
      let (f, first) ← holding [ov] (getMethod ov "__init__" (pl env))
      callWith p3 f first (backTo p3 (starEach [.Name y q4] env)) [])) :
    XDef P w K mg base (k + 1) x B 1 (fun ws => [(fld, ws.getD 0 .non)]) := by
  obtain ⟨f, cda, cc, fd, kV, doc, pm, an, ct, hi, ht, hfd, hcd, S⟩ := E.init
  refine ⟨E.at, E.oex, f, fd, ["self", y], hi, ht, .all fun us hl => by rw [hfd]; exact hbd kV doc pm an cda cc ct us hl, ?_⟩
  have ls := NS.par "self" (by simp)
  have ly := NS.par y (by simp)
  refine exc_init (F := ⟨"__init__", qual, defArgs st, defBody st, defScope st, [(("__class__" : Str), cc)], cda⟩) S ⟨kV, doc, pm, an, ct, hfd⟩ rfl hcd NS hb hs rfl ls hks (fun vs H Q E h => ?_) (fun env => ⟨_, _, rfl⟩) (fun env => rfl) he fun A outer s H vs Q E' hr h => ?_
  · obtain ⟨a, ws, rfl, hw, _⟩ := h
    show ws.length + 1 = 2
    omega
  obtain ⟨a, ws, rfl, hw, ea, q⟩ := h
  obtain ⟨v, rfl⟩ : ∃ v, ws = [v] := by
    match ws, hw with
    | [v], _ => exact ⟨v, rfl⟩
  refine ⟨a, [v], rfl, E.oex, ea, fun s' I Q h => sp_name1 (i := 1) (v := v) I rfl ly rfl hd h, _, pss_one (ps_ost (pe_var (i := 0) rfl (Or.inl ls)) (pe_var (i := 1) rfl (Or.inl ly) hd hd2)), ?_⟩
  refine ⟨v, rfl, .ref a, rfl, a, B, rfl, E.oex, hno, .inl ⟨ea, fun d hd nd => ?_⟩⟩
  refine q d _ hd nd upd_same (by rw [upd_ne nd, upd_same]; rfl) fun b h1 h2 => by rw [upd_ne h1, upd_ne h2]
end
end Cw
set_option Elab.async false
set_option linter.all false
set_option maxRecDepth 100000
set_option maxHeartbeats 4000000
/-! in the suite: an own exception with fields -/
namespace Cw
open PySem PySem.Spec L2
end Cw
set_option Elab.async false
set_option linter.all false
set_option maxRecDepth 100000
set_option maxHeartbeats 4000000
/-! several except clauses that name what they caught -/
namespace Cw
open PySem PySem.Spec PyProof.Rows L2
/-- a clause's ends: its name goes -/
def gone (i : Nat) (D : Ends) : Ends := { nx := fun σ' H' => D.nx (σ'.set i none) H', rt := D.rt, bk := fun σ' H' => D.bk (σ'.set i none) H', ct := fun σ' H' => D.ct (σ'.set i none) H' }
def wManyA (K : PySem.W.Frag) (i m : Nat) (Wout : WX) (D : Ends) : List (Value × (Addr → Value → Option Addr → TS)) → WX
  | [] => Wout
  | (c, ts) :: r => fun cls d σ H => ∃ b, PySem.W.exmOne K cls c = some b ∧ (b = true → ∀ a, H a = none → σ.length = m → ts a cls d (gone i D) (σ.set i (some (.ref a))) H) ∧ (b = false → wManyA K i m Wout D r cls d σ H)
inductive HdsA (X : Cx) (n : Str) : List ExceptHandler → List (Value × (Addr → Value → Option Addr → TS)) → Prop
  | nil : HdsA X n [] []
  | cons {x : Str} {c : Value} {ts : Addr → Value → Option Addr → TS} {b₀ : Stmt} {suite : List Stmt} {np pos' : PySem.Pos} {hds : List ExceptHandler} {l : List (Value × (Addr → Value → Option Addr → TS))} (hc : Names X x c)
      (hsu : ∀ (a : Addr) (oe : Obj) (cls : Value) (d : Option Addr) (pn : List (Addr × Obj)), Zc cls d oe → (∃ vs, oe.data = .fields vs) → PSs (X.suite a ((a, oe) :: pn)) (b₀ :: suite) (ts a cls d)) (r : HdsA X n hds l) :
      HdsA X n (.ExceptHandler (some (.Name x np)) (some n) (b₀ :: suite) pos' :: hds) ((c, ts) :: l)
section
variable {X : Cx} {n : Str} {i : Nat} {body : List Stmt} {h₀ : ExceptHandler} {hds : List ExceptHandler} {l : List (Value × (Addr → Value → Option Addr → TS))} {pos : PySem.Pos} {tb : WX → TS} {Wout : WX}
theorem ps_try_manyA (hs : X.stack = X.env :: X.outer) (hf : X.env.frame = some X.env.locals) (hN : X.N.Nodup) (hi : X.N[i]? = some n) (hln : X.env.kindOf n = some .local) (tk : Takes X Wout)
    (hb : ∀ (W : WX) (pn : List (Addr × Obj)) (xe : Value → Shared → Prop), Takes (X.tr pn xe) W → PassesOwn (model X.prog X.w) X.A X.env xe → PSs (X.tr pn xe) body (tb W))
    (hh : HdsA X n (h₀ :: hds) l) : PS X (.Try body (h₀ :: hds) [] [] pos) (fun D σ H => tb (wManyA X.K i X.N.length Wout D l) D σ H) := by
  refine ⟨fun pins s σ H D I h => ?_⟩
  have ok := I.ok
  have hfr : X.A.frames = some (X.env :: X.outer) := by rw [ok.frames, hs]
  have hloc : Loc X.env.scope n := .inl hln
  refine wpAny_Try_except ?_
  refine wpAny_mono ((hb (wManyA X.K i X.N.length Wout D l) (X.pn ++ pins) (fun e s₁ => wpAny (model X.prog X.w) X.A (noteFrame e X.env) (fun _ s₂ => wpAny (model X.prog X.w) X.A (setFlight e none) (fun _ s₃ =>
    wpAny (model X.prog X.w) X.A (handleBy e X.env (h₀ :: hds)) (SP X pins D) X.xe s₃) X.xe s₂) X.xe s₁) (fun u s' xx => ?_) PassesOwn.looking).run [] s σ H D (I.toTry _) h) (fun f s1 hsp => ?_) (fun e s1 he => he)
  · obtain ⟨a, B, sI, pins', σ', H', cls, d, rfl, J', nb, up, sky, na, os, ag, w⟩ := xx
    have J : Inv X pins σ' H' sI := J'.ofTry ok
    have sky' : Sky B (X.env :: X.outer) a (Zc cls d) X.env.locals s'.heap := by rw [← hs]; exact sky
    show wpAny (model X.prog X.w) X.A (noteFrame (.ref a) X.env) _ _ _
    refine Sky.land Zc.steady hfr hf sky' fun h3 fl3 up3 => ?_
    have J3 : Inv X pins σ' H' { s' with heap := h3 } := J.landed nb fl3.1 (up.trans up3) os ag
    obtain ⟨oe3, vs3, he3, hz3, hd3⟩ := fl3.there
    have notFr : ∀ {h : Heap} {o : Obj} {vs : Array Value}, h.FunFrames B (X.env :: X.outer) → h.get? a = some o → o.data = .fields vs → a ∉ frs (X.env :: X.outer) := fun {h o vs} ff e dd hm => by
      obtain ⟨_, o', e', hnf⟩ := ff.mem hm
      rw [e] at e'; cases e'
      exact hnf _ dd
    have nfr := notFr fl3.2.2.1 he3 hd3
    have nL : a ≠ X.env.locals := fun z => nfr (List.mem_filterMap.mpr ⟨X.env, List.mem_cons_self, by rw [hf, z]⟩)
    have nF : a ∉ X.fs := fun hm => by
      obtain ⟨e, he, q⟩ := List.mem_filterMap.mp hm
      exact nfr (List.mem_filterMap.mpr ⟨e, List.mem_cons_of_mem _ he, q⟩)
    have S3 := J3.suite he3 hd3 na nL nF
    have go : ∀ {hds' : List ExceptHandler} {l' : List (Value × (Addr → Value → Option Addr → TS))}, HdsA X n hds' l' → wManyA X.K i X.N.length Wout D l' cls d σ' H' →
        wpAny (model X.prog X.w) X.A (handleBy (.ref a) X.env hds') (SP X pins D) X.xe { s' with heap := h3 } := by
      intro hds' l' hk
      induction hk with
      | nil =>
        intro w
        refine wpAny_handleBy_nil ?_
        obtain ⟨k1, k2, k3, oe, vs, T, oT, ts', he, hz, hd, h1, hr⟩ := id fl3
        unfold PySem.passOn
        refine wpAny_bind (wpAny_field he hd h1 ?_)
        rw [if_neg (show ¬ ((Value.ref T == Value.none) = true) from by simp)]
        have fin : wpAny (model X.prog X.w) X.A (setFlight (.ref a) X.env.frame) (fun _ s4 => wpAny (model X.prog X.w) X.A (throw (.ref a) : Sem Flow) (SP X pins D) X.xe s4) X.xe { s' with heap := h3 } := by
          rw [hf]
          refine HandSPX.setFlight_upZ fl3 fun h4 hh4 up4 => wpAny_throw (tk _ _ ?_)
          exact ⟨a, B, sI, pins, σ', H', cls, d, rfl, J, nb, (up.trans up3).trans up4, .inr (.inr (by rw [hs]; exact hh4)), na, os, ag, w⟩
        first
          | exact wpAny_bind (wpAny_pure (wpAny_bind fin))
          | exact wpAny_bind fin
      | @cons x c ts b₀ suite np pos' hds2 l2 hc hsu r ih =>
        intro w
        obtain ⟨b, hb1, hyes, hno⟩ := w
        refine wpAny_handleBy_cons (codeAny_handlers_test ?_) (by intro q; cases q)
        have LT : PySem.W.Looks (model X.prog X.w) h3 (typeOf (.ref a)) cls := fun A Q E s k q => wpAny_typeOf_ref (k _ _ he3) (by rw [hz3.1]; exact q)
        have LM := PySem.W.exm_one (M := model X.prog X.w) (J3.kIn) LT hb1
        have test : ∀ {Q : Value → Shared → Prop} {E : Value → Shared → Prop}, Q c { s' with heap := h3 } → wpAny (model X.prog X.w) (X.A.mark (some (.ref a))) (eval (.Name x np) X.env) Q E { s' with heap := h3 } := fun {Q E} q => by
          obtain ⟨hg, hdbg, hm | ⟨hm, hv, hnn⟩⟩ := hc
          · exact ld_glob (X := X.suite a ((a, oe3) :: (X.pn ++ pins))) S3 hg hm q hdbg
          · exact ld_blt (X := X.suite a ((a, oe3) :: (X.pn ++ pins))) S3 hg hm hv q hnn hdbg
        refine test (LM.here ?_)
        cases b with
        | true =>
          refine codeAny_handlers_suite_as ?_
          refine HandSPX.lands_againZ fl3 fun h4 fl4 up4 => ?_
          have J4 : Inv X pins σ' H' { s' with heap := h4 } := J.landed nb fl4.1 ((up.trans up3).trans up4) os ag
          obtain ⟨oe4, vs4, he4, hz4, hd4⟩ := fl4.there
          have S4 := J4.suite he4 hd4 na nL nF
          refine store_ok (X := X.suite a ((a, oe4) :: (X.pn ++ pins))) (v := .ref a) S4 hN hi hloc rfl (fun s5 S5 => ?_) (.inr hln)
          refine wpAny_mono ((hsu a oe4 cls d (X.pn ++ pins) hz4 ⟨_, hd4⟩).run [] s5 _ H' _ S5 (hyes rfl a na J.len)) (fun f s6 hsp => ?_) (fun _ _ z => False.elim z)
          have end_ : ∀ {σ6 : L2.St} {H6 : Hp} {Q : Shared → Prop}, Inv (X.suite a ((a, oe4) :: (X.pn ++ pins))) [] σ6 H6 s6 → (∀ s7, Inv X pins (σ6.set i none) H6 s7 → Q s7) →
              wpAny (model X.prog X.w) X.A (do bindName X.env n .none; unbindBehindTheSuite X.env n pos') (fun _ s7 => Q s7) X.xe s6 := fun {σ6 H6 Q} S6 hq => gone_ok (S6.unsuite ok) hN hi hln hq
          cases f with
          | next =>
            obtain ⟨σ6, H6, S6, q6⟩ := hsp
            exact end_ S6 fun s7 J7 => ⟨_, _, J7, q6⟩
          | brk =>
            obtain ⟨σ6, H6, S6, q6⟩ := hsp
            exact end_ S6 fun s7 J7 => ⟨_, _, J7, q6⟩
          | cont =>
            obtain ⟨σ6, H6, S6, q6⟩ := hsp
            exact end_ S6 fun s7 J7 => ⟨_, _, J7, q6⟩
          | ret u =>
            obtain ⟨v6, σ6, H6, S6, r6, q6⟩ := hsp
            exact end_ S6 fun s7 J7 => ⟨_, _, _, J7, r6, q6⟩
        | false =>
          show wpAny _ X.A (handleBy (.ref a) X.env hds2) _ _ _
          exact ih (hno rfl)
    exact go hh w
  · cases f with
    | next =>
      obtain ⟨σ', H', J', q⟩ := hsp
      exact wpAny_execs_nil ⟨σ', H', J'.ofTry ok, q⟩
    | brk =>
      obtain ⟨σ', H', J', q⟩ := hsp
      exact ⟨σ', H', J'.ofTry ok, q⟩
    | cont =>
      obtain ⟨σ', H', J', q⟩ := hsp
      exact ⟨σ', H', J'.ofTry ok, q⟩
    | ret u =>
      obtain ⟨v, σ', H', J', r, q⟩ := hsp
      exact ⟨v, σ', H', J'.ofTry ok, r, q⟩
end
theorem e_mkE {C : Addr} {sp : Sp} {dvs : List V} {ta : TA} {σ : L2.St} {H : Hp} {Q : XK} (q : ta σ H fun vs H1 => vs.length ≤ 1000 ∧ ∀ a, H1 a = none → sp (.ref a :: (vs ++ dvs)) (upd H1 a (exo a C none))
  (fun v H2 => v = .non ∧ ∃ (d : Addr) (fs : List (Str × V)), H2 a = some (exo a C (some d)) ∧ H2 d = some (exd d fs) ∧ H1 d = none ∧ Q (.ref C) (some d) (upd (del H2 a) d (.xd fs))) (fun _ _ _ => False)) : tMkO C sp dvs ta σ H Q := q
end Cw
set_option Elab.async false
set_option linter.all false
set_option maxRecDepth 100000
set_option maxHeartbeats 4000000
/-! C(..) whose __init__ may raise -/
namespace Cw
open PySem PySem.Spec L2
section
variable {P : Program} {w : World} {K : PySem.W.Frag} {mg : Str → Option Value} {base : Heap} {k : Nat} {C : Addr} {x qual : Str} {ps N : List Str} {sp sp0 : Sp} {st : Stmt} {dvs : List V}
theorem MAtD.makeX (F : MAtD K C "__init__" qual st dvs) (cf : ClsF K mg x C) (S : FnScope N ps (defScope st)) (hd : dvs ≠ [])
    (hb : ∀ (T : Addr) (kV doc pm : Value) (an : Option Addr) (cdv ct : Value) (us its : List Value), us.length = ps.length → its.length = dvs.length →
      ∃ k, bindArgs (PySem.W.fnOf "__init__" qual (defArgs st) (defBody st) (defScope st) (.ref T) kV doc pm an cdv ct) ⟨us, []⟩ = seqItems? (.ref T) >>= k ∧ k (some its.toArray) = pure (ps.zip (us ++ its.drop dvs.length)))
    (len : ∀ vs H Q E, sp0 vs H Q E → vs.length = ps.length) (cv : Conv C sp0 sp)
    (hbody : ∀ (f : Addr) (cdv : Value) (A : Around) (outer : List Env) (s : Shared) (H : Hp) (vs : List V) (Q : VK) (E : XK), Room k (A.deeper (PyProof.Rows.envOfC qual (defScope st) s.heap.objs.size f cdv)) → sp0 vs H Q E →
      ∃ t, PSs (cxOf (L2.CX P w) P w K mg base N qual (defScope st) f cdv A outer s H E) (defBody st) t ∧ t { nx := fun _ H' => Q .non H', rt := Q } (start N vs) H) : CMk P w K mg base (L2.CX P w) (k + 1) x C sp ps qual st dvs := by
  obtain ⟨f, fd, h1, h2, F⟩ := F.ex
  have B : Binds K fd ps [] := by
    obtain ⟨ds, r, b⟩ := F.binds1 (ps := ps) ps.length dvs.length hd (by omega) fun T kV doc pm an cdv ct us its l1 l2 => hb T kV doc pm an cdv ct us its l1 l2
    rw [List.drop_of_length_le (Nat.le_refl _)] at r
    cases r
    exact b
  exact ⟨f, fd, sp0, cf.at, ⟨cf.mks, h1, h2, cf.kp⟩, B, F.ok S len fun cdv A outer s H vs Q E hr h => hbody f cdv A outer s H vs Q E hr h, cv, F⟩
end
end Cw
set_option Elab.async false
set_option linter.all false
set_option maxRecDepth 100000
set_option maxHeartbeats 4000000
/-! defs that make lambdas: their code objects are named -/
namespace Cw
open PySem PySem.Spec L2
structure FunC (K : PySem.W.Frag) (x qual : Str) (st : Stmt) (f : Addr) (fd : FuncData) (c : Addr) : Prop where
  ex : ∃ oc od kV doc pm an ct osl, fd = PySem.W.fnOf x qual (defArgs st) (defBody st) (defScope st) .none kV doc pm an (.ref c) ct ∧ K.lookup f = some ⟨oc, od, .func fd, osl⟩ ∧ PySem.W.codeIn K (.ref c) qual = true
  kp : PySem.W.keepIn K (.ref f) = true
structure FnAtC (K : PySem.W.Frag) (mg : Str → Option Value) (x : Str) (st : Stmt) (c : Addr) : Prop where
  ex : ∃ f fd, mg x = some (.ref f) ∧ FunC K x x st f fd c
theorem FunC.fn {K : PySem.W.Frag} {x qual : Str} {st : Stmt} {f : Addr} {fd : FuncData} {c : Addr} (F : FunC K x qual st f fd c) : Fun K x qual st f fd := by
  obtain ⟨oc, od, kV, doc, pm, an, ct, osl, e, lk, hcd⟩ := F.ex
  exact ⟨⟨oc, od, kV, doc, pm, an, .ref c, ct, osl, e, lk, hcd⟩, F.kp⟩
theorem FnAtC.fn {K : PySem.W.Frag} {mg : Str → Option Value} {x : Str} {st : Stmt} {c : Addr} (F : FnAtC K mg x st c) : FnAt K mg x st := by
  obtain ⟨f, fd, hm, G⟩ := F.ex
  exact ⟨f, fd, hm, G.fn⟩
section
variable {P : Program} {w : World} {K : PySem.W.Frag} {mg : Str → Option Value} {base : Heap} {k : Nat} {x qual : Str} {ps N : List Str} {sp : Sp} {st : Stmt} {c f : Addr} {fd : FuncData}
theorem FunC.ok (F : FunC K x qual st f fd c) (S : FnScope N ps (defScope st)) (len : ∀ vs H Q E, sp vs H Q E → vs.length = ps.length)
    (hbody : ∀ (A : Around) (outer : List Env) (s : Shared) (H : Hp) (vs : List V) (Q : VK) (E : XK), Room k (A.deeper (PyProof.Rows.envOfC qual (defScope st) s.heap.objs.size f (.ref c))) → sp vs H Q E →
      ∃ t, PSs (cxOf CX0 P w K mg base N qual (defScope st) f (.ref c) A outer s H E).nox (defBody st) t ∧ t { nx := fun _ H' => Q .non H', rt := Q } (start N vs) H) : FnOk P w K mg base CX0 (k + 1) f fd ps sp := by
  obtain ⟨oc, od, kV, doc, pm, an, ct, osl, rfl, lk, hcd⟩ := F.ex
  refine fn_of lk hcd S len fun A outer s H vs Q E hr hsp => ?_
  obtain ⟨t, h, q⟩ := hbody A outer s H vs Q E hr hsp
  exact ⟨t, h.nox, q⟩
theorem FnAtC.ok (F : FnAtC K mg x st c) (S : FnScope N ps (defScope st))
    (hb : ∀ (kV doc pm : Value) (an : Option Addr) (cdv ct : Value) (us : List Value), us.length = ps.length → bindArgs (PySem.W.fnOf x x (defArgs st) (defBody st) (defScope st) .none kV doc pm an cdv ct) ⟨us, []⟩ = pure (ps.zip us))
    (len : ∀ vs H Q E, sp vs H Q E → vs.length = ps.length)
    (hbody : ∀ (f : Addr) (A : Around) (outer : List Env) (s : Shared) (H : Hp) (vs : List V) (Q : VK) (E : XK), Room k (A.deeper (PyProof.Rows.envOfC x (defScope st) s.heap.objs.size f (.ref c))) → sp vs H Q E →
      ∃ t, PSs (cxOf CX0 P w K mg base N x (defScope st) f (.ref c) A outer s H E).nox (defBody st) t ∧ t { nx := fun _ H' => Q .non H', rt := Q } (start N vs) H) : Def P w K mg base CX0 (k + 1) x ps sp := by
  obtain ⟨f, fd, hm, G⟩ := F.ex
  exact ⟨f, fd, hm, G.kp, ⟨G.fn.binds hb, funLk G.fn⟩, G.ok S len fun A outer s H vs Q E hr h => hbody f A outer s H vs Q E hr h⟩
end
/-! ### what stays behind a lambda -/
section
variable {H H' H2 : Hp} {T : List (Addr × Str)}
theorem ext_of (s : Same H H') : LamX.ExtN H H' := LamX.ExtN.of s
theorem tabs_same (t : LamX.Tabs T H) (s : Same H H') : LamX.Tabs T H' := t.ext s
theorem tabs_keep {p : Addr} {o : HO} (t : LamX.Tabs T H) (k : Keep p H H') (hp : H p = some o) (h1 : ∀ ps, o ≠ .tbl ps) (h2 : ∀ c q, o ≠ LamX.CodeO c q) : LamX.Tabs T H' := fun x hx => by
  obtain ⟨ps, e, tr, al⟩ := t x hx
  refine ⟨ps, k _ _ e (fun z => ?_), tr, fun pos cv hc => ?_⟩
  · rw [z, hp] at e
    exact h1 _ (Option.some.inj e)
  · obtain ⟨c, ec, e2⟩ := al pos cv hc
    refine ⟨c, ec, k _ _ e2 fun z => ?_⟩
    rw [z, hp] at e2
    exact h2 _ _ (Option.some.inj e2)
theorem codeO_dK {c : Addr} {q : Str} {kvs : List (Key × V)} : HO.dK kvs ≠ LamX.CodeO c q := fun z => by
  have z' : HO.dK kvs = HO.ext _ := z
  cases z'
end
end Cw
set_option Elab.async false
set_option linter.all false
set_option maxRecDepth 100000
set_option maxHeartbeats 4000000
/-! tuples of the same values, compared -/
namespace Cw
open PySem PySem.Spec PyProof.Rows L2
def Plainly (v : V) : Prop := flatB v = true ∨ ∃ r, v = .ref r
def rNeS : R2 := fun x y H Q => ∃ a b xs, x = .ref a ∧ y = .ref b ∧ H a = some (.tup xs) ∧ H b = some (.tup xs) ∧ (∀ v ∈ xs, Plainly v) ∧ Q (.bl false) H
theorem OpR.or {X : Cx} {op : Value → Value → Sem Value} {r1 r2 : R2} (h1 : OpR X op r1) (h2 : OpR X op r2) : OpR X op (fun x y H Q => r1 x y H Q ∨ r2 x y H Q) := by
  intro pins s σ H x y v u Q I rx ry h
  rcases h with h | h
  · exact h1 pins s σ H x y v u Q I rx ry h
  · exact h2 pins s σ H x y v u Q I rx ry h
theorem items_at {A : Around} {s : Shared} {xs : List V} (hx : ∀ v ∈ xs, Plainly v) : ∀ {us ws : List Value}, Vals xs us → Vals xs ws → ∀ j (h1 : j < us.length) (h2 : j < ws.length), SeqAt.EqAt A s us[j] ws[j] true := by
  induction xs with
  | nil =>
    intro us ws r1 r2 j h1 h2
    cases r1
    exact absurd h1 (Nat.not_lt_zero j)
  | cons v r ih =>
    intro us ws r1 r2 j h1 h2
    cases r1 with
    | cons a1 b1 =>
      cases r2 with
      | cons a2 b2 =>
        cases j with
        | zero =>
          rcases hx v (List.mem_cons_self ..) with f | ⟨q, rfl⟩
          · exact eqAt_same a1 a2 f
          · cases (show _ = Value.ref q from a1)
            cases (show _ = Value.ref q from a2)
            exact SeqAt.EqAt.same _
        | succ j => exact ih (fun z hz => hx z (List.mem_cons_of_mem _ hz)) b1 b2 j (Nat.lt_of_succ_lt_succ h1) (Nat.lt_of_succ_lt_succ h2)
theorem all_true (n : Nat) : ((List.range n).all fun _ => true) = true := List.all_eq_true.mpr fun _ _ => rfl
theorem isTup {h : Heap} {a : Addr} {its : Array Value} (t : IsTup h a its) : h.IsTuple a its := by
  first | exact t | exact t.1 | exact t.isTuple
section
variable {X : Cx} {K : PySem.W.Frag}
theorem op_neS (hu : X.A.units + 1 < cLine) : OpR X (compareOp .NotEq) rNeS := by
  intro pins s σ H x y v u Q I rx ry h
  obtain ⟨a, b, xs, rfl, rfl, ha, hb, hx, q⟩ := h
  cases (show v = Value.ref a from rx)
  cases (show u = Value.ref b from ry)
  obtain ⟨us, r1, p1, _⟩ := I.tuple (SqT.of ha)
  obtain ⟨ws, r2, p2, _⟩ := I.tuple (SqT.of hb)
  have hsz : us.length = ws.length := r1.length.symm.trans r2.length
  refine SeqAt.RcNeAt.tuples (e := fun _ => true) (isTup p1) (isTup p2) (Nat.lt_of_succ_lt hu) (fun j h1 h2 => ?_) X.prog X.w _ _ ?_
  · have k := items_at (A := X.A.in1) (s := s) hx r1 r2 j (by simpa using h1) (by simpa using h2)
    simpa using k
  · rw [all_true, Bool.true_and, show (us.toArray.size == ws.toArray.size) = true by simp [hsz]]
    exact ⟨.bl false, H, I, rfl, q⟩
end
end Cw
set_option Elab.async false
set_option linter.all false
set_option maxRecDepth 100000
set_option maxHeartbeats 4000000
/-! list(text) -/
namespace Cw
open PySem PySem.Spec L2
end Cw
set_option Elab.async false
set_option linter.all false
set_option maxRecDepth 100000
set_option maxHeartbeats 4000000
/-! ascending pairs of kinds -/
namespace Cw
open PySem PySem.Spec L2
def pairLt (p q : List Nat) : Prop := p.getD 0 0 < q.getD 0 0 ∨ (p.getD 0 0 = q.getD 0 0 ∧ p.getD 1 0 < q.getD 1 0)
theorem pairLt_mk {a b c d : Nat} : pairLt [a, b] [c, d] ↔ a < c ∨ (a = c ∧ b < d) := Iff.rfl
theorem LET_asc : LET.Pairwise (· < ·) := by decide +kernel
theorem pairsOf_sorted (f : List (List Nat)) : (pairsOf f).Pairwise pairLt := by
  unfold pairsOf
  have key : ∀ l : List Nat, l.Pairwise (· < ·) → (l.flatMap fun a => (LET.filter fun b => decide ([a, b] ∈ f)).map fun b => [a, b]).Pairwise pairLt := by
    intro l
    induction l with
    | nil => intro _; exact .nil
    | cons a r ih =>
      intro h
      obtain ⟨h1, h2⟩ := List.pairwise_cons.mp h
      rw [List.flatMap_cons]
      refine List.pairwise_append.mpr ⟨?_, ih h2, ?_⟩
      · refine List.pairwise_map.mpr ((List.Pairwise.filter _ LET_asc).imp fun {x y} h => ?_)
        exact .inr ⟨rfl, h⟩
      · intro p hp q hq
        obtain ⟨x, _, rfl⟩ := List.mem_map.mp hp
        obtain ⟨c, hc, hq⟩ := List.mem_flatMap.mp hq
        obtain ⟨y, _, rfl⟩ := List.mem_map.mp hq
        exact .inl (h1 c hc)
  exact key LET LET_asc
theorem pairLt_irr {p q : List Nat} (h : pairLt p q) : p ≠ q := by
  rintro rfl
  unfold pairLt at h
  omega
/-- the pairs of a plan with the kinds ls, ascending -/
structure Prs (ls : List Nat) (ps : List (List Nat)) : Prop where
  srt : ps.Pairwise pairLt
  mem : ∀ p ∈ ps, ∃ a b, p = [a, b] ∧ a < b ∧ a ∈ ls ∧ b ∈ ls
theorem prs_eq {ls : List Nat} {ps f : List (List Nat)} (h : Prs ls ps) (hl : ∀ c ∈ ls, c ∈ LET) (e : ∀ a b, a ∈ LET → b ∈ LET → ([a, b] ∈ f ↔ [a, b] ∈ ps)) : pairsOf f = ps := by
  have nd1 : (pairsOf f).Nodup := pairsOf_nodup f
  have nd2 : ps.Nodup := h.srt.imp fun {a b} z => pairLt_irr z
  have p : (pairsOf f).Perm ps := (List.perm_ext_iff_of_nodup nd1 nd2).mpr fun q => by
    rw [pairsOf_mem]
    constructor
    · rintro ⟨a, b, rfl, ha, hb, hm⟩
      exact (e a b ha hb).mp hm
    · intro hq
      obtain ⟨a, b, rfl, _, ha, hb⟩ := h.mem q hq
      exact ⟨a, b, rfl, hl a ha, hl b hb, (e a b (hl a ha) (hl b hb)).mpr hq⟩
  refine p.eq_of_pairwise (le := pairLt) (fun a b ha hb h1 h2 => ?_) (pairsOf_sorted f) h.srt
  unfold pairLt at h1 h2
  omega
theorem Prs.filter {ls : List Nat} {ps : List (List Nat)} (h : Prs ls ps) (t : List Nat → Bool) : Prs ls (ps.filter t) := ⟨h.srt.sublist List.filter_sublist, fun p hp => h.mem p (List.mem_filter.mp hp).1⟩
theorem crossOf_mem {ls : List Nat} {ps : List (List Nat)} {a b : Nat} : b ∈ crossOf ls ps a ↔ b ∈ ls ∧ ([a, b] ∈ ps ∨ [b, a] ∈ ps) := by
  unfold crossOf
  rw [List.mem_filter, Bool.or_eq_true, decide_eq_true_iff, decide_eq_true_iff]
theorem Prs.in_ls {ls : List Nat} {ps : List (List Nat)} (h : Prs ls ps) {a b : Nat} (m : [a, b] ∈ ps) : a < b ∧ a ∈ ls ∧ b ∈ ls := by
  obtain ⟨x, y, e, l, hx, hy⟩ := h.mem _ m
  injection e with e1 e2
  injection e2 with e2 _
  subst e1
  subst e2
  exact ⟨l, hx, hy⟩
theorem Prs.ok {ls : List Nat} {ps : List (List Nat)} (h : Prs ls ps) : CrOk (crossOf ls ps) where
  sym a b hb := by
    obtain ⟨h1, h2⟩ := crossOf_mem.mp hb
    refine crossOf_mem.mpr ⟨?_, h2.symm⟩
    rcases h2 with z | z
    · exact (h.in_ls z).2.1
    · exact (h.in_ls z).2.2
  irr a ha := by
    obtain ⟨_, h2⟩ := crossOf_mem.mp ha
    rcases h2 with z | z
    · exact Nat.lt_irrefl _ (h.in_ls z).1
    · exact Nat.lt_irrefl _ (h.in_ls z).1
theorem Prs.tab {ls : List Nat} {ps : List (List Nat)} (h : Prs ls ps) (nd : ls.Nodup) (lt : ∀ c ∈ ls, c ∈ LET) (l8 : ls.length ≤ 8) : Tab ls (crossOf ls ps) where
  nd := nd
  lt := lt
  len := l8
  sub a ha b hb := by
    obtain ⟨h1, h2⟩ := crossOf_mem.mp hb
    refine ⟨h1, fun e => ?_, crossOf_mem.mpr ⟨ha, h2.symm⟩⟩
    subst e
    rcases h2 with z | z
    · exact Nat.lt_irrefl _ (h.in_ls z).1
    · exact Nat.lt_irrefl _ (h.in_ls z).1
  gl a ha := Nat.le_trans (List.length_filter_le _ _) l8
theorem asc_two {a b : Nat} (ha : a ∈ LET) (hb : b ∈ LET) (h : a < b) : ascOf [a, b] = [a, b] ∧ ascOf [b, a] = [a, b] := by
  have p : (ascOf [a, b]).Perm [a, b] := by
    refine (List.perm_ext_iff_of_nodup (ascOf_nodup _) (by simp; omega)).mpr fun c => ?_
    rw [ascOf_mem]
    refine ⟨fun z => z.2, fun z => ⟨?_, z⟩⟩
    simp only [List.mem_cons, List.not_mem_nil, or_false] at z
    rcases z with rfl | rfl
    · exact ha
    · exact hb
  have s1 : (ascOf [a, b]).Pairwise (· < ·) := List.Pairwise.filter _ LET_asc
  have e : ascOf [a, b] = [a, b] := p.eq_of_pairwise (fun a b _ _ h1 h2 => by omega) s1 (by simp [h])
  exact ⟨e, by rw [ascOf_congr (b := [a, b]) fun c => by simp [or_comm]]; exact e⟩
/-- pairs told in any way -/
theorem Prs.told {ls : List Nat} {ps q : List (List Nat)} (h : Prs ls ps) (lt : ∀ c ∈ ls, c ∈ LET) (h1 : ∀ p ∈ q, ∃ r ∈ ps, p = r ∨ p = r.reverse) (h2 : ∀ p ∈ ps, p ∈ q ∨ p.reverse ∈ q) : pairsOf (q.map ascOf) = ps := by
  refine prs_eq h lt fun a b ha hb => ?_
  rw [List.mem_map]
  have key : ∀ r ∈ ps, ascOf r = r ∧ ascOf r.reverse = r := fun r hr => by
    obtain ⟨x, y, rfl, l, hx, hy⟩ := h.mem r hr
    exact asc_two (lt x hx) (lt y hy) l
  constructor
  · rintro ⟨p, hp, e⟩
    obtain ⟨r, hr, z⟩ := h1 p hp
    rcases z with z | z
    · rw [z, (key r hr).1] at e
      exact e ▸ hr
    · rw [z, (key r hr).2] at e
      exact e ▸ hr
  · intro m
    rcases h2 _ m with z | z
    · exact ⟨_, z, (key _ m).1⟩
    · exact ⟨_, z, (key _ m).2⟩
end Cw
set_option Elab.async false
set_option linter.all false
set_option maxRecDepth 100000
set_option maxHeartbeats 4000000
/-! text[lo:hi:step] with a step that is drawn -/
namespace Cw
open PySem PySem.Spec L2
def stepS (l : List Nat) (lo hi : Option Int) (n : Int) : List Nat :=
  if (n == 1 && (Builtin.Str.strSliceIndices lo hi n l.length).length == l.length) = true then l else (Builtin.Str.strSliceIndices lo hi n l.length).filterMap (l[·]?)
def tSlSt (te : TE) (tl th ts : TO) : TE := fun σ H Q => te σ H fun x H1 => tl σ H1 fun o1 H2 => th σ H2 fun o2 H3 => ts σ H3 fun o3 H4 =>
  ∃ (l : List Nat) (n : Int), x = .str (tx l) ∧ o3 = some n ∧ n ≠ 0 ∧ (stepS l o1 o2 n).length ≤ 1000000 ∧ Q (.str (tx (stepS l o1 o2 n))) H4
section
variable {X : Cx}
theorem pe_slSt {e st : Expr} {te : TE} {lo hi : Option Expr} {tl th ts : TO} {p3 pos : PySem.Pos} (he : PE X e te) (hl : PO X lo tl) (hu : PO X hi th) (hst : PO X (some st) ts) : PE X (.Subscript e (.Slice lo hi (some st) p3) pos) (tSlSt te tl th ts) := by
  refine ⟨fun pins s σ H Q I h => ?_⟩
  refine PyProof.Rows.Subscript_ (thn (he.run pins s σ H _ I h) fun v s1 ⟨x, H1, I1, r1, q1⟩ => ?_)
  refine wpAny_Slice (thn (hl.run pins s1 σ H1 _ I1 q1) fun vl s2 ⟨o1, H2, I2, w1, q2⟩ => thn (hu.run pins s2 σ H2 _ I2 q2) fun vu s3 ⟨o2, H3, I3, w2, q3⟩ => thn (hst.run pins s3 σ H3 _ I3 q3) fun vs s4 ⟨o3, H4, I4, w3, l, n, ex, eo, n0, hlen, q⟩ => ?_)
  subst ex eo
  obtain ⟨t, rfl⟩ := r1
  obtain ⟨l1, rfl, m1⟩ := IsPart.raw w1
  obtain ⟨l2, rfl, m2⟩ := IsPart.raw w2
  obtain ⟨l3, rfl, m3⟩ := IsPart.raw w3
  have I5 : Inv X pins σ H4 { s4 with heap := s4.heap.push { cls := .type "slice", data := .fields #[partValue l1, partValue l2, partValue l3] } } := I4.kept (t' := s4.toks) fun b ob q => Heap.get?_push_of_some _ q
  show wpAny (model X.prog X.w) X.A (PyProof.Rows.subscriptTail e (.Slice lo hi (some st) p3) (.str (tx l) t) (.ref s4.heap.objs.size)) (EP X pins σ Q) X.xe _
  refine PyProof.Rows.tail_any (ops := [.str (tx l) t, .ref s4.heap.objs.size]) (typeIs_str _ _ _) F.slot_str_getitem.lookup ?_ (by with_unfolding_all rfl)
  refine wpAny_getItem_str_slice (l := l1) (u := l2) (st := l3) ⟨_, Heap.get?_push_size _ rfl, rfl, rfl⟩ (by rw [m3]; simpa using n0) ?_
  unfold sliceMade slicePicked
  rw [m1, m2, m3]
  show Made.post (if (n == 1 && (Builtin.Str.strSliceIndices o1 o2 n (tx l).length).length == (tx l).length) = true then Made.val (.str (tx l) t) else Made.str ⟨((Builtin.Str.strSliceIndices o1 o2 n (tx l).length).filterMap ((tx l).cps[·]?)).toArray⟩) _ _
  rw [tx_len]
  unfold stepS at q hlen
  by_cases c : (n == 1 && (Builtin.Str.strSliceIndices o1 o2 n l.length).length == l.length) = true
  · rw [if_pos c] at q ⊢
    exact ⟨.str (tx l), H4, I5, ⟨t, rfl⟩, q⟩
  · rw [if_neg c] at q hlen ⊢
    have e : (⟨((Builtin.Str.strSliceIndices o1 o2 n l.length).filterMap ((tx l).cps[·]?)).toArray⟩ : Str) = tx ((Builtin.Str.strSliceIndices o1 o2 n l.length).filterMap (l[·]?)) := by
      unfold tx
      simp
    rw [e]
    refine ⟨?_, .str _, H4, I5.tok _, ⟨_, rfl⟩, q⟩
    rw [tx_len]
    exact szl hlen
end
theorem v_slSt {te : TE} {tl th ts : TO} {σ : L2.St} {H : Hp} {Q : VK} (q : te σ H fun x H1 => tl σ H1 fun o1 H2 => th σ H2 fun o2 H3 => ts σ H3 fun o3 H4 =>
  ∃ (l : List Nat) (n : Int), x = .str (tx l) ∧ o3 = some n ∧ n ≠ 0 ∧ (stepS l o1 o2 n).length ≤ 1000000 ∧ Q (.str (tx (stepS l o1 o2 n))) H4) : tSlSt te tl th ts σ H Q := q
/-- the letters from which a plan is told -/
def goodL (l : List Nat) : Bool := decide (8 ≤ l.length) && decide (l.length ≤ 26) && decide ((l.take 8).Pairwise (· < ·)) && (l.take 8).all fun c => decide (c ∈ LET ∧ c ≠ 122)
theorem step_good : ∀ f : Nat, f < 3 → ∀ n : Int, n = 1 ∨ n = 3 → goodL (stepS LET (some (f : Int)) none n) = true := by
  intro f hf n hn
  have hf : f = 0 ∨ f = 1 ∨ f = 2 := by omega
  rcases hf with rfl | rfl | rfl <;> rcases hn with rfl | rfl <;> decide +kernel
end Cw
set_option Elab.async false
set_option linter.all false
set_option maxRecDepth 100000
set_option maxHeartbeats 4000000
/-! sorted of texts, any number of them -/
namespace Cw
open PySem PySem.Spec L2 PyProof.Rows SrtO
/-- the codes of a text -/
def sv : Value → List Nat
  | .str x _ => x.cps.toList
  | _ => []
def ltSv (v u : Value) : Bool := decide (sv v < sv u)
theorem swo_str : Swo ltSv := by
  refine ⟨fun x y h => ?_, fun x y z h1 h2 => ?_⟩
  · have a := of_decide_eq_true (p := sv x < sv y) h
    exact decide_eq_false (p := sv y < sv x) (List.lt_asymm a)
  · have a := of_decide_eq_false (p := sv y < sv x) h1
    have b := of_decide_eq_false (p := sv z < sv y) h2
    exact decide_eq_false (p := sv z < sv x) fun c => by
      by_cases d : sv z < sv y
      · exact b d
      · exact a (List.lt_of_le_of_lt (List.not_lt.mp d) c)
section
variable {prog : Program} {w : World} {A : Around} {s : Shared}
theorem str_sortable {a : Addr} {vs : List Value} {ss : List Str} (hS : StrsAre vs ss) (h2 : 2 ≤ vs.length) : SortableO prog w A s a vs ltSv := by
  intro h' _
  refine ⟨oneType', fun Q E hq => ?_, fun p q hm hm' => ?_⟩
  · match vs, hS, h2 with
    | v1 :: v2 :: rest, hS, _ =>
      rw [keyKind_strs hS]
      exact wpAny_pure hq
    | [], _, h => exact absurd h (by decide)
    | [v], _, h => exact absurd h (by simp)
  · obtain ⟨x, t, e⟩ := hS.all _ hm
    obtain ⟨y, u, e'⟩ := hS.all _ hm'
    show wpAny (model prog w) A (keyLt' oneType' p.1 q.1) (fun r s' => s' = { s with heap := h' } ∧ r = ltSv p.1 q.1) (fun _ _ => False) { s with heap := h' }
    rw [e, e', keyLt'_oneType]
    exact oneLt_str ⟨rfl, rfl⟩
end
theorem str_sv {vs : List Value} (h : ∀ v ∈ vs, ∃ x t, v = Value.str x t) : StrsAre vs ((vs.map sv).map tx) := by
  have e : (vs.map sv).map tx = vs.map strOf := by
    rw [List.map_map]
    refine List.map_congr_left fun v hv => ?_
    obtain ⟨x, t, rfl⟩ := h v hv
    show tx x.cps.toList = x
    exact tx_eq.symm
  rw [e]
  exact strsAre_map vs h
theorem map_tx (ls : List (List Nat)) : (ls.map fun l => V.str (tx l)) = (ls.map tx).map V.str := by rw [List.map_map]; rfl
section
variable {X : Cx}
end
end Cw
set_option Elab.async false
set_option linter.all false
set_option maxRecDepth 100000
set_option maxHeartbeats 4000000
/-! sets of texts that can be walked: set(a list of texts), sorted(set(..)) -/
namespace Cw
open PySem PySem.Spec L2 PyProof.Rows SrtO
def strK (e : Int × Value) : Str := match e.2 with | .str x _ => x | _ => Str.empty
def GoodS (P : Program) (w : World) (e : Int × Value) : Prop := ∃ x t, e.2 = Value.str x t ∧ e.1 = (PySem.strKind P w).hash x
/-- the set at a holds just the texts of l, each once -/
def SetS (P : Program) (w : World) (h : Heap) (a : Addr) (l : List Str) : Prop :=
  ∃ o es ep t, h.get? a = some o ∧ o.ExactSet ∧ o.data = .set es ep t ∧ (∀ e ∈ es.toList, GoodS P w e) ∧ (es.toList.map strK).Perm l ∧ l.Nodup ∧
    es.size < scanBound ∧ t.fits es.size = true ∧ Ris t.place.toList ∧ (w.params.followText "set-order" = true ∨ t.led = true)
section
variable {P : Program} {w : World} {h h' : Heap} {a : Addr} {l : List Str}
theorem SetS.at (R : SetS P w h a l) (k : ∀ o, h.get? a = some o → h'.get? a = some o) : SetS P w h' a l := by
  obtain ⟨o, es, ep, t, ho, r⟩ := R
  exact ⟨o, es, ep, t, k o ho, r⟩
theorem goodS_elems {es : List (Int × Value)} (g : ∀ e ∈ es, GoodS P w e) : ElemsOf (PySem.strKind P w) es := fun e he => by
  obtain ⟨k, tk, h1, h2⟩ := g e he
  exact ⟨⟨k, by rw [h1]; exact strKind_is P w k tk, h2⟩, by rw [h1] <;> rfl⟩
theorem goodS_is {e : Int × Value} (g : GoodS P w e) (k : Str) : (PySem.strKind P w).is k e.2 = true ↔ strK e = k := by
  obtain ⟨k0, tk, h1, _⟩ := g
  unfold strK
  rw [h1]
  show ((k0 == k) = true) ↔ k0 = k
  exact beq_iff_eq
theorem goodS_mem {es : List (Int × Value)} (g : ∀ e ∈ es, GoodS P w e) (k : Str) : k ∈ es.map strK ↔ ∃ e ∈ es, (PySem.strKind P w).is k e.2 = true := by
  rw [List.mem_map]
  constructor
  · rintro ⟨e, he, q⟩
    exact ⟨e, he, (goodS_is (g e he) k).2 q⟩
  · rintro ⟨e, he, q⟩
    exact ⟨e, he, (goodS_is (g e he) k).1 q⟩
end
section
variable {P : Program} {w : World} {A : Around} {E : Value → Shared → Prop} {s : Shared} {a : Addr} {l : List Str}
theorem setS_add_tail {g : Bool → Sem Unit} (hg : ∀ (b : Bool) (s₁ : Shared) (Q' : Unit → Shared → Prop), Q' () s₁ → wpAny (model P w) A (g b) Q' E s₁)
    {o : Obj} {es : Array (Int × Value)} {ep : Nat} {t : SetTable} (ho : s.heap.get? a = some o) (hex : o.ExactSet) (hd : o.data = .set es ep t)
    {es1 : Array (Int × Value)} {t2 : SetTable} {l' : List Str} (g1 : ∀ e ∈ es1.toList, GoodS P w e) (pl : (es1.toList.map strK).Perm l') (nd1 : l'.Nodup)
    (hb1 : es1.size < scanBound) (hf2 : t2.fits es1.size = true) (hr : Ris t2.place.toList) (hl : w.params.followText "set-order" = true ∨ t2.led = true) {wasDummy : Bool} {R : Option Bool → Shared → Prop}
    (hR : ∀ h', Heap.SameBut a s.heap h' → SetS P w h' a l' → R (some true) { s with heap := h' }) :
    wpAny (model P w) A (do
        storeSet a es1 t2
        if (!wasDummy && t2.tooFull) = true then do
            g (relayAll t2 es1 (SetTable.grown es1.size)).2.2
            storeSet a (relayAll t2 es1 (SetTable.grown es1.size)).1 (relayAll t2 es1 (SetTable.grown es1.size)).2.1
            pure (some true)
          else pure (some true)) R E s := by
  refine wpAny_bind (wpAny_storeSet_of ho hd ?_ (fits_of_scanBound hb1))
  have ho1 := store_at (es' := es1) (t' := t2) ho hd
  have sb1 := Heap.SameBut.update s.heap a (Obj.putSet es1 t2)
  split
  · have pm := relayAll_perm t2 es1 (SetTable.grown es1.size)
    have hf3 := relayAll_fits t2 es1 (SetTable.grown es1.size)
    have hr3 := relayAll_ris t2 es1 (SetTable.grown es1.size)
    have hl3 := relayAll_led t2 es1 (SetTable.grown es1.size)
    generalize relayAll t2 es1 (SetTable.grown es1.size) = Z at pm hf3 hr3 hl3 ⊢
    obtain ⟨es2, t3, gave⟩ := Z
    dsimp only at pm hf3 hr3 hl3 ⊢
    have hsz : es2.size = es1.size := by rw [← Array.length_toList, pm.length_eq, Array.length_toList]
    have hb2 : es2.size < scanBound := by rw [hsz]; exact hb1
    refine wpAny_bind (hg _ _ _ ?_)
    refine wpAny_bind (wpAny_storeSet_of ho1 rfl ?_ (fits_of_scanBound hb2))
    have ho2 := store_at (es' := es2) (t' := t3) ho1 rfl
    refine wpAny_pure (hR _ (sb1.trans (Heap.SameBut.update _ a _)) ?_)
    exact ⟨_, es2, _, t3, ho2, hex, rfl, fun e he => g1 e (pm.mem_iff.mp he), (pm.map strK).trans pl, nd1, hb2, hf3, hr3, hl.imp id fun z => by rw [hl3]; exact z⟩
  · exact wpAny_pure (hR _ sb1 ⟨_, es1, _, t2, ho1, hex, rfl, g1, pl, nd1, hb1, hf2, hr, hl⟩)
theorem setS_add_hashed {k : Str} {tk : Tok} {Q : Bool → Shared → Prop} (R : SetS P w s.heap a l) (room : l.length + 1 < scanBound)
    (hQ : ∀ h' b, Heap.SameBut a s.heap h' → SetS P w h' a (metAdd l k) → Q b { s with heap := h' }) :
    wpAny (model P w) A (setAddHashed a (.str k tk) ((PySem.strKind P w).hash k)) Q E s := by
  obtain ⟨o, es, ep, t, ho, hex, hd, g, pl, nd, hb, hf, hr, hl⟩ := R
  have hkey : (PySem.strKind P w).is k (.str k tk) = true := strKind_is P w k tk
  have hsc : (Value.str k tk).scannable = true := rfl
  have hel : ElemsOf (PySem.strKind P w) es.toList := goodS_elems g
  unfold setAddHashed setAddHashedIn
  refine wpAny_holding (wpAny_bind (wpAny_setState_of ho hd hf ?_))
  dsimp only
  rw [byScan_of hsc hb hel]
  simp only [↓reduceIte]
  unfold setAddByScan
  refine wpAny_bind ?_
  refine wpAny_bind (wpAny_rule ?_)
  refine wpAny_bind (wpAny_setScan_of hkey ho hd hf hel ?_)
  cases hfi : List.findIdx? (fun e => (PySem.strKind P w).is k e.2) es.toList with
  | some j =>
    dsimp only
    obtain ⟨hj, pj, _⟩ := List.findIdx?_eq_some_iff_getElem.mp hfi
    have hk : k ∈ l := pl.mem_iff.mp ((goodS_mem (P := P) (w := w) g k).2 ⟨es.toList[j], List.getElem_mem hj, pj⟩)
    refine wpAny_pure (wpAny_pure ?_)
    refine hQ s.heap _ (Heap.SameBut.refl a s.heap) ⟨o, es, ep, t, ho, hex, hd, g, ?_, ?_, hb, hf, hr, hl⟩
    · unfold metAdd
      rw [if_pos hk]
      exact pl
    · unfold metAdd
      rw [if_pos hk]
      exact nd
  | none =>
    dsimp only
    have hnk : k ∉ es.toList.map strK := fun z => by
      obtain ⟨e, he, q⟩ := (goodS_mem (P := P) (w := w) g k).1 z
      have c := List.findIdx?_eq_none_iff.mp hfi e he
      rw [q] at c
      cases c
    have hkl : k ∉ l := fun z => hnk (pl.mem_iff.mpr z)
    have hgw : ∀ (b : Bool) {s₁ : Shared} {Q' : Unit → Shared → Prop}, Q' () s₁ → wpAny (model P w) A (match b with | true => rule "set.scan.the-table-gave-way" | false => pure ()) Q' E s₁ :=
      fun b s₁ Q' q => by cases b <;> first | exact wpAny_pure q | exact wpAny_rule q
    have pm := layNew_perm t es ((PySem.strKind P w).hash k) (.str k tk)
    have hf1 := layNew_fits t es ((PySem.strKind P w).hash k) (.str k tk)
    have hr1 := layNew_ris t es ((PySem.strKind P w).hash k) (.str k tk) hr
    have hl1 := layNew_led t es ((PySem.strKind P w).hash k) (.str k tk)
    generalize layNew t es ((PySem.strKind P w).hash k) (.str k tk) = Z at pm hf1 hr1 hl1 ⊢
    obtain ⟨es1, t1, wasDummy, gave⟩ := Z
    dsimp only at pm hf1 hr1 hl1 ⊢
    rw [Array.toList_push] at pm
    have pc : es1.toList.Perm (((PySem.strKind P w).hash k, Value.str k tk) :: es.toList) := pm.trans (List.perm_append_singleton _ _)
    have pk : (es1.toList.map strK).Perm (k :: es.toList.map strK) := pc.map strK
    have g1 : ∀ e ∈ es1.toList, GoodS P w e := fun e he => by
      rcases List.mem_cons.mp (pc.mem_iff.mp he) with z | z
      · rw [z]; exact ⟨k, tk, rfl, rfl⟩
      · exact g e z
    have eA : metAdd l k = l ++ [k] := if_neg hkl
    have pl1 : (es1.toList.map strK).Perm (metAdd l k) := by
      rw [eA]
      exact (pk.trans (pl.cons k)).trans (List.perm_append_singleton k l).symm
    have nd1 : (metAdd l k).Nodup := by
      rw [eA]
      exact (List.perm_append_singleton k l).nodup_iff.mpr (List.nodup_cons.mpr ⟨hkl, nd⟩)
    have hsz : es1.size = l.length + 1 := by
      have := pl1.length_eq
      rw [List.length_map, Array.length_toList, eA, List.length_append, List.length_singleton] at this
      exact this
    have hb1 : es1.size < scanBound := by rw [hsz]; exact room
    have hled : w.params.followText "set-order" = true ∨ t1.led = true := hl.imp id fun z => by rw [hl1]; exact z
    refine wpAny_bind (hgw _ ?_)
    split
    · refine wpAny_bind ?_
      rw [hashByValue_scannable 8 hsc]
      refine wpAny_pure ?_
      refine setS_add_tail ?_ ho hex hd g1 pl1 nd1 hb1 ?_ ?_ ?_ ?_
      · intro b s₁ Q' q; cases b <;> first | exact wpAny_pure q | exact wpAny_rule q
      · first | (split <;> first | exact hf1 | exact SetTable.fits_plain_off hf1) | exact hf1
      · first | (split <;> exact hr1) | exact hr1
      · first | (split <;> exact hled) | exact hled
      · intro h' sb r; dsimp only; exact wpAny_pure (hQ h' _ sb r)
    · refine wpAny_bind (wpAny_pure ?_)
      simp only [↓reduceIte]
      refine setS_add_tail ?_ ho hex hd g1 pl1 nd1 hb1 hf1 hr1 hled ?_
      · intro b s₁ Q' q; cases b <;> first | exact wpAny_pure q | exact wpAny_rule q
      · intro h' sb r; dsimp only; exact wpAny_pure (hQ h' _ sb r)
theorem setS_fresh {h : Heap} : SetS P w (h.push { cls := .type "set", dict := none, data := .set #[] 0 (.fresh 0 0 (!w.params.followText "set-order")) }) h.objs.size [] :=
  ⟨_, #[], 0, _, Heap.get?_push_size _ rfl, ⟨rfl, rfl, rfl⟩, rfl, (fun e he => by simp at he), .refl _, .nil, (by decide), (by rfl), List.Pairwise.nil, by
    show _ ∨ (!w.params.followText "set-order") = true
    cases w.params.followText "set-order"
    · exact .inr rfl
    · exact .inl rfl⟩
end
theorem metFold_ge : ∀ (l acc : List Str), acc.length ≤ (l.foldl metAdd acc).length
  | [], _ => Nat.le_refl _
  | z :: l, acc => by
    have h := metFold_ge l (metAdd acc z)
    have h2 := metAdd_len acc z
    rw [List.foldl_cons]
    split at h2 <;> omega
theorem metOf_take (xs : List Str) (i : Nat) : (metOf (xs.take i)).length ≤ (metOf xs).length := by
  have e : metOf xs = (xs.drop i).foldl metAdd (metOf (xs.take i)) := by
    unfold metOf
    rw [← List.foldl_append, List.take_append_drop]
  rw [e]
  exact metFold_ge _ _
theorem metFold_nd : ∀ (l acc : List Str), acc.Nodup → (l.foldl metAdd acc).Nodup
  | [], _, h => h
  | z :: l, acc, h => by
    rw [List.foldl_cons]
    refine metFold_nd l _ ?_
    unfold metAdd
    split
    · exact h
    · rename_i c
      exact (List.perm_append_singleton z acc).nodup_iff.mpr (List.nodup_cons.mpr ⟨c, h⟩)
section
variable {P : Program} {w : World} {A : Around} {R : Result → Shared → Prop} {J : Addr} {fp wr : List Addr} {n : Nat} {Y : Nat → Value → Prop} {St : Nat → Heap → Prop}
theorem setS_loop (W : Walks P w A.in1 J fp wr n Y St) (S : Addr) (hS : S ∉ fp) (xs : List Str) (hn : xs.length = n) (hy : ∀ i v, Y i v → ∃ x t, xs[i]? = some x ∧ v = .str x t) (hb : (metOf xs).length + 1 < scanBound) :
    ∀ (k i : Nat) (s : Shared), n - i = k → i ≤ n → St i s.heap → SetS P w s.heap S (metOf (xs.take i)) →
      (∀ h' tk, (∀ b o, b ∉ S :: wr → s.heap.get? b = some o → h'.get? b = some o) → SetS P w h' S (metOf xs) → R (.ok (.ret .none)) { s with heap := h', toks := tk }) →
      codeAny (model P w) A (.builtin "set.update.loop" ⟨[.ref S, .ref J], []⟩) R s := by
  have hw : S ∉ wr := fun h => hS (W.sub _ h)
  intro k
  induction k with
  | zero =>
    intro i s hk hi st hset q
    have e : i = n := by omega
    subst e
    refine codeAny_builtin PyProof.Rows.F.entry_set_update_loop ?_
    rw [Around.under_plainId PyProof.Rows.F.plain_set_update_loop _]
    show wpAny _ A.in1 (pyNext (.ref J) >>= _) _ _ s
    refine wpAny_bind (W.done s _ _ st fun h' tk kp => ?_)
    show wpAny _ A.in1 (ret Value.none) _ _ _
    refine wpAny_pure (q h' tk (fun b o nb eb => kp b o (fun z => nb (List.mem_cons_of_mem _ z)) eb) ?_)
    rw [List.take_of_length_le (by omega)] at hset
    exact hset.at fun o eo => kp S o hw eo
  | succ k ih =>
    intro i s hk hi st hset q
    have hlt : i < n := by omega
    refine codeAny_builtin PyProof.Rows.F.entry_set_update_loop ?_
    rw [Around.under_plainId PyProof.Rows.F.plain_set_update_loop _]
    show wpAny _ A.in1 (pyNext (.ref J) >>= _) _ _ s
    refine wpAny_bind (W.item i s _ _ hlt st fun v h1 tk hv st1 kp => ?_)
    obtain ⟨x, t, hx, rfl⟩ := hy i v hv
    have hset1 := hset.at (h' := h1) fun o eo => kp S o hw eo
    show wpAny _ A.in1 (holding [Value.str x t] (setAdd S (.str x t)) >>= _) _ _ _
    refine wpAny_bind (wpAny_holding ?_)
    unfold setAdd
    refine wpAny_holding (wpAny_bind ((PySem.strKind P w).pyHash (k := x) (strKind_is _ _ _ _) ?_))
    have hroom : (metOf (xs.take i)).length + 1 < scanBound := by
      have h2 := metOf_take xs i
      omega
    refine setS_add_hashed (s := { heap := h1, gens := s.gens, drawn := s.drawn, toks := tk + 1, os := s.os }) hset1 hroom fun h2 b2 sb hset2 => ?_
    have e1 : xs.take (i + 1) = xs.take i ++ [x] := by
      rw [List.take_add_one, hx]
      rfl
    have hset3 : SetS P w h2 S (metOf (xs.take (i + 1))) := by
      rw [e1, metOf_snoc]
      exact hset2
    refine wpAny_pure ⟨plainId_quiet PyProof.Rows.F.plain_set_update_loop _, ih (i + 1) _ (by omega) hlt (W.frame _ _ _ st1 fun b hb o eo => ?_) hset3 fun h3 tk3 kp3 hs3 => ?_⟩
    · rw [sb.2 b fun z => hS (z ▸ hb)]
      exact eo
    · refine q h3 tk3 (fun b o nb eb => kp3 b o nb ?_) hs3
      show h2.get? b = some o
      rw [sb.2 b fun z => nb (z ▸ List.mem_cons_self ..)]
      exact kp b o (fun z => nb (List.mem_cons_of_mem _ z)) eb
end
theorem strs_idx {us : List Value} {xs : List Str} (h : StrsAre us xs) : ∀ (i : Nat) (v : Value), us[i]? = some v → ∃ x t, xs[i]? = some x ∧ v = .str x t := by
  induction h with
  | nil =>
    intro i v e
    simp at e
  | cons x t r ih =>
    intro i v e
    cases i with
    | zero =>
      simp at e
      exact ⟨x, t, rfl, e.symm⟩
    | succ i => exact ih i v (by simpa using e)
abbrev ledSet (w : World) : Obj := { cls := .type "set", dict := none, data := .set #[] 0 (.fresh 0 0 (!w.params.followText "set-order")) }
section
variable {P : Program} {w : World} {A : Around} {E : Value → Shared → Prop} {s : Shared}
theorem setS_of_list {l : Addr} {items : Array Value} {xs : List Str} {Q : Value → Shared → Prop} (hh : A.handled = none) (hl : s.heap.IsList l items) (hi : StrsAre items.toList xs) (hb : (metOf xs).length + 1 < scanBound)
    (h : ∀ (h' : Heap) (tk : Nat), SetS P w h' s.heap.objs.size (metOf xs) → (∀ b o, b < s.heap.objs.size → s.heap.get? b = some o → h'.get? b = some o) → Q (.ref s.heap.objs.size) { s with heap := h', toks := tk }) :
    wpAny (model P w) A (call (.type "set") [.ref l]) Q E s := by
  obtain ⟨c, tl, hmro⟩ := PySem.F.called_set.mro
  have hmade := PySem.F.called_set.made
  have hsub := PySem.F.called_set.sub
  refine wpAny_call (codeAny_of_tree ?_)
  show wpAny _ _ (callAny (.type "set") _) _ _ _
  refine wpAny_pure ⟨Code.quiet_builtin _ (by decide +kernel), codeAny_builtin PySem.F.entry_type_call ?_⟩
  rw [Around.under_plain (weight_type_call_type "set" [.ref l] []) rfl]
  have h1 := PySem.F.called_set.notType
  have h2 := PySem.F.called_set.canCreate
  have hct := PySem.F.typeCall_set_1 (.ref l)
  repeat (any_goals (first | assumption | wp_step))
  refine codeAny_mono (code_set_led1 (.ref l) (E := E) (Q₁ := fun obj s1 => obj = .ref s.heap.objs.size ∧ s1 = { s with heap := s.heap.push (ledSet w) }) ⟨rfl, rfl⟩) fun r s1 hr => ?_
  cases r with
  | error e => exact hr
  | ok fl =>
    cases fl with
    | ret obj =>
      obtain ⟨rfl, rfl⟩ := hr
      have hS : (s.heap.push (ledSet w)).get? s.heap.objs.size = some (ledSet w) := Heap.get?_push_size _ rfl
      have hT : Shared.TypeIs { s with heap := s.heap.push (ledSet w) } (.ref s.heap.objs.size) "set" := ⟨_, hS, rfl⟩
      have hli := PySem.F.called_set.init.lookup
      have hbi := PySem.F.called_set.init.bind (.ref s.heap.objs.size)
      repeat (any_goals (first | assumption | wp_step))
      refine codeAny_mono (codeAny_call_builtin (R := wants (fun r s2 => r = .none ∧ ∃ h' tk, s2 = { s with heap := h', toks := tk } ∧ SetS P w h' s.heap.objs.size (metOf xs) ∧
          (∀ b o, b < s.heap.objs.size → s.heap.get? b = some o → h'.get? b = some o)) E) PySem.F.called_set.init.plain PySem.F.entry_set_init (check_set_init_1 hT ?_)) fun r2 s2 hr2 => ?_
      · obtain ⟨ol, hol, hcl, nl, hdl⟩ := hl
        obtain ⟨ocls, odict, odata, oslots⟩ := ol
        simp only at hcl hdl
        subst hcl; subst hdl
        have hol' : (s.heap.push (ledSet w)).get? l = some { cls := .type "list", dict := odict, data := .seq items nl, slots := oslots } := Heap.get?_push_of_some _ hol
        have hsls := PySem.F.sub_list_set
        have hslf := PySem.F.sub_list_frozenset
        have hne : (Value.type "list" == Value.type "dict") = false := by decide
        have hl1 : (s.heap.push (ledSet w)).IsList l items := ⟨_, hol', rfl, nl, rfl⟩
        unfold Builtin.«set.__init__» noKeywords Builtin.Frozenset.updateFrom
        generalize hPI : pyIter = PI
        wp_walk
        subst hPI
        refine wpAny_pyIter_list hl1 ?_
        refine wpAny_bind (wpAny_runValue ?_)
        have hlS : l < s.heap.objs.size := Heap.lt_size hol
        have hh3 : A.in1.in1.in1.handled = none := by simp [hh]
        have hneI : l ≠ (s.heap.push (ledSet w)).objs.size := by
          rw [Heap.size_push]; exact Nat.ne_of_lt (Nat.lt_succ_of_lt hlS)
        have hSf : s.heap.objs.size ∉ [(s.heap.push (ledSet w)).objs.size, l] := by
          rw [Heap.size_push]; simp only [List.mem_cons, List.mem_singleton, List.not_mem_nil, or_false, not_or]
          exact ⟨Nat.ne_of_lt (Nat.lt_succ_self _), Nat.ne_of_gt hlS⟩
        have hsz : xs.length = items.size := by rw [← StrsAre.len_eq hi, Array.length_toList]
        refine setS_loop (Walks.list hh3 _ l hneI items) s.heap.objs.size hSf xs hsz (fun i v hv => ?_) hb _ 0 _ rfl (Nat.zero_le _) ⟨⟨_, Heap.get?_push_size _ rfl, rfl, rfl⟩, (hl1.push _)⟩ ?_ fun h' tk kp hs => ?_
        · have hv : items[i]? = some v := hv
          exact strs_idx hi i v (by rw [Array.getElem?_toList]; exact hv)
        · exact (setS_fresh (P := P) (w := w) (h := s.heap)).at fun o eo => Heap.get?_push_of_some _ eo
        · refine wpAny_pure ?_
          show wpAny _ _ (ret Value.none) _ _ _
          refine wpAny_pure ⟨rfl, h', tk, rfl, hs, fun a o ha eo => kp a o ?_ (Heap.get?_push_of_some _ (Heap.get?_push_of_some _ eo))⟩
          have : a ≠ s.heap.objs.size ∧ a ≠ (s.heap.push (ledSet w)).objs.size := ⟨Nat.ne_of_lt ha, by
            rw [Heap.size_push]
            exact Nat.ne_of_lt (Nat.lt_succ_of_lt ha)⟩
          simp only [List.mem_cons, List.not_mem_nil, or_false, not_or]
          exact this
      · cases r2 with
        | error e => exact hr2
        | ok fl2 =>
          cases fl2 with
          | ret r =>
            obtain ⟨rfl, h', tk, rfl, hs', hk'⟩ := hr2
            repeat (any_goals (first | assumption | wp_step))
            exact h _ _ hs' hk'
          | _ => exact hr2.elim
    | _ => exact hr.elim
end
/-! ### sorted(set), and the layer -/
theorem sorted_setS {P : Program} {w : World} {A : Around} {E : Value → Shared → Prop} {s : Shared} {a : Addr} {l : List (List Nat)} {Q : Value → Shared → Prop} (R : SetS P w s.heap a (l.map tx)) (hh : A.handled = none)
    (hQ : ∀ s' p (out : Array Value) (c : Nat) (ls : List (List Nat)), (∀ b o, s.heap.get? b = some o → s'.heap.get? b = some o) → s'.gens = s.gens → s'.os = s.os → s.heap.objs.size ≤ p →
      s'.heap.get? p = some (seqObj "list" out c) → StrsAre out.toList (ls.map tx) → ls.Perm l → ls.Pairwise (fun a b => ¬ b < a) → Q (.ref p) s') :
    wpAny (model P w) A (call (.builtin "sorted") [.ref a]) Q E s := by
  obtain ⟨o, es, ep, t, ho, hex, hd, g, pl, nd, hb, hf, hr, hl⟩ := R
  refine Calls.call_function_entry kind_sorted plain_sorted entry_sorted (args_sorted1 _) ?_
  unfold Builtin.«sorted»
  refine wpAny_bind (m := checkCount "sorted" 1 1 _) (wpAny_pure ?_)
  refine wpAny_bind (collect_set (A := A.in1) hh ⟨o, ho, hex.1, hd⟩ hf hb hr hl fun s1 vs k1 hz g1 o1 pm => ?_)
  have hvl : vs.length = l.length := by
    have := pl.length_eq
    rw [List.length_map, List.length_map] at this
    rw [pm.length_eq, List.length_map]
    exact this
  have hlb : l.length < scanBound := by
    have := pl.length_eq
    rw [List.length_map, List.length_map, Array.length_toList] at this
    omega
  have hvz : vs.length ≤ sizeLine := by
    rw [hvl, sizeLine_eq]
    unfold scanBound at hlb
    omega
  have all : ∀ v ∈ vs, ∃ x t, v = Value.str x t := fun v hv => by
    obtain ⟨e, he, q⟩ := List.mem_map.mp (pm.mem_iff.mp hv)
    obtain ⟨k, tk, h1, _⟩ := g e he
    exact ⟨k, tk, by rw [← q]; exact h1⟩
  have hI : StrsAre vs ((vs.map sv).map tx) := str_sv all
  have pk : (vs.map sv).Perm l := by
    have q := pm.map sv
    rw [List.map_map] at q
    have e1 : es.toList.map (sv ∘ fun x => x.2) = (es.toList.map strK).map fun x => x.cps.toList := by
      rw [List.map_map]
      refine List.map_congr_left fun e he => ?_
      obtain ⟨k, tk, h1, _⟩ := g e he
      show sv e.2 = (strK e).cps.toList
      unfold strK
      rw [h1]
      rfl
    have q2 := pl.map fun x : Str => x.cps.toList
    have e2 : (l.map tx).map (fun x : Str => x.cps.toList) = l := by
      rw [List.map_map]
      have : ((fun x : Str => x.cps.toList) ∘ tx) = id := funext fun l => rfl
      rw [this, List.map_id]
    rw [e2] at q2
    exact (q.trans (by rw [e1])).trans q2
  refine wpAny_bind (wpAny_newList ?_ hvz)
  have hoL : (s1.heap.push (seqObj "list" vs.toArray 0)).get? s1.heap.objs.size = some (seqObj "list" vs.toArray 0) := Heap.get?_push_size _ rfl
  refine wpAny_bind (wpAny_holding (wpAny_call_entry slot_list_sort ⟨_, hoL, rfl⟩ entry_list_sort (list_sort_ord swo_str hoL hvz (fun h2 => str_sortable hI h2) fun out h1 h2 => ⟨_, rfl, ?_⟩) (args_list_sort _)))
  obtain ⟨c, hc⟩ := sortedHeap_at (vs := vs) (out := out.toArray) hoL
  have all2 : ∀ v ∈ out, ∃ x t, v = Value.str x t := fun v hv => all v (h2.perm.mem_iff.mp hv)
  have k2 : (out.map sv).Perm l := (h2.perm.map sv).trans pk
  have k3 : (out.map sv).Pairwise (fun a b => ¬ b < a) := List.pairwise_map.mpr (h1.imp fun {x y} h => of_decide_eq_false (p := sv y < sv x) h)
  refine wpAny_pure ⟨_, rfl, hQ _ s1.heap.objs.size out.toArray c (out.map sv) (fun b u e => ?_) g1 o1 hz hc (str_sv all2) k2 k3⟩
  have q := k1 b u e
  have hlt := Heap.lt_size q
  show (sortedHeap (s1.heap.push (seqObj "list" vs.toArray 0)) s1.heap.objs.size vs out.toArray).get? b = some u
  rw [sortedHeap_old (Nat.ne_of_lt hlt) (by rw [size_push']; exact Nat.lt_succ_of_lt hlt)]
  exact Heap.get?_push_of_some _ q
theorem nodup_le {α : Type} [DecidableEq α] : ∀ {a b : List α}, a.Nodup → (∀ x ∈ a, x ∈ b) → a.length ≤ b.length
  | [], _, _, _ => Nat.zero_le _
  | x :: a, b, nd, h => by
    obtain ⟨n1, n2⟩ := List.nodup_cons.mp nd
    have hx := h x (List.mem_cons_self ..)
    have := nodup_le (b := b.erase x) n2 fun y hy => (List.mem_erase_of_ne fun e : y = x => n1 (e ▸ hy)).mpr (h y (List.mem_cons_of_mem _ hy))
    rw [List.length_erase_of_mem hx] at this
    have := List.length_pos_of_mem hx
    rw [List.length_cons]
    omega
theorem nodup_of_map {α β : Type} {f : α → β} {l : List α} (h : (l.map f).Nodup) : l.Nodup := List.Pairwise.of_map f (fun _ _ hne e => hne (congrArg f e)) h
/-- the set of texts at a, that can be walked -/
def SetW (P : Program) (w : World) (a : Addr) (l : List Str) : HO := .ext fun h => SetS P w h a l
theorem setW_new {P : Program} {w : World} {H : Hp} {h : Heap} {a : Addr} {l : List Str} (R : SetS P w h a l) : ObjOk P w H h a (SetW P w a l) := by
  have ⟨o, _, _, _, ho, _⟩ := R
  exact ⟨R, ⟨o, ho⟩, fun h1 h2 q k => SetS.at q k⟩
def rSetOfS (K : PySem.W.Frag) (P : Program) (w : World) : List V → Hp → VK → Prop := fun xs H Q => ∃ (a : Addr) (ls D : List (List Nat)), xs = [.ref a] ∧ SqL K H a (ls.map fun l => V.str (tx l)) ∧ (∀ l ∈ ls, l ∈ D) ∧ D.length ≤ 1000 ∧ ∀ (p : Addr) (ms : List (List Nat)), H p = none → ms.Nodup → (∀ m, m ∈ ms ↔ m ∈ ls) → Q (.ref p) (upd H p (SetW P w p (ms.map tx)))
def rSortedW (P : Program) (w : World) : List V → Hp → VK → Prop := fun xs H Q => ∃ (a : Addr) (l : List (List Nat)), xs = [.ref a] ∧ H a = some (SetW P w a (l.map tx)) ∧ ∀ (p : Addr) (ls : List (List Nat)), ls.Perm l → ls.Pairwise (fun a b => ¬ b < a) → H p = none → Q (.ref p) (upd H p (.lst (ls.map fun l => V.str (tx l))))
section
variable {X : Cx}
theorem c_setOfS {K : PySem.W.Frag} (hK : X.K = K) (hc : X.calm = true) : CallR X (.type "set") (rSetOfS K X.prog X.w) := by
  subst hK
  intro pins s σ H xs us Q I r h
  obtain ⟨a, ls, D, rfl, hs, hD, hl, q⟩ := h
  rw [map_tx] at hs
  obtain ⟨its, rv, hla, hz⟩ := I.list hs
  rw [Vals.ref1 r]
  have hi := rv.strs
  have nd1 : (metOf (ls.map tx)).Nodup := metFold_nd _ _ .nil
  have back : ∀ x : Str, tx x.cps.toList = x := fun x => tx_eq.symm
  obtain ⟨ms, e1, e2, e3⟩ : ∃ ms : List (List Nat), metOf (ls.map tx) = ms.map tx ∧ ms.Nodup ∧ ∀ m, m ∈ ms ↔ m ∈ ls := by
    have e : ((metOf (ls.map tx)).map fun x => x.cps.toList).map tx = metOf (ls.map tx) := by
      rw [List.map_map]
      have : (tx ∘ fun x : Str => x.cps.toList) = id := funext back
      rw [this, List.map_id]
    refine ⟨(metOf (ls.map tx)).map fun x => x.cps.toList, e.symm, ?_, fun m => ?_⟩
    · rw [← e] at nd1
      exact nodup_of_map nd1
    · rw [List.mem_map]
      constructor
      · rintro ⟨x, hx, rfl⟩
        obtain ⟨y, hy, e⟩ := List.mem_map.mp (metOf_mem.mp hx)
        rw [← e]
        exact hy
      · intro hm
        exact ⟨tx m, metOf_mem.mpr (List.mem_map.mpr ⟨m, hm, rfl⟩), rfl⟩
  have lm : ms.length ≤ D.length := nodup_le e2 fun m hm => hD m ((e3 m).mp hm)
  refine setS_of_list (I.ok.hd hc) hla.isList hi (by rw [e1, List.length_map]; unfold scanBound; omega) fun h' tk hS hk => ?_
  have hp : H s.heap.objs.size = none := I.hok.fresh (Nat.le_refl _)
  rw [e1] at hS
  exact ⟨.ref s.heap.objs.size, upd H s.heap.objs.size (SetW X.prog X.w s.heap.objs.size (ms.map tx)), I.laid (h' := h') (t' := tk) (fun b o e => hk b o (Heap.lt_size e) e) (Nat.le_refl _) (setW_new hS), rfl, q _ ms hp e2 e3⟩
theorem c_sortedW (hc : X.calm = true) : CallR X (.builtin "sorted") (rSortedW X.prog X.w) := by
  intro pins s σ H vs us Q I r h
  obtain ⟨a, l, rfl, ha, q⟩ := h
  have R : SetS X.prog X.w s.heap a (l.map tx) := (I.hok a _ ha).1
  have lsz : l.length < scanBound := by
    obtain ⟨o, es, ep, t, _, _, _, _, pl, _, hb, _⟩ := R
    have := pl.length_eq
    rw [List.length_map, List.length_map, Array.length_toList] at this
    omega
  rw [Vals.ref1 r]
  refine sorted_setS R (I.ok.hd hc) fun s' p out c ls k g o hp hg hi pm pw => ?_
  have hlen : ((ls.map tx).map V.str).length ≤ sizeLine := by
    rw [List.length_map, List.length_map, pm.length_eq, sizeLine_eq]
    unfold scanBound at lsz
    omega
  have hn : H p = none := I.hok.fresh hp
  have J : Inv X pins σ (upd H p (.lst ((ls.map tx).map V.str))) { s with heap := s'.heap, gens := s'.gens, drawn := s'.drawn, toks := s'.toks } :=
    I.call (ch := []) (Un.laid k hp hn) (I.hok.laid k hp ⟨hlen, out.toList, c, vals_of_strs hi, hg⟩) (by rw [g]; exact I.bare) (fun _ z => nomatch z)
  have e : s' = { s with heap := s'.heap, gens := s'.gens, drawn := s'.drawn, toks := s'.toks } := by
    cases s'
    cases s
    cases o
    rfl
  rw [e]
  have q := q p ls pm pw hn
  rw [map_tx] at q
  exact ⟨.ref p, _, J, rfl, q⟩
end
end Cw
set_option Elab.async false
set_option linter.all false
set_option maxRecDepth 100000
set_option maxHeartbeats 4000000
/-! ascending pairs: of any pairs, sorted, told in any way -/
namespace Cw
open PySem PySem.Spec L2
theorem pair_ltL {a b c d : Nat} : ([a, b] : List Nat) < [c, d] ↔ a < c ∨ (a = c ∧ b < d) := by
  rw [List.cons_lt_cons_iff, List.cons_lt_cons_iff]
  simp
theorem asc_pw (l : List Nat) : (ascOf l).Pairwise (· < ·) := List.Pairwise.filter _ LET_asc
theorem prs_of {ls : List Nat} {f : List (List Nat)} (h : PairsIn ls f) : Prs ls (pairsOf (f.map ascOf)) := by
  refine ⟨pairsOf_sorted _, fun p hp => ?_⟩
  obtain ⟨a, b, rfl, ha, hb, m⟩ := pairsOf_mem.mp hp
  obtain ⟨r, hr, e⟩ := List.mem_map.mp m
  obtain ⟨x, y, rfl, n, hx, hy⟩ := h r hr
  have s : ([a, b] : List Nat).Pairwise (· < ·) := e ▸ asc_pw [x, y]
  have ma : a ∈ ascOf [x, y] := by rw [e]; simp
  have mb : b ∈ ascOf [x, y] := by rw [e]; simp
  have i : ∀ c ∈ ascOf [x, y], c ∈ ls := fun c hc => by
    have z := (ascOf_mem.mp hc).2
    simp only [List.mem_cons, List.not_mem_nil, or_false] at z
    rcases z with rfl | rfl
    · exact hx
    · exact hy
  exact ⟨a, b, rfl, by simpa using s, i a ma, i b mb⟩
theorem Prs.nd {ls : List Nat} {ps : List (List Nat)} (h : Prs ls ps) : ps.Nodup := h.srt.imp fun {a b} z => pairLt_irr z
theorem pairs_len (la lb : List Nat) : (la.flatMap fun a => lb.map fun b => [a, b]).length = la.length * lb.length := by
  induction la with
  | nil => simp
  | cons a r ih => rw [List.flatMap_cons, List.length_append, List.length_map, ih, List.length_cons, Nat.succ_mul, Nat.add_comm]
theorem Prs.len {ls : List Nat} {ps : List (List Nat)} (h : Prs ls ps) (l8 : ls.length ≤ 8) : ps.length ≤ 64 := by
  refine Nat.le_trans (nodup_le (b := ls.flatMap fun a => ls.map fun b => [a, b]) h.nd fun p hp => ?_) ?_
  · obtain ⟨a, b, rfl, _, ha, hb⟩ := h.mem p hp
    exact List.mem_flatMap.mpr ⟨a, ha, List.mem_map.mpr ⟨b, hb, rfl⟩⟩
  · rw [pairs_len]
    exact Nat.mul_le_mul l8 l8
/-- the letters and the pairs of a drawn plan -/
structure LPlan (ls : List Nat) (ps : List (List Nat)) : Prop where
  prs : Prs ls ps
  asc : ls.Pairwise (· < ·)
  lt : ∀ c ∈ ls, c ∈ LET
  nz : ∀ c ∈ ls, c ≠ 122
  l8 : ls.length ≤ 8
theorem LPlan.lp {ls : List Nat} {ps : List (List Nat)} (h : LPlan ls ps) : ps.length ≤ 64 := h.prs.len h.l8
theorem LPlan.nd {ls : List Nat} {ps : List (List Nat)} (h : LPlan ls ps) : ls.Nodup := h.asc.imp fun {a b} z e => by omega
theorem LPlan.of {ls : List Nat} {ps f : List (List Nat)} (h : LPlan ls ps) (hf : PairsIn ls f) : LPlan ls (pairsOf (f.map ascOf)) := ⟨prs_of hf, h.asc, h.lt, h.nz, h.l8⟩
theorem LPlan.tail {ls : List Nat} {ps : List (List Nat)} (h : LPlan ls ps) (n : Nat) : LPlan ls (ps.drop n) := ⟨⟨h.prs.srt.sublist (List.drop_sublist _ _), fun p hp => h.prs.mem p (List.mem_of_mem_drop hp)⟩, h.asc, h.lt, h.nz, h.l8⟩
theorem Prs.pin {ls : List Nat} {ps : List (List Nat)} (h : Prs ls ps) : PairsIn ls ps := fun p hp => by
  obtain ⟨a, b, e, l, ha, hb⟩ := h.mem p hp
  exact ⟨a, b, e, by omega, ha, hb⟩
theorem Prs.told0 {ls : List Nat} {ps : List (List Nat)} (h : Prs ls ps) (lt : ∀ c ∈ ls, c ∈ LET) : pairsOf (ps.map ascOf) = ps := h.told lt (fun p hp => ⟨p, hp, .inl rfl⟩) fun p hp => .inl hp
/-- pairs sorted, each once -/
theorem sorted_pairs {ls : List Nat} {ws f : List (List Nat)} (nd : ws.Nodup) (pw : ws.Pairwise fun a b => ¬ b < a) (hm : ∀ p, p ∈ ws ↔ p ∈ f) (hf : ∀ p ∈ f, ∃ a b, p = [a, b] ∧ a < b ∧ a ∈ ls ∧ b ∈ ls) (lt : ∀ c ∈ ls, c ∈ LET) : ws = pairsOf (f.map ascOf) := by
  have hp : Prs ls ws := by
    refine ⟨?_, fun p hp => hf p ((hm p).mp hp)⟩
    refine List.Pairwise.imp_of_mem (fun {a b} ha hb h => ?_) (List.Pairwise.and nd pw)
    obtain ⟨n, l⟩ := h
    obtain ⟨x, y, rfl, _, _, _⟩ := hf a ((hm a).mp ha)
    obtain ⟨u, v, rfl, _, _, _⟩ := hf b ((hm b).mp hb)
    rw [pair_ltL] at l
    refine pairLt_mk.mpr ?_
    have : ¬ (x = u ∧ y = v) := fun e => n (by rw [e.1, e.2])
    omega
  refine (prs_eq hp lt fun a b ha hb => ?_).symm
  rw [hm]
  have key : ∀ r ∈ f, ascOf r = r := fun r hr => by
    obtain ⟨x, y, rfl, l, hx, hy⟩ := hf r hr
    exact (asc_two (lt x hx) (lt y hy) l).1
  rw [List.mem_map]
  constructor
  · rintro ⟨r, hr, e⟩
    rw [key r hr] at e
    exact e ▸ hr
  · intro h
    exact ⟨_, h, key _ h⟩
theorem PairsIn.sub {l m : List Nat} {ps : List (List Nat)} (h : PairsIn l ps) (s : ∀ c ∈ l, c ∈ m) : PairsIn m ps := fun q hq => by
  obtain ⟨a, b, e, n, ha, hb⟩ := h q hq
  exact ⟨a, b, e, n, s a ha, s b hb⟩
/-- the plan of some of the kinds -/
theorem LPlan.part {ls low : List Nat} {ps : List (List Nat)} (h : LPlan ls ps) (s : low.Sublist ls) : LPlan low (ps.filter fun p => decide (p.getD 0 0 ∈ low) && decide (p.getD 1 0 ∈ low)) where
  prs := by
    refine ⟨h.prs.srt.sublist List.filter_sublist, fun p hp => ?_⟩
    obtain ⟨hp, c⟩ := List.mem_filter.mp hp
    obtain ⟨a, b, rfl, l, _, _⟩ := h.prs.mem p hp
    rw [Bool.and_eq_true, decide_eq_true_iff, decide_eq_true_iff] at c
    exact ⟨a, b, rfl, l, c.1, c.2⟩
  asc := h.asc.sublist s
  lt c hc := h.lt c (s.subset hc)
  nz c hc := h.nz c (s.subset hc)
  l8 := Nat.le_trans s.length_le h.l8
theorem LPlan.kinds {ls : List Nat} {ps : List (List Nat)} (h : LPlan ls ps) : ascOf ls = ls := by
  have h1 : (ascOf ls).Perm ls := by
    refine (List.perm_ext_iff_of_nodup (ascOf_nodup ls) h.nd).mpr fun c => ?_
    rw [ascOf_mem]
    exact ⟨fun z => z.2, fun z => ⟨h.lt c z, z⟩⟩
  exact h1.eq_of_pairwise (fun a b _ _ h1 h2 => by omega) (asc_pw ls) h.asc
/-- pairs of a plan sorted, each once: the pairs of the plan that is told by them -/
theorem LPlan.sorted {ls : List Nat} {ps ws f : List (List Nat)} (h : LPlan ls ps) (nd : ws.Nodup) (pw : ws.Pairwise fun a b => ¬ b < a) (hm : ∀ p, p ∈ ws ↔ p ∈ f) (hf : ∀ p ∈ f, ∃ a b, p = [a, b] ∧ a < b ∧ a ∈ ls ∧ b ∈ ls) : ws = pairsOf (f.map ascOf) := sorted_pairs nd pw hm hf h.lt
end Cw
set_option Elab.async false
set_option linter.all false
set_option maxRecDepth 100000
set_option maxHeartbeats 4000000
/-! some of a list of texts -/
namespace Cw
open PySem PySem.Spec L2
end Cw
set_option Elab.async false
set_option linter.all false
set_option maxRecDepth 100000
set_option maxHeartbeats 4000000
/-! a lambda kept in a name, handed to a def later -/
namespace Cw
open PySem PySem.Spec PyProof.Rows L2 LamX
/-- what a lambda is made of -/
structure LamD where
  params : Arguments
  body : Expr
  scope : Scope
/-- what its body reads -/
structure LamOk (X : Cx) (k : Nat) (d : LamD) (t : XK → TE) : Prop where
  L : LamS X.env.scope d.scope
  bind : ∀ (q : Str) (cl : List (Str × Addr)) (pm cv ctv : Value), bindArgs (PySem.W.kla_fn "<lambda>" q d.params d.body d.scope cl pm cv ctv) ⟨[], []⟩ = pure []
  body : ∀ (A : Around) (outer : List Env) (s : Shared) (H : Hp) (E : XK) (f c' : Addr), Room k (A.deeper (lamEnv X d.scope s.heap.objs.size f c')) → PE (lamCx X A outer s H E d.scope f c') d.body (t E)
section
variable {X : Cx} {pins : List (Addr × Obj)} {σ : L2.St} {H : Hp} {s : Shared}
end
end Cw
set_option Elab.async false
set_option linter.all false
set_option maxRecDepth 100000
set_option maxHeartbeats 4000000
/-! len of a dict -/
namespace Cw
open PySem PySem.Spec L2
end Cw
set_option Elab.async false
set_option linter.all false
set_option maxRecDepth 100000
set_option maxHeartbeats 4000000
/-! a comprehension over a dict's keys, the dict locked meanwhile -/
namespace Cw
open PySem PySem.Spec L2
/-- all but d stands as it stood; d is locked -/
structure Lk (d : Addr) (u : HO) (H H' : Hp) : Prop where
  at' : ∃ od, H' d = some (.frz od u)
  oth : ∀ b o, H b = some o → b ≠ d → H' b = some o
theorem Lk.same {d : Addr} {u : HO} {H H' H2 : Hp} (h : Lk d u H H') (s : Same H' H2) : Lk d u H H2 := ⟨h.at'.elim fun od e => ⟨od, s _ _ e⟩, fun b o e n => s _ _ (h.oth b o e n)⟩
/-- a test, cut off from what follows -/
def tCutT (t : TT) : TT := fun σ H Q => ∃ Mid : Bool → Hp → Prop, t σ H Mid ∧ ∀ b H', Mid b H' → Q b H'
theorem pt_cut {X : Cx} {e : Expr} {t : TT} (h : PT X e t) : PT X e (tCutT t) := by
  refine ⟨fun pins s σ H Q I q => ?_⟩
  obtain ⟨Mid, hm, hu⟩ := q
  exact thn (h.run pins s σ H Mid I hm) fun b s1 ⟨H1, I1, q1⟩ => ⟨H1, I1, hu b H1 q1⟩
theorem t_cut {t : TT} {σ : L2.St} {H : Hp} {Q : Bool → Hp → Prop} (Mid : Bool → Hp → Prop) (h : t σ H Mid) (q : ∀ b H', Mid b H' → Q b H') : tCutT t σ H Q := ⟨Mid, h, q⟩
end Cw
set_option Elab.async false
set_option linter.all false
set_option maxRecDepth 100000
set_option maxHeartbeats 4000000
/-! text.replace(letter, "", 1): the first such letter is left out -/
namespace Cw
open PySem PySem.Spec L2 PyProof.Rows Builtin Builtin.Str
theorem occ_one {p q : List Nat} {c : Nat} (hp : ¬ c ∈ p) : occurrences (tx (p ++ c :: q)) (tx [c]) 0 (tx (p ++ c :: q)).length 1 = [p.length] := by
  have hat : ∀ i, StrLaws.At (tx (p ++ c :: q)) (tx [c]) (tx (p ++ c :: q)).length i ↔ (p ++ c :: q)[i]? = some c := fun i => StrLaws.subAt_one (tx (p ++ c :: q)) c i
  have h0 : (p ++ c :: q)[p.length]? = some c := by rw [List.getElem?_append_right (Nat.le_refl _), Nat.sub_self]; rfl
  have hl := StrLaws.occ_length_le (tx (p ++ c :: q)) (tx [c]) 0 (tx (p ++ c :: q)).length 1
  rcases StrLaws.occ_head (tx (p ++ c :: q)) (tx [c]) 1 (Nat.le_refl _) with ⟨_, h⟩ | ⟨i, r, e, h1, h2⟩
  · exact absurd ((hat _).mpr h0) (h _)
  · rw [e] at hl ⊢
    have hr : r = [] := by
      cases r with
      | nil => rfl
      | cons a r => simp at hl
    have hi := (hat i).mp h1
    have e1 : ¬ i < p.length := by
      intro z
      rw [List.getElem?_append_left z] at hi
      exact hp (List.mem_of_getElem? hi)
    have e2 : ¬ p.length < i := fun z => h2 _ z ((hat _).mpr h0)
    rw [hr, show i = p.length by omega]
/-! ### def without_first(way, kind): return way.replace(kind, "", 1) -/
end Cw
set_option Elab.async false
set_option linter.all false
set_option maxRecDepth 100000
set_option maxHeartbeats 4000000
/-! walls in plain words: two doors of one kind lie in one wall just if their marks agree but for the sign -/
namespace Cw
/-! ### sums of coordinates -/
section
variable {f : Nat → List Nat} {ls : List Nat} {s t : Nat}
/-! ### the end of a way that may be left off -/
/-! ### where a wall begins -/
end
end Cw
set_option Elab.async false
set_option linter.all false
set_option maxRecDepth 100000
set_option maxHeartbeats 4000000
/-! more of walls in plain words -/
namespace Cw
section
variable {f : Nat → List Nat} {ls : List Nat} {s t : Nat}
end
end Cw
set_option Elab.async false
set_option linter.all false
set_option maxRecDepth 100000
set_option maxHeartbeats 4000000
/-! rooms beyond a wall, by the marks of the doors of a shortest way -/
namespace Cw
section
variable {f : Nat → List Nat} {ls : List Nat} {s c : Nat}
end
end Cw
set_option Elab.async false
set_option linter.all false
set_option maxRecDepth 100000
set_option maxHeartbeats 4000000
/-! text.index(letter); vectors turned by one kind -/
namespace Cw
open PySem PySem.Spec PyProof.Rows L2
def rIdx : V → List V → Hp → VK → Prop := fun x xs H Q => ∃ a b i rest, x = .str a ∧ xs = [.str b] ∧ Builtin.Str.occurrences a b 0 a.length 1 = i :: rest ∧ Q (.int (i : Nat)) H
theorem pe_index {X : Cx} {o e : Expr} {to te : TE} {apos pos : PySem.Pos} (ho : PE X o to) (he : PE X e te) (hs : starEach [e] X.env = [(false, eval e X.env)] := by rfl) (hbase : attributeBase o "index" X.env (eval o X.env) = eval o X.env := by rfl) (hline : (apos.endLine == pos.line) = true := by rfl) :
    PE X (.Call (.Attribute o "index" apos) [e] [] pos) (tM1 rIdx to te) := pe_m1 F.slot_str_index F.type_str_index mt_sindex ho he hs hbase hline
/-- the first place of a letter -/
def ixOf (l : List Nat) (c : Nat) : Nat := l.idxOf c
theorem lt_ixOf : ∀ {l : List Nat} {c j : Nat}, j < l.idxOf c → l[j]? ≠ some c
  | [], c, j, h => by simp
  | a :: r, c, j, h => by
    rw [List.idxOf_cons] at h
    by_cases e : a = c
    · subst e
      simp at h
    · have e' : (a == c) = false := beq_eq_false_iff_ne.mpr e
      rw [e'] at h
      simp only [cond_false] at h
      cases j with
      | zero =>
        rw [List.getElem?_cons_zero]
        exact fun z => e (Option.some.inj z)
      | succ j =>
        rw [List.getElem?_cons_succ]
        exact lt_ixOf (by omega)
theorem v_index {H : Hp} {Q : VK} {l : List Nat} {c : Nat} (h : c ∈ l) (q : Q (.int ((ixOf l c : Nat) : Int)) H) : rIdx (.str (tx l)) [.str (tx [c])] H Q := by
  have hi : ixOf l c < l.length := List.idxOf_lt_length_iff.mpr h
  have e : l = l.take (ixOf l c) ++ c :: l.drop (ixOf l c + 1) := by
    have e1 : l[ixOf l c] = c := List.getElem_idxOf hi
    conv => lhs; rw [← List.take_append_drop (ixOf l c) l, List.drop_eq_getElem_cons hi, e1]
  have hn : ¬ c ∈ l.take (ixOf l c) := fun m => by
    obtain ⟨j, hj, ej⟩ := List.getElem_of_mem m
    rw [List.length_take] at hj
    rw [List.getElem_take] at ej
    have hj2 : j < ixOf l c := by omega
    exact lt_ixOf hj2 (by rw [List.getElem?_eq_getElem (show j < l.length by omega), ej])
  refine ⟨_, _, ixOf l c, [], rfl, rfl, ?_, q⟩
  have o := occ_one (q := l.drop (ixOf l c + 1)) hn
  rw [← e] at o
  rw [o, List.length_take, Nat.min_eq_left (by omega)]
theorem ixOf_get {l : List Nat} {c : Nat} (h : c ∈ l) : ixOf l c < l.length ∧ l.getD (ixOf l c) 0 = c := by
  have hi : ixOf l c < l.length := List.idxOf_lt_length_iff.mpr h
  refine ⟨hi, ?_⟩
  rw [List.getD_eq_getElem?_getD, List.getElem?_eq_getElem hi]
  exact List.getElem_idxOf hi
/-! ### one turn of a vector -/
end Cw
set_option Elab.async false
set_option linter.all false
set_option maxRecDepth 100000
set_option maxHeartbeats 4000000
namespace Cw
/-! ### renamings of a plan, as lists of letters (no program in sight) -/
/-- whether two kinds cross, by the pairs -/
def crM (ps : List (List Nat)) (a b : Nat) : Bool := decide ([a, b] ∈ ps) || decide ([b, a] ∈ ps)
theorem crM_sym (ps : List (List Nat)) (a b : Nat) : crM ps a b = crM ps b a := Bool.or_comm ..
/-- all lists of n kinds each of which fits behind those ahead of it, ascending -/
def growL (ks : List Nat) (fit : List Nat → Nat → Bool) : Nat → List (List Nat)
  | 0 => [[]]
  | n + 1 => (growL ks fit n).flatMap fun im => (ks.filter (fit im)).map fun k => im ++ [k]
theorem take_snocR {im : List Nat} {k i : Nat} (h : i < im.length) : (im ++ [k]).take i = im.take i ∧ (im ++ [k]).getD i 0 = im.getD i 0 := by
  refine ⟨List.take_append_of_le_length (by omega), ?_⟩
  rw [List.getD_eq_getElem?_getD, List.getElem?_append_left h, ← List.getD_eq_getElem?_getD]
theorem last_snocR {im : List Nat} {k : Nat} : (im ++ [k]).take im.length = im ∧ (im ++ [k]).getD im.length 0 = k := by
  refine ⟨by rw [List.take_append_of_le_length (Nat.le_refl _), List.take_of_length_le (Nat.le_refl _)], ?_⟩
  rw [List.getD_eq_getElem?_getD, List.getElem?_append_right (Nat.le_refl _), Nat.sub_self]
  rfl
theorem growL_mem {ks : List Nat} {fit : List Nat → Nat → Bool} : ∀ {n : Nat} {v : List Nat}, v ∈ growL ks fit n ↔ v.length = n ∧ ∀ i, i < n → v.getD i 0 ∈ ks ∧ fit (v.take i) (v.getD i 0) = true
  | 0, v => by
    unfold growL
    rw [List.mem_singleton]
    exact ⟨fun h => h ▸ ⟨rfl, fun i hi => absurd hi (Nat.not_lt_zero _)⟩, fun h => List.length_eq_zero_iff.mp h.1⟩
  | n + 1, v => by
    unfold growL
    rw [List.mem_flatMap]
    constructor
    · rintro ⟨im, him, hv⟩
      obtain ⟨k, hk, rfl⟩ := List.mem_map.mp hv
      obtain ⟨l1, h1⟩ := growL_mem.mp him
      obtain ⟨hk1, hk2⟩ := List.mem_filter.mp hk
      refine ⟨by rw [List.length_append, l1]; rfl, fun i hi => ?_⟩
      rcases Nat.lt_or_ge i im.length with c | c
      · obtain ⟨e1, e2⟩ := take_snocR (k := k) c
        rw [e1, e2]
        exact h1 i (by omega)
      · have e : i = im.length := by omega
        subst e
        obtain ⟨e1, e2⟩ := last_snocR (im := im) (k := k)
        rw [e1, e2]
        exact ⟨hk1, hk2⟩
    · rintro ⟨l, h⟩
      have hn : n < v.length := by omega
      have ev : v = v.take n ++ [v.getD n 0] := by
        have h1 := List.take_append_drop n v
        rw [List.drop_eq_getElem_cons hn, List.drop_of_length_le (by omega)] at h1
        rw [List.getD_eq_getElem?_getD, List.getElem?_eq_getElem hn]
        exact h1.symm
      have lt : (v.take n).length = n := by rw [List.length_take]; omega
      refine ⟨v.take n, growL_mem.mpr ⟨lt, fun i hi => ?_⟩, ?_⟩
      · have hi' : i < (v.take n).length := by omega
        obtain ⟨e1, e2⟩ := take_snocR (k := v.getD n 0) hi'
        rw [← e1, ← e2, ← ev]
        exact h i (by omega)
      · rw [List.mem_map]
        exact ⟨v.getD n 0, List.mem_filter.mpr (h n (by omega)), ev.symm⟩
theorem lt_appR : ∀ {a b x y : List Nat}, a.length = b.length → a < b → a ++ x < b ++ y
  | [], [], _, _, _, h => absurd h (by decide)
  | c :: a, d :: b, x, y, l, h => by
    rw [List.cons_append, List.cons_append]
    rcases List.cons_lt_cons_iff.mp h with h | ⟨e, h⟩
    · exact List.cons_lt_cons_iff.mpr (.inl h)
    · exact List.cons_lt_cons_iff.mpr (.inr ⟨e, lt_appR (by simpa using l) h⟩)
  | [], _ :: _, _, _, l, _ => by cases l
  | _ :: _, [], _, _, l, _ => by cases l
theorem lt_sameR {a : List Nat} {k m : Nat} (h : k < m) : a ++ [k] < a ++ [m] := by
  induction a with
  | nil => exact List.cons_lt_cons_iff.mpr (.inl h)
  | cons c a ih => exact List.cons_lt_cons_iff.mpr (.inr ⟨rfl, ih⟩)
theorem growL_asc {ks : List Nat} (asc : ks.Pairwise (· < ·)) {fit : List Nat → Nat → Bool} : ∀ n, (growL ks fit n).Pairwise (· < ·)
  | 0 => List.pairwise_singleton ..
  | n + 1 => by
    unfold growL
    rw [List.pairwise_flatMap]
    refine ⟨fun im _ => ?_, ?_⟩
    · rw [List.pairwise_map]
      exact ((asc.sublist List.filter_sublist)).imp fun h => lt_sameR h
    · refine (growL_asc asc n).imp_of_mem fun {a b} ha hb h x hx y hy => ?_
      obtain ⟨k, _, rfl⟩ := List.mem_map.mp hx
      obtain ⟨m, _, rfl⟩ := List.mem_map.mp hy
      exact lt_appR ((growL_mem.mp ha).1.trans (growL_mem.mp hb).1.symm) h
/-- how many lists of n different ones out of m -/
def descR (m : Nat) : Nat → Nat
  | 0 => 1
  | n + 1 => descR m n * (m - n)
theorem flatLen {α β : Type} {f : α → List β} {c : Nat} : ∀ {l : List α}, (∀ a ∈ l, (f a).length ≤ c) → (l.flatMap f).length ≤ l.length * c
  | [], _ => by simp
  | a :: l, h => by
    rw [List.flatMap_cons, List.length_append, List.length_cons, Nat.succ_mul]
    have := h a (List.mem_cons_self ..)
    have := flatLen (l := l) fun b hb => h b (List.mem_cons_of_mem _ hb)
    omega
theorem nodup_take {v : List Nat} : (∀ i, i < v.length → ¬ v.getD i 0 ∈ v.take i) → v.Nodup := by
  intro h
  rw [List.nodup_iff_pairwise_ne, List.pairwise_iff_getElem]
  intro i j hi hj hij e
  refine h j hj ?_
  rw [List.getD_eq_getElem?_getD, List.getElem?_eq_getElem hj]
  show v[j] ∈ _
  rw [← e]
  exact List.mem_take_iff_getElem.mpr ⟨i, by omega, rfl⟩
theorem take_nodup {v : List Nat} (nd : v.Nodup) {i : Nat} (hi : i < v.length) : ¬ v.getD i 0 ∈ v.take i := fun h => by
  obtain ⟨j, hj, e⟩ := List.mem_take_iff_getElem.mp h
  rw [List.getD_eq_getElem?_getD, List.getElem?_eq_getElem hi] at e
  have e : v[j] = v[i] := e
  have := (List.getElem_inj nd).mp e
  omega
section
variable {ks v : List Nat} {fit : List Nat → Nat → Bool} {n : Nat}
theorem growL_nd (hf : ∀ im k, fit im k = true → ¬ k ∈ im) (h : v ∈ growL ks fit n) : v.Nodup ∧ v.length = n ∧ ∀ c ∈ v, c ∈ ks := by
  obtain ⟨l, h⟩ := growL_mem.mp h
  refine ⟨nodup_take fun i hi => hf _ _ (h i (by omega)).2, l, fun c hc => ?_⟩
  obtain ⟨i, hi, rfl⟩ := List.mem_iff_getElem.mp hc
  have := (h i (by omega)).1
  rw [List.getD_eq_getElem?_getD, List.getElem?_eq_getElem hi] at this
  exact this
theorem growL_len (nd : ks.Nodup) (hf : ∀ im k, fit im k = true → ¬ k ∈ im) : ∀ n, (growL ks fit n).length ≤ descR ks.length n
  | 0 => Nat.le_refl _
  | n + 1 => by
    unfold growL descR
    refine Nat.le_trans (flatLen (c := ks.length - n) fun im him => ?_) (Nat.mul_le_mul_right _ (growL_len nd hf n))
    obtain ⟨n1, l1, s1⟩ := growL_nd hf him
    rw [List.length_map]
    have h : (im ++ ks.filter (fit im)).Nodup := List.nodup_append.mpr ⟨n1, nd.sublist List.filter_sublist, fun a ha b hb e => hf _ _ (List.mem_filter.mp hb).2 (e ▸ ha)⟩
    have := List.Nodup.length_le_of_subset h (l₂ := ks) fun c hc => by
      rcases List.mem_append.mp hc with z | z
      · exact s1 c z
      · exact (List.mem_filter.mp z).1
    rw [List.length_append, l1] at this
    omega
end
/-- an order of the kinds -/
structure OrdR (ks v : List Nat) : Prop where
  nd : v.Nodup
  len : v.length = ks.length
  sub : ∀ c ∈ v, c ∈ ks
theorem OrdR.all {ks v : List Nat} (o : OrdR ks v) (nd : ks.Nodup) {c : Nat} (hc : c ∈ ks) : c ∈ v := by
  apply Classical.byContradiction
  intro h
  have := List.Nodup.length_le_of_subset (l₁ := c :: v) (l₂ := ks) (List.nodup_cons.mpr ⟨h, o.nd⟩) fun x hx => by
    rcases List.mem_cons.mp hx with rfl | hx
    · exact hc
    · exact o.sub x hx
  rw [List.length_cons, o.len] at this
  omega
/-- no letter twice -/
def notF (im : List Nat) (k : Nat) : Bool := !decide (k ∈ im)
theorem notF_ok : ∀ im k, notF im k = true → ¬ k ∈ im := fun im k h => by
  unfold notF at h
  simpa using h
theorem ord_iff {ks v : List Nat} : v ∈ growL ks notF ks.length ↔ OrdR ks v := by
  constructor
  · intro h
    obtain ⟨a, b, c⟩ := growL_nd notF_ok h
    exact ⟨a, b, c⟩
  · rintro ⟨a, b, c⟩
    refine growL_mem.mpr ⟨b, fun i hi => ?_⟩
    have hi : i < v.length := by omega
    have hg : v.getD i 0 = v[i] := by rw [List.getD_eq_getElem?_getD, List.getElem?_eq_getElem hi]; rfl
    refine ⟨by rw [hg]; exact c _ (List.getElem_mem hi), ?_⟩
    unfold notF
    rw [decide_eq_false (take_nodup a hi)]
    rfl
/-- a kind may be the next image -/
def fitsP (ks : List Nat) (ps : List (List Nat)) (im : List Nat) (k : Nat) : Bool := !decide (k ∈ im) && (List.range im.length).all fun i => crM ps k (im.getD i 0) == crM ps (ks.getD im.length 0) (ks.getD i 0)
theorem fitsP_ok {ks : List Nat} {ps : List (List Nat)} : ∀ im k, fitsP ks ps im k = true → ¬ k ∈ im := fun im k h => by
  unfold fitsP at h
  rw [Bool.and_eq_true] at h
  simpa using h.1
/-- the renamings -/
def rensL (ks : List Nat) (ps : List (List Nat)) : List (List Nat) := growL ks (fitsP ks ps) ks.length
/-- an order keeps which kinds cross -/
def keepsP (ks : List Nat) (ps : List (List Nat)) (v : List Nat) : Bool := (List.range ks.length).all fun i => (List.range i).all fun j => crM ps (ks.getD i 0) (ks.getD j 0) == crM ps (v.getD i 0) (v.getD j 0)
theorem keepsP_iff {ks : List Nat} {ps : List (List Nat)} {v : List Nat} : keepsP ks ps v = true ↔ ∀ i j, j < i → i < ks.length → crM ps (ks.getD i 0) (ks.getD j 0) = crM ps (v.getD i 0) (v.getD j 0) := by
  unfold keepsP
  rw [List.all_eq_true]
  constructor
  · intro h i j hj hi
    have := List.all_eq_true.mp (h i (List.mem_range.mpr hi)) j (List.mem_range.mpr hj)
    exact eq_of_beq this
  · intro h i hi
    refine List.all_eq_true.mpr fun j hj => ?_
    rw [h i j (List.mem_range.mp hj) (List.mem_range.mp hi)]
    exact beq_self_eq_true _
theorem ren_iff {ks : List Nat} {ps : List (List Nat)} {v : List Nat} : v ∈ rensL ks ps ↔ OrdR ks v ∧ keepsP ks ps v = true := by
  have key : ∀ i, i < v.length → (fitsP ks ps (v.take i) (v.getD i 0) = true ↔ (¬ v.getD i 0 ∈ v.take i ∧ ∀ j, j < i → crM ps (v.getD i 0) (v.getD j 0) = crM ps (ks.getD i 0) (ks.getD j 0))) := fun i hi => by
    have lt : (v.take i).length = i := by rw [List.length_take]; omega
    unfold fitsP
    rw [Bool.and_eq_true, lt, List.all_eq_true]
    refine and_congr (by simp) ?_
    constructor
    · intro h j hj
      have := eq_of_beq (h j (List.mem_range.mpr hj))
      rwa [List.getD_eq_getElem?_getD (l := v.take i), List.getElem?_take_of_lt hj, ← List.getD_eq_getElem?_getD] at this
    · intro h j hj
      have hj := List.mem_range.mp hj
      rw [List.getD_eq_getElem?_getD (l := v.take i), List.getElem?_take_of_lt hj, ← List.getD_eq_getElem?_getD, h j hj]
      exact beq_self_eq_true _
  constructor
  · intro h
    have o := growL_nd fitsP_ok h
    obtain ⟨l, h⟩ := growL_mem.mp h
    refine ⟨⟨o.1, o.2.1, o.2.2⟩, keepsP_iff.mpr fun i j hj hi => ?_⟩
    exact (((key i (by omega)).mp (h i hi).2).2 j hj).symm
  · rintro ⟨o, k⟩
    have k := keepsP_iff.mp k
    refine growL_mem.mpr ⟨o.len, fun i hi => ?_⟩
    have hv : i < v.length := by rw [o.len]; exact hi
    have hg : v.getD i 0 = v[i] := by rw [List.getD_eq_getElem?_getD, List.getElem?_eq_getElem hv]; rfl
    exact ⟨by rw [hg]; exact o.sub _ (List.getElem_mem hv), (key i hv).mpr ⟨take_nodup o.nd hv, fun j hj => (k i j hj hi).symm⟩⟩
theorem rens_self {ks : List Nat} (nd : ks.Nodup) (ps : List (List Nat)) : ks ∈ rensL ks ps := ren_iff.mpr ⟨⟨nd, rfl, fun _ h => h⟩, keepsP_iff.mpr fun _ _ _ _ => rfl⟩
theorem keeps_ne {ks v : List Nat} {ps : List (List Nat)} (k : keepsP ks ps v = true) {a b : Nat} (ha : a < ks.length) (hb : b < ks.length) (ne : a ≠ b) : crM ps (ks.getD a 0) (ks.getD b 0) = crM ps (v.getD a 0) (v.getD b 0) := by
  rcases Nat.lt_or_gt_of_ne ne with h | h
  · rw [crM_sym, crM_sym ps (v.getD a 0)]
    exact keepsP_iff.mp k b a h hb
  · exact keepsP_iff.mp k a b h ha
/-- one renaming behind another -/
def behindR (ks one two : List Nat) : List Nat := two.map fun c => one.getD (ixOf ks c) 0
/-- a renaming undone -/
def backR (ks one : List Nat) : List Nat := ks.map fun c => ks.getD (ixOf one c) 0
theorem getD_mapR {f : Nat → Nat} {l : List Nat} {i : Nat} (h : i < l.length) : (l.map f).getD i 0 = f (l.getD i 0) := by
  rw [List.getD_eq_getElem?_getD, List.getElem?_map, List.getElem?_eq_getElem h, List.getD_eq_getElem?_getD, List.getElem?_eq_getElem h]
  rfl
theorem getD_memR {l : List Nat} {i : Nat} (h : i < l.length) : l.getD i 0 ∈ l := by
  rw [List.getD_eq_getElem?_getD, List.getElem?_eq_getElem h]
  exact List.getElem_mem h
theorem getD_injR {l : List Nat} (nd : l.Nodup) {i j : Nat} (hi : i < l.length) (hj : j < l.length) (e : l.getD i 0 = l.getD j 0) : i = j := by
  rw [List.getD_eq_getElem?_getD, List.getElem?_eq_getElem hi, List.getD_eq_getElem?_getD, List.getElem?_eq_getElem hj] at e
  exact (List.getElem_inj nd).mp e
theorem ix_injR {l : List Nat} {c d : Nat} (hc : c ∈ l) (hd : d ∈ l) (e : ixOf l c = ixOf l d) : c = d := by
  have h1 := (ixOf_get hc).2
  have h2 := (ixOf_get hd).2
  rw [e] at h1
  exact h1.symm.trans h2
theorem map_nodupR {f : Nat → Nat} {l : List Nat} (nd : l.Nodup) (h : ∀ a ∈ l, ∀ b ∈ l, f a = f b → a = b) : (l.map f).Nodup := by
  rw [List.nodup_iff_pairwise_ne, List.pairwise_map]
  exact (List.nodup_iff_pairwise_ne.mp nd).imp_of_mem fun {a b} ha hb ne e => ne (h a ha b hb e)
section
variable {ks one two : List Nat} {ps : List (List Nat)}
theorem behind_ok (nd : ks.Nodup) (h1 : one ∈ rensL ks ps) (h2 : two ∈ rensL ks ps) : behindR ks one two ∈ rensL ks ps := by
  obtain ⟨o1, k1⟩ := ren_iff.mp h1
  obtain ⟨o2, k2⟩ := ren_iff.mp h2
  have ix : ∀ c ∈ two, ixOf ks c < ks.length := fun c hc => (ixOf_get (o2.sub c hc)).1
  refine ren_iff.mpr ⟨⟨map_nodupR o2.nd fun a ha b hb e => ?_, (List.length_map _).trans o2.len, fun c hc => ?_⟩, keepsP_iff.mpr fun i j hj hi => ?_⟩
  · exact ix_injR (o2.sub a ha) (o2.sub b hb) (getD_injR o1.nd (by rw [o1.len]; exact ix a ha) (by rw [o1.len]; exact ix b hb) e)
  · obtain ⟨d, hd, rfl⟩ := List.mem_map.mp hc
    exact o1.sub _ (getD_memR (by rw [o1.len]; exact ix d hd))
  · have li : i < two.length := by rw [o2.len]; exact hi
    have lj : j < two.length := by omega
    have mi := o2.sub _ (getD_memR li)
    have mj := o2.sub _ (getD_memR lj)
    unfold behindR
    rw [getD_mapR li, getD_mapR lj, ← keeps_ne k1 (ixOf_get mi).1 (ixOf_get mj).1 fun e => ?_, (ixOf_get mi).2, (ixOf_get mj).2]
    · exact keepsP_iff.mp k2 i j hj hi
    · have := getD_injR o2.nd li lj (ix_injR mi mj e)
      omega
theorem back_ok (nd : ks.Nodup) (h1 : one ∈ rensL ks ps) : backR ks one ∈ rensL ks ps := by
  obtain ⟨o1, k1⟩ := ren_iff.mp h1
  have ix : ∀ c ∈ ks, ixOf one c < one.length ∧ one.getD (ixOf one c) 0 = c := fun c hc => ixOf_get (o1.all nd hc)
  have ix' : ∀ c ∈ ks, ixOf one c < ks.length := fun c hc => by rw [← o1.len]; exact (ix c hc).1
  refine ren_iff.mpr ⟨⟨map_nodupR nd fun a ha b hb e => ?_, List.length_map _, fun c hc => ?_⟩, keepsP_iff.mpr fun i j hj hi => ?_⟩
  · exact ix_injR (o1.all nd ha) (o1.all nd hb) (getD_injR nd (ix' a ha) (ix' b hb) e)
  · obtain ⟨d, hd, rfl⟩ := List.mem_map.mp hc
    exact getD_memR (ix' d hd)
  · have mi := getD_memR hi
    have lj : j < ks.length := by omega
    have mj := getD_memR lj
    unfold backR
    rw [getD_mapR hi, getD_mapR lj, keeps_ne k1 (ix' _ mi) (ix' _ mj) fun e => ?_, (ix _ mi).2, (ix _ mj).2]
    have := getD_injR nd hi lj (ix_injR (o1.all nd mi) (o1.all nd mj) e)
    omega
end
/-- sorted without doubles: the list itself if it ascends -/
theorem sorted_selfR {l ms ls : List (List Nat)} (asc : l.Pairwise (· < ·)) (nd : ms.Nodup) (mem : ∀ m, m ∈ ms ↔ m ∈ l) (pm : ls.Perm ms) (pw : ls.Pairwise fun a b => ¬ b < a) : ls = l := by
  have ndl : l.Nodup := asc.imp fun {a b} h e => by
    rw [e] at h
    exact List.lt_irrefl _ h
  have p : ls.Perm l := pm.trans ((List.perm_ext_iff_of_nodup nd ndl).mpr mem)
  refine p.eq_of_pairwise (le := fun a b => ¬ b < a) (fun a b _ _ h1 h2 => ?_) pw (asc.imp fun {a b} h => List.lt_asymm h)
  exact List.le_antisymm (List.not_lt.mp h1) (List.not_lt.mp h2)
end Cw
set_option Elab.async false
set_option linter.all false
set_option maxRecDepth 100000
set_option maxHeartbeats 4000000
namespace Cw
open PySem PySem.Spec L2
/-! ### a comprehension of two fors over any two walks; the items stand for told values -/
section
variable {σ : St} {H : Hp} {Q : VK} {wi wi1 : TI} {tt1 : TT} {te : TE} {i j : Nat}
theorem flat_len {X : Type} {F : Nat → List X} {mm : Nat} : ∀ {n : Nat}, (∀ k, k < n → (F k).length ≤ mm) → ((List.range n).flatMap F).length ≤ n * mm
  | 0, _ => by simp
  | n + 1, h => by
    have ih := flat_len (n := n) fun k hk => h k (by omega)
    have h1 := h n (by omega)
    rw [List.range_succ, List.flatMap_append, List.length_append, List.flatMap_cons, List.flatMap_nil, List.append_nil, Nat.succ_mul]
    omega
theorem v_lc2R {X : Type} {J : It} {n mm : Nat} {G : Hp → Prop} {it : Nat → V} {J1 : Nat → It} {m : Nat → Nat} {G1 : Nat → Hp → Prop} {it1 : Nat → Nat → V} {b : Nat → Nat → Bool} {f : Nat → Nat → X} (EL : X → V → Hp → Prop)
    (m1 : ∀ x v H1 H2, EL x v H1 → Same H1 H2 → EL x v H2) (m2 : ∀ x v H1 D l l', EL x v H1 → H1 D = some (.lst l) → EL x v (upd H1 D (.lst l')))
    (hij : i ≠ j) (wiH : ∀ R : It → Hp → Prop, R J H → wi σ H R) (w : Walk J n G (fun k H x H' => H' = H ∧ x = it k)) (hG : ∀ H', Same H H' → G H')
    (w1H : ∀ k, k < n → ∀ H1, Same H H1 → ∀ R : It → Hp → Prop, R (J1 k) H1 → wi1 (((σ.set j none).set i none).set i (some (it k))) H1 R)
    (w1 : ∀ k, k < n → Walk (J1 k) (m k) (G1 k) (fun l H x H' => H' = H ∧ x = it1 k l)) (hG1 : ∀ k H', k < n → Same H H' → G1 k H')
    (hm : ∀ k, k < n → m k ≤ mm) (hsz : n * mm < 1000000)
    (ht : ∀ k l, k < n → l < m k → ∀ H1, Same H H1 → ∀ R : Bool → Hp → Prop, (∀ H2, Same H1 H2 → R (b k l) H2) → tt1 (((((σ.set j none).set i none).set i (some (it k))).set j none).set j (some (it1 k l))) H1 R)
    (he : ∀ k l, k < n → l < m k → b k l = true → ∀ H1, Same H H1 → ∀ R : VK, (∀ v H2, Same H1 H2 → EL (f k l) v H2 → R v H2) → te (((((σ.set j none).set i none).set i (some (it k))).set j none).set j (some (it1 k l))) H1 R)
    (q : ∀ (D : Addr) (H' : Hp) (zs : List (X × V)), H D = none → Same H H' → H' D = some (.lst (zs.map (·.2))) → zs.map (·.1) = (List.range n).flatMap (fun k => ((List.range (m k)).filter (b k)).map (f k)) → (∀ z ∈ zs, EL z.1 z.2 H') → Q (.ref D) H') :
    tLc2 wi (gName i) tYes wi1 (gName j) tt1 te [i, j] [j] σ H Q := by
  refine wiH _ fun D hD => ?_
  let F : Nat → List X := fun k => ((List.range (m k)).filter (b k)).map (f k)
  have lF : ∀ k, k < n → (F k).length ≤ mm := fun k hk => by
    show (((List.range (m k)).filter (b k)).map (f k)).length ≤ mm
    rw [List.length_map]
    have h1 := List.length_filter_le (b k) (List.range (m k))
    rw [List.length_range] at h1
    have := hm k hk
    omega
  refine ⟨fun k mk H' => mk = n - k ∧ k ≤ n ∧ Same H H' ∧ ∃ zs : List (X × V), H' D = some (.lst (zs.map (·.2))) ∧ zs.map (·.1) = (List.range k).flatMap F ∧ ∀ z ∈ zs, EL z.1 z.2 H', ⟨_, rfl, Nat.zero_le _, Same.new hD, [], upd_same, rfl, fun z hz => by cases hz⟩, ?_⟩
  rintro k mk H1 ⟨rfl, hk, s1, zs, e1, f1, g1⟩
  by_cases c : k < n
  · refine Or.inr ⟨w.goes k H1 c (hG _ s1), fun H' => Same H H' ∧ ∃ zs : List (X × V), H' D = some (.lst (zs.map (·.2))) ∧ zs.map (·.1) = (List.range (k + 1)).flatMap F ∧ ∀ z ∈ zs, EL z.1 z.2 H', fun H' p => ⟨_, by omega, rfl, c, p.1, p.2⟩, fun x H2 y => ?_⟩
    obtain ⟨rfl, rfl⟩ := w.yields k H1 x H2 c (hG _ s1) y
    refine ⟨?_, ?_⟩
    · show ((((σ.set j none).set i none).set i _).set j none).set i none = (σ.set j none).set i none
      rw [List.set_comm _ _ hij.symm, List.set_set, List.set_set, List.set_comm _ _ hij, List.set_set]
    · unfold tYes
      refine iteT ?_
      refine w1H k c _ s1 _ ?_
      refine lc_in (w1 k c) (fun z H' => Same H H' ∧ ∃ zs : List (X × V), H' D = some (.lst (zs.map (·.2))) ∧ zs.map (·.1) = (List.range k).flatMap F ++ ((List.range z).filter (b k)).map (f k) ∧ ∀ z ∈ zs, EL z.1 z.2 H') ⟨s1, zs, e1, by simpa using f1, g1⟩ (fun _ H' _ p => hG1 k H' c p.1) ?_ ?_
      · rintro z x H3 H4 hz ⟨s3, zs3, e3, f3, g3⟩ ⟨rfl, rfl⟩
        refine ⟨?_, ht _ _ c hz _ s3 _ fun H5 s5 => ?_⟩
        · exact wipe1
        · show (if b k z = true then _ else _)
          have er : (List.range (z + 1)).filter (b k) = (List.range z).filter (b k) ++ (if b k z = true then [z] else []) := by
            rw [List.range_succ, List.filter_append]
            congr 1
            by_cases c : b k z = true
            · simp [c]
            · simp [c]
          by_cases cb : b k z = true
          · rw [if_pos cb]
            refine he _ _ c hz cb _ (s3.trans s5) _ fun v H6 s6 ev => ?_
            have e6 := s6 _ _ (s5 _ _ e3)
            refine ⟨_, e6, ?_, fun a o ha => ?_, zs3 ++ [(f k z, v)], ?_, ?_, fun y hy => ?_⟩
            · have n1 : (zs3.map (·.1)).length ≤ k * mm + z := by
                rw [f3, List.length_append, List.length_map]
                have h1 := flat_len (F := F) (n := k) fun k' hk' => lF k' (by omega)
                have h2 := List.length_filter_le (b k) (List.range z)
                rw [List.length_range] at h2
                omega
              rw [List.length_map] at n1 ⊢
              have h3 := hm k c
              have n3 : k * mm + mm ≤ n * mm := by
                rw [← Nat.succ_mul]
                exact Nat.mul_le_mul_right _ c
              exact szlt (by omega)
            · rw [upd_ne (ne_of_none ha hD)]
              exact s6 _ _ (s5 _ _ (s3 _ _ ha))
            · rw [upd_same, List.map_append]
              rfl
            · rw [List.map_append, f3, er, if_pos cb, List.map_append, List.append_assoc]
              rfl
            · rcases List.mem_append.mp hy with hy | hy
              · exact m2 _ _ _ _ _ _ (m1 _ _ _ _ (g3 y hy) (s5.trans s6)) e6
              · cases List.mem_singleton.mp hy
                exact m2 _ _ _ _ _ _ ev e6
          · rw [if_neg cb]
            refine ⟨s3.trans s5, zs3, s5 _ _ e3, ?_, fun y hy => m1 _ _ _ _ (g3 y hy) s5⟩
            rw [f3, er, if_neg cb, List.append_nil]
      · rintro H' ⟨s', zs', e', f', g'⟩
        refine ⟨s', zs', e', ?_, g'⟩
        rw [f', List.range_succ, List.flatMap_append, List.flatMap_cons, List.flatMap_nil, List.append_nil]
  · have e : k = n := by omega
    subst e
    exact Or.inl ⟨w.stops H1 (hG _ s1), q D H1 zs hD s1 e1 f1 g1⟩
/-- the items are told values -/
theorem v_lc2V {J : It} {n mm : Nat} {G : Hp → Prop} {it : Nat → V} {J1 : Nat → It} {m : Nat → Nat} {G1 : Nat → Hp → Prop} {it1 : Nat → Nat → V} {b : Nat → Nat → Bool} {f : Nat → Nat → V}
    (hij : i ≠ j) (wiH : ∀ R : It → Hp → Prop, R J H → wi σ H R) (w : Walk J n G (fun k H x H' => H' = H ∧ x = it k)) (hG : ∀ H', Same H H' → G H')
    (w1H : ∀ k, k < n → ∀ H1, Same H H1 → ∀ R : It → Hp → Prop, R (J1 k) H1 → wi1 (((σ.set j none).set i none).set i (some (it k))) H1 R)
    (w1 : ∀ k, k < n → Walk (J1 k) (m k) (G1 k) (fun l H x H' => H' = H ∧ x = it1 k l)) (hG1 : ∀ k H', k < n → Same H H' → G1 k H')
    (hm : ∀ k, k < n → m k ≤ mm) (hsz : n * mm < 1000000)
    (ht : ∀ k l, k < n → l < m k → ∀ H1, Same H H1 → ∀ R : Bool → Hp → Prop, (∀ H2, Same H1 H2 → R (b k l) H2) → tt1 (((((σ.set j none).set i none).set i (some (it k))).set j none).set j (some (it1 k l))) H1 R)
    (he : ∀ k l, k < n → l < m k → b k l = true → ∀ H1, Same H H1 → ∀ R : VK, (∀ H2, Same H1 H2 → R (f k l) H2) → te (((((σ.set j none).set i none).set i (some (it k))).set j none).set j (some (it1 k l))) H1 R)
    (q : ∀ (D : Addr) (H' : Hp), H D = none → Same H H' → H' D = some (.lst ((List.range n).flatMap (fun k => ((List.range (m k)).filter (b k)).map (f k)))) → Q (.ref D) H') :
    tLc2 wi (gName i) tYes wi1 (gName j) tt1 te [i, j] [j] σ H Q := by
  refine v_lc2R (X := V) (fun x v _ => v = x) (fun _ _ _ _ h _ => h) (fun _ _ _ _ _ _ h _ => h) hij wiH w hG w1H w1 hG1 hm hsz ht (fun k l hk hl hb H1 s1 R r => he k l hk hl hb H1 s1 R fun H2 s2 => r _ H2 s2 rfl) fun D H' zs hD s e f g => q D H' hD s ?_
  rw [e, ← f]
  congr 2
  refine List.map_congr_left fun z hz => g z hz
/-- the items are new pairs -/
theorem v_lc2T {J : It} {n mm : Nat} {G : Hp → Prop} {it : Nat → V} {J1 : Nat → It} {m : Nat → Nat} {G1 : Nat → Hp → Prop} {it1 : Nat → Nat → V} {f : Nat → Nat → List V}
    (hij : i ≠ j) (wiH : ∀ R : It → Hp → Prop, R J H → wi σ H R) (w : Walk J n G (fun k H x H' => H' = H ∧ x = it k)) (hG : ∀ H', Same H H' → G H')
    (w1H : ∀ k, k < n → ∀ H1, Same H H1 → ∀ R : It → Hp → Prop, R (J1 k) H1 → wi1 (((σ.set j none).set i none).set i (some (it k))) H1 R)
    (w1 : ∀ k, k < n → Walk (J1 k) (m k) (G1 k) (fun l H x H' => H' = H ∧ x = it1 k l)) (hG1 : ∀ k H', k < n → Same H H' → G1 k H')
    (hm : ∀ k, k < n → m k ≤ mm) (hsz : n * mm < 1000000)
    (ht : ∀ k l, k < n → l < m k → ∀ H1, Same H H1 → ∀ R : Bool → Hp → Prop, (∀ H2, Same H1 H2 → R true H2) → tt1 (((((σ.set j none).set i none).set i (some (it k))).set j none).set j (some (it1 k l))) H1 R)
    (he : ∀ k l, k < n → l < m k → ∀ H1, Same H H1 → ∀ R : VK, (∀ p H2, Same H1 H2 → H2 p = some (.tup (f k l)) → R (.ref p) H2) → te (((((σ.set j none).set i none).set i (some (it k))).set j none).set j (some (it1 k l))) H1 R)
    (q : ∀ (D : Addr) (H' : Hp) (zs : List (List V × V)), H D = none → Same H H' → H' D = some (.lst (zs.map (·.2))) → zs.map (·.1) = (List.range n).flatMap (fun k => (List.range (m k)).map (f k)) → (∀ z ∈ zs, ∃ p, z.2 = .ref p ∧ H' p = some (.tup z.1)) → Q (.ref D) H') :
    tLc2 wi (gName i) tYes wi1 (gName j) tt1 te [i, j] [j] σ H Q := by
  refine v_lc2R (X := List V) (b := fun _ _ => true) (f := f) (fun x v H => ∃ p, v = .ref p ∧ H p = some (.tup x)) (fun _ _ _ _ ⟨p, e, h⟩ s => ⟨p, e, s _ _ h⟩) (fun x v H1 D l l' ⟨p, e, h⟩ hD => ⟨p, e, ?_⟩) hij wiH w hG w1H w1 hG1 hm hsz ht (fun k l hk hl hb H1 s1 R r => he k l hk hl H1 s1 R fun p H2 s2 e => r _ H2 s2 ⟨p, rfl, e⟩) fun D H' zs hD s e f g => q D H' zs hD s e ?_ g
  · rw [upd_ne (fun z => by rw [z, hD] at h; cases h)]
    exact h
  · rw [f]
    congr 1
    funext k
    rw [List.filter_eq_self.mpr fun _ _ => rfl]
/-- [e for a, b in pairs]: a list of pairs -/
theorem lc_pairsV {K : PySem.W.Frag} {a : Addr} {xs : List V} {tt : TT} {te : TE} {P : Addr → Hp → Prop} {A B : Nat → V} (f : Nat → V) (hij : i ≠ j) (hl : SqL K H a xs) (hs : ∀ H', Same H H' → SqL K H' a xs) (hn : xs.length ≤ 1000000)
    (hx : ∀ k v, xs[k]? = some v → ∃ p, v = .ref p ∧ H p = some (.tup [A k, B k]))
    (ht : ∀ k, k < xs.length → ∀ H1, Same H H1 → ∀ R : Bool → Hp → Prop, (∀ H2, Same H1 H2 → R true H2) → tt (((wipe σ [i, j]).set i (some (A k))).set j (some (B k))) H1 R)
    (he : ∀ k, k < xs.length → ∀ H1, Same H H1 → ∀ R : VK, (∀ H2, Same H1 H2 → R (f k) H2) → te (((wipe σ [i, j]).set i (some (A k))).set j (some (B k))) H1 R)
    (q : ∀ D H', H D = none → Same H H' → H' D = some (.lst ((List.range xs.length).map f)) → P D H') :
    ∀ D, H D = none → ∃ W : Nat → Nat → Hp → Prop, (∃ m, W 0 m (upd H D (.lst []))) ∧ ∀ k m H, W k m H →
      ((Itl K a).stop k H ∧ P D H) ∨ ((Itl K a).go k H ∧ ∃ Nx : Hp → Prop, (∀ H', Nx H' → ∃ m', m' < m ∧ W (k + 1) m' H') ∧ ∀ x H', (Itl K a).yld k H x H' → (gTup K 2 (gCons (gName i) (gCons (gName j) gNil))) x (wipe σ [i, j]) H' fun s2 H2 => wipe s2 [i, j] = wipe σ [i, j] ∧ tt s2 H2 fun c H3 =>
        if c = true then te s2 H3 fun y H4 => ∃ acc, H4 D = some (.lst acc) ∧ acc.length < sizeLine ∧ Nx (upd H4 D (.lst (acc ++ [y]))) else Nx H3) := by
  intro D hD
  refine lc_it (walk_list (K := K) (a := a) (xs := xs)) (vs := [i, j]) (σ := σ) (g := gTup K 2 (gCons (gName i) (gCons (gName j) gNil))) (tt := tt) (te := te) (Qd := fun H' => P D H') (fun k H' => Same H H' ∧ H' D = some (.lst ((List.range k).map f)))
    ⟨Same.new hD, upd_same⟩ (fun k H' _ p => hs H' p.1) (fun k x H1 H2 hk p y => ?_) (fun H' p => q D H' hD p.1 p.2)
  obtain ⟨p1, p2⟩ := p
  obtain ⟨rfl, hk'⟩ := y
  obtain ⟨pp, rfl, ep⟩ := hx k x hk'
  refine v_gTup2 rfl (p1 _ _ ep) ?_
  refine ⟨?_, ht k hk _ p1 _ fun H3 s3 => ?_⟩
  · show (((((σ.set j none).set i none).set i _).set j _).set j none).set i none = (σ.set j none).set i none
    rw [List.set_set, List.set_set, List.set_comm _ _ hij, List.set_set, List.set_set]
  rw [if_pos rfl]
  refine he k hk _ (p1.trans s3) _ fun H4 s4 => ?_
  refine ⟨_, s4 _ _ (s3 _ _ p2), szlt (by rw [List.length_map, List.length_range]; omega), fun b o hb => ?_, ?_⟩
  · rw [upd_ne (ne_of_none hb hD)]
    exact s4 _ _ (s3 _ _ (p1 _ _ hb))
  · rw [upd_same, List.range_succ, List.map_append]
    rfl
end
end Cw
set_option Elab.async false
set_option linter.all false
set_option maxRecDepth 100000
set_option maxHeartbeats 4000000
/-! ''.join(d): the keys of a dict, one behind another -/
namespace PySem
open Builtin Builtin.Str
section
variable {prog : Program} {w : World} {A : Around} {E : Value → Shared → Prop} {s : Shared} {J : Addr} {fp wr : List Addr} {G : Array GenState → Array GenState → Prop} {m : Nat} {P : Nat → Value → Prop} {Z : Nat → Shared → Prop}
end
section
variable {prog : Program} {w : World} {A : Around} {E : Value → Shared → Prop} {s : Shared} {sep : Str} {t : Tok} {Q : Value → Shared → Prop}
end
end PySem

namespace Cw
open PySem PySem.Spec L2 PyProof.Rows
section
variable {X : Cx} {K : PySem.W.Frag}
end
section
variable {σ : L2.St} {H : Hp} {Q : VK} {te ta : TE} {D : Ends} {K : PySem.W.Frag} {n : Nat} {t : TGs}
theorem s_asgL (q : te σ H fun v H1 => gLst K n t v σ H1 fun σ2 H2 => D.nx σ2 H2) : tAsg te (gLst K n t) D σ H := q
theorem e_MN {C : Addr} {m : Str} {sp : Sp} {n l : Nat} {ss : List Src} {dvs : List V} {E : XK} {t tk : TA} (q : ta σ H fun x H1 => ∃ a dx fs, x = .ref a ∧ H1 a = some (.ins C dx fs) ∧ fs.lookup m = none ∧ t σ H1 fun vs H2 => tk σ H2 fun zs H3 => vs.length = n ∧ zs.length = l ∧ sp (x :: gS ss vs dvs zs) H3 Q E) : tMN C m sp n l ss dvs E ta t tk σ H Q := q
end
end Cw
set_option Elab.async false
set_option linter.all false
set_option maxRecDepth 100000
set_option maxHeartbeats 4000000
/-! xs != ys of lists: their lengths differ, or they hold the same objects -/
namespace Cw
open PySem PySem.Spec L2
end Cw
set_option Elab.async false
set_option linter.all false
set_option maxRecDepth 100000
set_option maxHeartbeats 4000000
/-! [e for i, x in enumerate(list)] -/
namespace Cw
open PySem PySem.Spec L2
section
variable {K : PySem.W.Frag} {σ : L2.St} {H : Hp} {i j : Nat} {tt : TT} {te : TE} {P : Addr → Hp → Prop} {a : Addr}
end
end Cw
set_option Elab.async false
set_option linter.all false
set_option maxRecDepth 100000
set_option maxHeartbeats 4000000
/-! [e for i, x in enumerate(text)] -/
namespace Cw
open PySem PySem.Spec L2
section
variable {σ : L2.St} {H : Hp} {i j : Nat} {tt : TT} {te : TE} {P : Addr → Hp → Prop}
theorem lc_enumS {l : List Nat} (f : Nat → V) (hij : i ≠ j) (hn : l.length ≤ 1000000)
    (ht : ∀ k c, l[k]? = some c → ∀ H1, Same H H1 → ∀ R : Bool → Hp → Prop, (∀ H2, Same H1 H2 → R true H2) → tt (((wipe σ [i, j]).set i (some (.int (k : Nat)))).set j (some (.str (tx [c])))) H1 R)
    (he : ∀ k c, l[k]? = some c → ∀ H1, Same H H1 → ∀ R : VK, (∀ H2, Same H1 H2 → R (f k) H2) → te (((wipe σ [i, j]).set i (some (.int (k : Nat)))).set j (some (.str (tx [c])))) H1 R)
    (q : ∀ D H', H D = none → Same H H' → H' D = some (.lst ((List.range l.length).map f)) → P D H') :
    ∀ D, H D = none → ∃ W : Nat → Nat → Hp → Prop, (∃ m, W 0 m (upd H D (.lst []))) ∧ ∀ k m H, W k m H →
      ((Itx l).stop k H ∧ P D H) ∨ ((Itx l).go k H ∧ ∃ Nx : Hp → Prop, (∀ H', Nx H' → ∃ m', m' < m ∧ W (k + 1) m' H') ∧ ∀ x H', (Itx l).yld k H x H' → (gTup K 2 (gCons (gName i) (gCons (gName j) gNil))) x (wipe σ [i, j]) H' fun s2 H2 => wipe s2 [i, j] = wipe σ [i, j] ∧ tt s2 H2 fun c H3 =>
        if c = true then te s2 H3 fun y H4 => ∃ acc, H4 D = some (.lst acc) ∧ acc.length < sizeLine ∧ Nx (upd H4 D (.lst (acc ++ [y]))) else Nx H3) := by
  intro D hD
  refine lc_it (walk_enumS l) (vs := [i, j]) (σ := σ) (g := gTup K 2 (gCons (gName i) (gCons (gName j) gNil))) (tt := tt) (te := te) (Qd := fun H' => P D H') (fun k H' => Same H H' ∧ H' D = some (.lst ((List.range k).map f)))
    ⟨Same.new hD, upd_same⟩ (fun k H' _ p => trivial) (fun k x H1 H2 hk p y => ?_) (fun H' p => q D H' hD p.1 p.2)
  obtain ⟨p1, p2⟩ := p
  obtain ⟨T, c, rfl, hT, rfl, hx⟩ := y
  refine v_gTup2 rfl upd_same ?_
  have s2 : Same H1 (upd H1 T (.tup [.int (k : Nat), .str (tx [c])])) := Same.new hT
  refine ⟨?_, ht k c hx _ (p1.trans s2) _ fun H3 s3 => ?_⟩
  · show (((((σ.set j none).set i none).set i _).set j _).set j none).set i none = (σ.set j none).set i none
    rw [List.set_set, List.set_set, List.set_comm _ _ hij, List.set_set, List.set_set]
  rw [if_pos rfl]
  refine he k c hx _ ((p1.trans s2).trans s3) _ fun H4 s4 => ?_
  refine ⟨_, s4 _ _ (s3 _ _ (s2 _ _ p2)), szlt (by rw [List.length_map, List.length_range]; omega), fun b o hb => ?_, ?_⟩
  · rw [upd_ne (ne_of_none hb hD)]
    exact s4 _ _ (s3 _ _ (s2 _ _ (p1 _ _ hb)))
  · rw [upd_same, List.range_succ, List.map_append]
    rfl
end
end Cw
set_option Elab.async false
set_option linter.all false
set_option maxRecDepth 100000
set_option maxHeartbeats 4000000
/-! what the top has left, one lemma a kind -/
namespace Cw
open PySem PySem.Spec L2
section
variable {K : PySem.W.Frag} {h : Heap} {mg : Str → Option Value} {x m qual : Str} {st : Stmt} {f C T : Addr} {oc kV dc pm cd ct oc2 : Value} {od an od2 : Option Addr} {sl sl2 : Array (Option Value)}
theorem glob_mk {v : Value} (X : K.In h) (G : h.Ns mainGlobals mg) (a : PySem.W.nsIn K mainGlobals x = some (some v)) : mg x = some v := PySem.W.mg_of X G a
theorem fnAt_mk (X : K.In h) (G : h.Ns mainGlobals mg) (a : PySem.W.nsIn K mainGlobals x = some (some (.ref f))) (l : K.lookup f = some ⟨oc, od, .func (PySem.W.fnOf x x (defArgs st) (defBody st) (defScope st) .none kV dc pm an cd ct), sl⟩)
    (c : PySem.W.codeIn K cd x = true) (k : PySem.W.keepIn K (.ref f) = true) : FnAt K mg x st := ⟨f, _, PySem.W.mg_of X G a, fun_mk (st := st) l c k⟩
theorem mAt_mk (a : PySem.W.findIn K (.ref C) m = some (some (.ref f))) (i : PySem.W.isFn K (.ref f) = true) (l : K.lookup f = some ⟨oc, od, .func (PySem.W.fnOf m qual (defArgs st) (defBody st) (defScope st) .none kV dc pm an cd ct), sl⟩)
    (c : PySem.W.codeIn K cd qual = true) (k : PySem.W.keepIn K (.ref f) = true) : MAt K C m qual st := ⟨f, _, a, i, fun_mk (st := st) l c k⟩
theorem mAtD_mk {arr : Array Value} {n : Nat} {dvs : List V} (a : PySem.W.findIn K (.ref C) m = some (some (.ref f))) (i : PySem.W.isFn K (.ref f) = true) (l : K.lookup f = some ⟨oc, od, .func (PySem.W.fnOf m qual (defArgs st) (defBody st) (defScope st) (.ref T) kV dc pm an cd ct), sl⟩)
    (c : PySem.W.codeIn K cd qual = true) (k : PySem.W.keepIn K (.ref f) = true) (t : K.lookup T = some ⟨oc2, od2, .seq arr n, sl2⟩) (hv : Vals dvs arr.toList) (hd : dvs ≠ []) : MAtD K C m qual st dvs :=
  ⟨f, _, a, i, ⟨⟨oc, od, .ref T, kV, dc, pm, an, cd, ct, sl, rfl, l, c, .inr ⟨hd, T, _, arr.toList, n, rfl, t, rfl, hv⟩, .inl rfl⟩, k⟩⟩
theorem cls_mk (X : K.In h) (G : h.Ns mainGlobals mg) (a : PySem.W.nsIn K mainGlobals x = some (some (.ref C))) (pg : PySem.W.plainGet K C Str.empty = true) (hd : PySem.W.hasDictIn K C = true) (po : PySem.W.plainOver K C = true)
    (sa : PySem.W.findIn K (.ref C) "__setattr__" = some (some (.builtin "object.__setattr__"))) (mk : PySem.W.makesIn K C = true) (kc : PySem.W.keepIn K (.ref C) = true)
    (ha : PySem.W.findIn K (.ref C) "__class__" = some (some (.builtin "object.__class__"))) (hn : PySem.W.specialIn K (.builtin "object.__class__") "__get__" = some (some (.builtin "getset_descriptor.__get__"))) (ht : PySem.W.takesIn K (.builtin "object.__class__") = some true)
    (hm : PySem.W.mroIn K C (.type "object") = some true) (ob : PySem.W.subIn K (.ref C) (.type "object") = some true) (ne : PySem.W.findIn K (.ref C) "__ne__" = some (some (.builtin "object.__ne__"))) : ClsF K mg x C :=
  ⟨PySem.W.mg_of X G a, ⟨pg, hd, po, sa⟩, mk, kc, ha, hn, ht, hm, ob, ne⟩
theorem exc_mk (X : K.In h) (G : h.Ns mainGlobals mg) (a : PySem.W.nsIn K mainGlobals x = some (some (.ref C))) (e : PySem.W.excIn K C [.type "ValueError", .type "Exception", .type "BaseException", .type "object"] "ValueError.__new__" = true) (k : PySem.W.keepIn K (.ref C) = true) (ty : PySem.W.typeIn K (.ref C) = some (.type "type"))
    (hg : PySem.W.findIn K (.ref C) "__getattribute__" = some (some (.builtin "BaseException.__getattribute__"))) (hk : PySem.W.findIn K (.ref C) "__getattr__" = some none) (hs : PySem.W.subIn K (.ref C) (.type "BaseException") = some true) (hd : PySem.W.hasDictIn K C = true)
    (ha : PySem.W.findIn K (.ref C) "__class__" = some (some (.builtin "object.__class__"))) (hn : PySem.W.specialIn K (.builtin "object.__class__") "__get__" = some (some (.builtin "getset_descriptor.__get__"))) (ht : PySem.W.takesIn K (.builtin "object.__class__") = some true) (hm : PySem.W.mroIn K C (.type "object") = some true) : ExcF K mg x C :=
  ⟨PySem.W.mg_of X G a, e, k, ty, ⟨hg, hk, hs, hd, ha, hn, ht, hm⟩⟩
end
end Cw
set_option Elab.async false
set_option linter.all false
set_option maxRecDepth 100000
set_option maxHeartbeats 4000000
/-! an own exception with fields: what the top has left of it -/
namespace Cw
open PySem PySem.Spec L2
theorem exE_mk {P : Program} {K : PySem.W.Frag} {h : Heap} {mg : Str → Option Value} {x qual nm q : Str} {st : Stmt} {C N f cda cc : Addr} {bs bm sub : List Value} {sn : List Str} {ab : Bool} {col : Option Bool} {dd : Option Addr} {k0 k1 k2 k3 k5 : Option Value}
    {oc kV doc pm ct ccl cl : Value} {od an cdd cld : Option Addr} {sl ccs csl : Array (Option Value)} {vs : Array Value} {file : Str} {tf : Tok} {ar : Arg}
    (X : K.In h) (G : h.Ns mainGlobals mg) (a : PySem.W.nsIn K mainGlobals x = some (some (.ref C)))
    (lk : K.lookup C = some (excClassObj nm q C N bs bm true sn sub ab col dd k0 k1 k2 k3 k5 "ValueError.__new__")) (rv : PySem.HandSPX.refsVE bm = true)
    (sa : PySem.W.findIn K (.ref C) "__setattr__" = some (some (.builtin "object.__setattr__"))) (hs : PySem.W.subIn K (.ref C) (.type "BaseException") = some true) (ty : PySem.W.typeIn K (.ref C) = some (.type "type")) (k : PySem.W.keepIn K (.ref C) = true)
    (hg : PySem.W.findIn K (.ref C) "__getattribute__" = some (some (.builtin "BaseException.__getattribute__"))) (hk : PySem.W.findIn K (.ref C) "__getattr__" = some none) (hd : PySem.W.hasDictIn K C = true)
    (ha : PySem.W.findIn K (.ref C) "__class__" = some (some (.builtin "object.__class__"))) (hn : PySem.W.specialIn K (.builtin "object.__class__") "__get__" = some (some (.builtin "getset_descriptor.__get__"))) (ht : PySem.W.takesIn K (.builtin "object.__class__") = some true) (hm : PySem.W.mroIn K C (.type "object") = some true)
    (fi : PySem.W.findIn K (.ref C) "__init__" = some (some (.ref f))) (ti : PySem.W.typeIn K (.ref f) = some (.type "function"))
    (lf : K.lookup f = some ⟨oc, od, .func (PySem.W.fnX "__init__" qual (defArgs st) (defBody st) (defScope st) [(("__class__" : Str), cc)] .none kV doc pm an (.ref cda) ct), sl⟩)
    (cd : PySem.W.codeIn K (.ref cda) qual = true) (par : ((defArgs st).posonlyargs ++ (defArgs st).args).head? = some ar) (par2 : ar.arg = "self")
    (lc : K.lookup cda = some ⟨ccl, cdd, .fields vs, ccs⟩) (v2 : vs[2]? = some (.str file tf)) (fe : ((P.main.file : Str) == file) = true) (top : (P.main.scope.names.lookup ("super" : Str)).isSome = false)
    (lcc : K.lookup cc = some ⟨cl, cld, .cell (some (.ref C)), csl⟩) (op : PySem.W.nsIn K PySem.cStatics "thirdparty.any" = some none) (up : PySem.W.ks_superIn K C C "__init__" = some (some (.builtin "ValueError.__init__"))) : ExcE P K mg x C qual st :=
  ⟨PySem.W.mg_of X G a, ⟨⟨_, _, _, _, _, _, _, _, _, _, _, _, _, _, _, lk, rv⟩, sa, hs, ty, k⟩, ⟨hg, hk, hs, hd⟩, ⟨hg, hk, hs, hd, ha, hn, ht, hm⟩, f, cda, cc, _, kV, doc, pm, an, ct, fi, ti, rfl, cd, ⟨_, _, _, lf⟩, ⟨ar, par, par2⟩, ⟨_, _, _, _, _, _, lc, v2, fe⟩, top, ⟨_, _, _, lcc⟩, op, up⟩
end Cw
set_option Elab.async false
set_option linter.all false
set_option maxRecDepth 100000
set_option maxHeartbeats 4000000
/-! the end of a law whose defs make lambdas -/
namespace Cw
open PySem PySem.Spec L2
section
variable {K : PySem.W.Frag} {h : Heap} {mg : Str → Option Value} {x qual : Str} {f fa c : Addr} {st : Stmt} {oc kV dc pm ct : Value} {od an : Option Addr} {sl : Array (Option Value)}
theorem funC1_mk (X : K.In h) (G : h.Ns mainGlobals mg) (hm : mg x = some (.ref fa)) (a : PySem.W.nsIn K mainGlobals x = some (some (.ref f))) (l : K.lookup f = some ⟨oc, od, .func (PySem.W.fnOf x x (defArgs st) (defBody st) (defScope st) .none kV dc pm an (.ref c) ct), sl⟩)
    (cd : PySem.W.codeIn K (.ref c) x = true) (k : PySem.W.keepIn K (.ref f) = true) : FunC K x x st fa (PySem.W.fnOf x x (defArgs st) (defBody st) (defScope st) .none kV dc pm an (.ref c) ct) c := by
  have e := hm.symm.trans (PySem.W.mg_of X G a)
  cases e
  exact ⟨⟨oc, od, kV, dc, pm, an, ct, sl, rfl, l, cd⟩, k⟩
end
end Cw
set_option Elab.async false
set_option linter.all false
set_option maxRecDepth 100000
set_option maxHeartbeats 4000000
/-! what the top has left: static methods and properties -/
namespace Cw
open PySem PySem.Spec L2
section
variable {K : PySem.W.Frag} {m qual : Str} {st : Stmt} {C p g : Addr} {rest : List Value} {oc kV dc pm cd ct : Value} {od an : Option Addr} {sl : Array (Option Value)}
end
end Cw
set_option Elab.async false
set_option linter.all false
set_option maxRecDepth 100000
set_option maxHeartbeats 4000000
/-! a loop over a text whose letters go on to text.replace: the letter's token is carried in its name -/
namespace Cw
open PySem PySem.Spec L2
section
variable {X : Cx} {pins : List (Addr × Obj)} {σ : St} {H : Hp} {s : Shared}
/-- the letter c stands under the name x, with the token u -/
def RawAt (X : Cx) (x : Str) (c : Nat) (u : Tok) (s : Shared) : Prop := ∃ m, s.heap.Ns X.env.locals m ∧ m x = some (.str (tx [c]) u) ∧ u ≠ 0 ∧ u < s.toks
end
/-! ### judgements that carry the letter -/
def PSsR (X : Cx) (ix : Nat) (x : Str) (st : List Stmt) (t : TS) : Prop :=
  ∀ (pins : List (Addr × Obj)) (s : Shared) (σ : St) (H : Hp) (D : Ends) (c : Nat) (u : Tok), Inv X pins σ H s → σ[ix]? = some (some (.str (tx [c]))) → RawAt X x c u s → t D σ H → wpAny (model X.prog X.w) X.A (execs st X.env) (SP X pins D) X.xe s
section
variable {X : Cx} {ix : Nat} {x : Str} {rest : List Stmt} {u : TS}
theorem PSsR.of (h : PSs X rest u) : PSsR X ix x rest u := fun pins s σ H D _ _ I _ _ q => h.run pins s σ H D I q
end
end Cw
set_option Elab.async false
set_option linter.all false
set_option maxRecDepth 100000
set_option maxHeartbeats 4000000
/-! text.replace from behind, of raw arguments; `letter in text`, the letter's token carried -/
namespace Cw
open PySem PySem.Spec L2 PyProof.Rows Builtin Builtin.Str
theorem RawAt.push {X : Cx} {x : Str} {c : Nat} {u : Tok} {s : Shared} (h : RawAt X x c u s) (o : Obj) {k : Nat} (hk : s.toks ≤ k) : RawAt X x c u { s with heap := s.heap.push o, toks := k } := by
  obtain ⟨m, ⟨ob, es, ep, ho, r⟩, hx, h0, ht⟩ := h
  exact ⟨m, ⟨ob, es, ep, Heap.get?_push_of_some _ ho, r⟩, hx, h0, Nat.lt_of_lt_of_le ht hk⟩
/-! ### def without_last(way, kind): return without_first(way[::-1], kind)[::-1] -/
section
variable {X : Cx} {ix : Nat} {x : Str} {rest : List Stmt} {u : TS}
end
end Cw
set_option Elab.async false
set_option linter.all false
set_option maxRecDepth 100000
set_option maxHeartbeats 4000000
/-! a call behind which a token is out; a loop over its text, the letter's token carried -/
namespace Cw
open PySem PySem.Spec L2 PyProof.Rows Builtin Builtin.Str
/-! ### def last_kinds(plan, way): return first_kinds(plan, way[::-1]) -/
end Cw
set_option Elab.async false
set_option linter.all false
set_option maxRecDepth 100000
set_option maxHeartbeats 4000000
/-! defs that are called where no repr is under way; str([bool, bool]) -/
namespace Cw
open PySem PySem.Spec L2 PyProof.Rows
/-- a promise for calls where no repr is under way -/
structure FnOkG (P : Program) (w : World) (K : PySem.W.Frag) (mg : Str → Option Value) (base : Heap) (k : Nat) (f : Addr) (fd : FuncData) (ps : List Str) (sp : Sp) : Prop where
  len : ∀ vs H Q E, sp vs H Q E → vs.length = ps.length
  run : ∀ (A : Around) (outer : List Env) (s : Shared) (H : Hp) (args : Args) (us : List Value) (vs : List V) (Q : VK), A.guards = some [] → Room k A → Env0 P w K mg base A outer s H → BindsTo s fd args (ps.zip us) → Vals vs us → sp vs H Q E0 →
    codeAny (model P w) A (.call (.ref f) args) (CR CX0 outer P w H s Q E0) s
/-- a def of the module keeps a promise where no repr is under way -/
structure DefG (P : Program) (w : World) (K : PySem.W.Frag) (mg : Str → Option Value) (base : Heap) (k : Nat) (x : Str) (ps : List Str) (sp : Sp) : Prop where
  ex : ∃ f fd, mg x = some (.ref f) ∧ PySem.W.keepIn K (.ref f) = true ∧ Bd K f fd ps ∧ FnOkG P w K mg base k f fd ps sp
theorem DefG.mono {P : Program} {w : World} {K : PySem.W.Frag} {mg : Str → Option Value} {base : Heap} {j k : Nat} {x : Str} {ps : List Str} {sp : Sp} (D : DefG P w K mg base j x ps sp) (h : j ≤ k) : DefG P w K mg base k x ps sp := by
  obtain ⟨f, fd, a, b, c, d⟩ := D.ex
  exact ⟨f, fd, a, b, c, d.len, fun A outer s H args us vs Q hg hr => d.run A outer s H args us vs Q hg (hr.mono h)⟩
/-! ### str([bool, bool]) -/
end Cw
set_option Elab.async false
set_option linter.all false
set_option maxRecDepth 100000
set_option maxHeartbeats 4000000
/-! the end of a law that asks where no repr is under way; any number of tables of code -/
namespace Cw
open PySem PySem.Spec PyProof.Rows L2
/-- the script's list as the caller left it -/
abbrev scO (vs : List Value) : Obj := { cls := .type "list", data := .seq vs.toArray }
/-- an empty table -/
abbrev noO : Obj := { cls := .none, data := .fields #[] }
open Classical in
/-- what is tracked at the start: the tables, and the script unless the module has it -/
noncomputable def sH (K : PySem.W.Frag) (a : Addr) (vs : List Value) (ns : List Int) (Ts : List Addr) : Hp := fun b =>
  if b ∈ Ts then some (.tbl #[]) else if b = a ∧ K.lookup a = none then some (.frz (scO vs) (.lst (ns.map V.int))) else none
/-- the state in which the law is called -/
structure Beg (P : Program) (w : World) (K : PySem.W.Frag) (mg : Str → Option Value) (s : Shared) (a : Addr) (vs : List Value) (ns : List Int) (Ts : List Addr) : Prop where
  kin : K.In s.heap
  gl : s.heap.Ns mainGlobals mg
  bl : ∃ mb, s.heap.Ns builtinsNs mb ∧ ∀ x : Str, x ≠ "__name__" → mb x = bootBuiltins x
  lim : s.heap.NoLimit
  ge : s.gens = #[]
  sc : s.heap.get? a = some (scO vs)
  iz : IntsAre vs ns
  few : ns.length ≤ sizeLine
  tb : ∀ t ∈ Ts, s.heap.get? t = some noO
  nt : ∀ t ∈ Ts, K.lookup t = none
section
variable {P : Program} {w : World} {K : PySem.W.Frag} {mg : Str → Option Value} {s : Shared} {a : Addr} {vs : List Value} {ns : List Int} {Ts : List Addr}
theorem sH_tab {b : Addr} (h : b ∈ Ts) : sH K a vs ns Ts b = some (.tbl #[]) := if_pos h
theorem sH_some {b : Addr} {u : HO} (h : sH K a vs ns Ts b = some u) : (b ∈ Ts ∧ u = .tbl #[]) ∨ (b = a ∧ K.lookup a = none ∧ u = .frz (scO vs) (.lst (ns.map V.int))) := by
  by_cases h1 : b ∈ Ts
  · exact .inl ⟨h1, (Option.some.inj ((sH_tab h1).symm.trans h)).symm⟩
  · by_cases h2 : b = a ∧ K.lookup a = none
    · exact .inr ⟨h2.1, h2.2, (Option.some.inj (((if_neg h1).trans (if_pos h2)).symm.trans h)).symm⟩
    · cases ((if_neg h1).trans (if_neg h2)).symm.trans h
namespace Beg
variable (B : Beg P w K mg s a vs ns Ts)
include B
theorem ant : ¬ a ∈ Ts := fun h => by
  have e := (B.tb a h).symm.trans B.sc
  injection e with e
  cases congrArg Obj.cls e
/-- other objects are not tracked -/
theorem off {b : Addr} {o : Obj} (e : s.heap.get? b = some o) (h1 : o ≠ noO) (h2 : o ≠ scO vs) : sH K a vs ns Ts b = none := by
  match h : sH K a vs ns Ts b with
  | none => rfl
  | some u =>
    rcases sH_some h with ⟨hb, _⟩ | ⟨rfl, _⟩
    · exact absurd (Option.some.inj (e.symm.trans (B.tb b hb))) h1
    · exact absurd (Option.some.inj (e.symm.trans B.sc)) h2
theorem stays {b : Addr} {o : Obj} (e : s.heap.get? b = some o) (h1 : o ≠ noO) (h2 : o ≠ scO vs) : (hidT s.heap (sH K a vs ns Ts)).get? b = some o := hidT_get e (B.off e h1 h2)
theorem kin0 : K.In (hidT s.heap (sH K a vs ns Ts)) := fun b o e => by
  refine hidT_get (B.kin b o e) ?_
  match h : sH K a vs ns Ts b with
  | none => rfl
  | some u =>
    rcases sH_some h with ⟨hb, _⟩ | ⟨rfl, k, _⟩
    · cases (B.nt b hb).symm.trans e
    · cases k.symm.trans e
theorem ns0 {b : Addr} {m : Str → Option Value} (h : s.heap.Ns b m) : (hidT s.heap (sH K a vs ns Ts)).Ns b m := by
  obtain ⟨o, es, ep, e, d, r⟩ := h
  exact ⟨o, es, ep, B.stays e (fun z => by rw [z] at d; cases d) (fun z => by rw [z] at d; cases d), d, r⟩
theorem mod0 : Mod K mg (hidT s.heap (sH K a vs ns Ts)) := by
  obtain ⟨mb, h1, h2⟩ := B.bl
  obtain ⟨mc, h3, h4⟩ := B.lim
  exact ⟨B.kin0, B.ns0 B.gl, ⟨mb, B.ns0 h1, h2⟩, ⟨mc, B.ns0 h3, h4⟩⟩
theorem hok : HOk P w (sH K a vs ns Ts) s.heap := fun b u h => by
  rcases sH_some h with ⟨hb, rfl⟩ | ⟨rfl, _, rfl⟩
  · exact B.tb b hb
  · exact ⟨B.sc, (List.length_map (f := V.int) (as := ns)).symm ▸ B.few, vs, _, vals_ints B.iz, B.sc⟩
theorem script : SqL K (sH K a vs ns Ts) a (ns.map V.int) := by
  match h : K.lookup a with
  | none => exact .inl (.inr ⟨scO vs, (if_neg B.ant).trans (if_pos ⟨rfl, h⟩)⟩)
  | some o =>
    have e := Option.some.inj ((B.kin a o h).symm.trans B.sc)
    subst e
    refine .inr ⟨_, vs.toArray, _, h, rfl, rfl, rfl, ?_, ?_⟩
    · rw [List.size_toArray, B.iz.length]
      exact B.few
    · simpa using vals_ints B.iz
theorem env : Env0 P w K mg (hidT s.heap (sH K a vs ns Ts)) callerA [] s (sH K a vs ns Ts) where
  frames := rfl
  mod := B.mod0
  bs _ _ h := of_hidT h
  bsz := by rw [hidT_size]; exact Nat.le_refl _
  funs := trivial
  frf _ h := nomatch h
  hok := B.hok
  bare := .of_eq B.ge
/-- a code object and its table -/
theorem tabB {c t : Addr} (ht : t ∈ Ts) (hc : PySem.W.CodeHd s.heap c t) (hbm : ∃ (bm : Addr) (ob : Obj), mg "__builtins__" = some (.ref bm) ∧ bm ≠ builtinsNs ∧ s.heap.get? bm = some ob ∧ ob.cls = .type "module" ∧ ob.dict = some builtinsNs ∧ ob.data = .plain) :
    LamX.TabB (hidT s.heap (sH K a vs ns Ts)) mg c t := by
  have et := B.tb t ht
  obtain ⟨og, es, ep, eg, dg, _⟩ := B.gl
  refine ⟨?_, ?_, fun z => ?_⟩
  · obtain ⟨o, us, file, tf, flags, tg, inF, text, tt, e1, r1, r2⟩ := hc
    refine ⟨o, us, file, tf, flags, tg, inF, text, tt, B.stays e1 (fun z => ?_) (fun z => ?_), r1, r2⟩
    · rw [z] at r1
      cases r1
    · rw [z] at r1
      injection r1 with r1
      exact absurd r1 (by decide)
  · obtain ⟨bm, ob, b1, b2, b3, b4, b5, b6⟩ := hbm
    refine ⟨bm, ob, b1, b2, fun z => ?_, fun z => ?_, B.stays b3 (fun z => ?_) (fun z => ?_), b4, b5, b6⟩
    · rw [z] at b3
      rw [← Option.some.inj (eg.symm.trans b3), dg] at b6
      cases b6
    · rw [z] at b3
      rw [← Option.some.inj (et.symm.trans b3)] at b4
      cases b4
    · rw [z] at b4
      cases b4
    · rw [z] at b4
      injection b4 with b4
      exact absurd b4 (by decide)
  · rw [z] at eg
    rw [← Option.some.inj (et.symm.trans eg)] at dg
    cases dg
/-- what the call leaves -/
theorem old {s' : Shared} {H' : Hp} (un : Un (frs []) [] (sH K a vs ns Ts) H' s.heap s'.heap) (hk : HOk P w H' s'.heap) (ct : ∀ t ∈ Ts, isCodeTable s.heap t) : OldK s.heap s'.heap := by
  have rest : ∀ b o, ¬ b ∈ Ts → s.heap.get? b = some o → s'.heap.get? b = some o := fun b o nb e => by
    match h : sH K a vs ns Ts b with
    | none => exact un.keep b o e h (fun z => nomatch z) (fun z => nomatch z)
    | some u =>
      rcases sH_some h with ⟨hb, _⟩ | ⟨rfl, _, rfl⟩
      · exact absurd hb nb
      · obtain ⟨z, _⟩ := hk b _ (un.frzs b _ _ h)
        rw [← Option.some.inj (B.sc.symm.trans e)]
        exact z
  have tabs : ∀ t ∈ Ts, ∃ more : Array Value, s'.heap.get? t = some { cls := .none, data := .fields more } := fun t ht => by
    obtain ⟨more, z⟩ := un.tbls t #[] (sH_tab ht)
    exact ⟨_, hk t _ z⟩
  constructor
  · intro b o e
    by_cases hb : b ∈ Ts
    · obtain ⟨more, hm⟩ := tabs b hb
      obtain rfl := Option.some.inj (e.symm.trans (B.tb b hb))
      refine .inr (.inl ⟨ct b hb, rfl, #[], more, rfl, ?_⟩)
      rw [Array.empty_append]
      exact hm
    · exact .inl (rest b o hb e)
  · intro b o e
    by_cases hb : b ∈ Ts
    · obtain ⟨more, hm⟩ := tabs b hb
      exact ⟨_, hm⟩
    · exact ⟨_, rest b o hb e⟩
/-- the call -/
theorem call {k : Nat} {fa : Addr} {fd : FuncData} {x : Str} {sp : Sp} (hr : Room k callerA) (F : FnOkG P w K mg (hidT s.heap (sH K a vs ns Ts)) k fa fd [x] sp) (hb : BindsTo s fd ⟨[.ref a], []⟩ [(x, .ref a)]) (ct : ∀ t ∈ Ts, isCodeTable s.heap t)
    (hsp : sp [.ref a] (sH K a vs ns Ts) (fun v _ => v = .bl true) E0) : codeAny (model P w) callerA (.call (.ref fa) ⟨[.ref a], []⟩) (fun r s' => (r = .ok (.ret (.bool true)) ∧ OldK s.heap s'.heap) ∧ s'.os = s.os ∧ AllBare s'.gens) s := by
  refine codeAny_mono (F.run callerA [] s (sH K a vs ns Ts) _ [.ref a] [.ref a] (fun v _ => v = .bl true) rfl hr B.env hb (.cons rfl .nil) hsp) fun r s' h => ?_
  match r, h with
  | .ok (.ret u), ⟨v, H', h1, h2, h3, h4, h5, h6⟩ =>
    have h6 : v = .bl true := h6
    rw [h6] at h5
    have h5 : u = .bool true := h5
    rw [h5]
    exact ⟨⟨rfl, B.old h3 h4 ct⟩, h1, h2⟩
  | .error e, h => exact False.elim h
end Beg
end
theorem tabs_of {H : Hp} {T : List (Addr × Str)} (h : ∀ p ∈ T, H p.1 = some (.tbl #[])) : LamX.Tabs T H := fun p hp => ⟨#[], h p hp, trivial, fun pos cv z => by cases z⟩
/-- the law's end with tables, its promise kept where no repr is under way -/
theorem end_walkG {l : PySem.W.OpenLaw} {q : Program} {loose : List Str} {XP : (Str → Option Value) → Heap → Prop} {YP : World → Heap → Prop} {d : DefRec} {K : Params → PySem.W.Frag} {k : Nat} {x : Str} {Ts : List Addr} {sp : PySem.W.Frag → Sp} (hn : l.most = some 63) (hdf : d.params.defaults = []) (hr : Room k callerA)
    (hY : ∀ (w : World) (h : Heap), YP w h → (K w.params).In h) (hT : ∀ (w : World) (h : Heap), YP w h → ∀ t ∈ Ts, h.get? t = some noO) (nT : ∀ w : World, ∀ t ∈ Ts, (K w.params).lookup t = none)
    (hsp : ∀ (K : PySem.W.Frag) (H : Hp) (a : Addr) (ns : List Int), ns.length ≤ 63 → (∀ t ∈ Ts, H t = some (.tbl #[])) → SqL K H a (ns.map V.int) → sp K [.ref a] H (fun v _ => v = .bl true) E0)
    (F : ∀ (w : World) (mg : Str → Option Value) (fa : Addr) (h : Heap), (K w.params).In h → h.Ns mainGlobals mg → mg d.name = some (.ref fa) →
      ∃ (fd : FuncData) (cs : Addr → Addr), (∀ t ∈ Ts, PySem.W.codeHdIn (K w.params) (cs t) t = true) ∧ (∀ (s : Shared) (u : Value), BindsTo s fd ⟨[u], []⟩ [(x, u)]) ∧ ∀ base : Heap, (K w.params).In base → base.Ns mainGlobals mg → (∀ t ∈ Ts, LamX.TabB base mg (cs t) t) → FnOkG l.prog w (K w.params) mg base k fa fd [x] (sp (K w.params))) :
    PySem.W.WalkO q loose XP YP l.row.toRowW d [] (fun f vs => PySem.call f vs) := by
  refine Att.attach_callB hn hdf fun w _ s₁ mg mb fa _ _ _ _ a vs ns G Y _ _ _ hmg hobj iz hlen _ hg => ?_
  have KX := hY w _ Y
  obtain ⟨fd, cs, hc, hb, hF⟩ := F w mg fa _ KX G.T.g hmg
  have B : Beg l.prog w (K w.params) mg s₁ a vs ns Ts := ⟨KX, G.T.g, ⟨mb, G.T.b, G.T.builtins⟩, G.T.nolimit, hg, hobj, iz, Nat.le_trans hlen (by decide), hT w _ Y, nT w⟩
  have hd : ∀ t ∈ Ts, PySem.W.CodeHd s₁.heap (cs t) t := fun t ht => PySem.W.codeHd_of_K KX (hc t ht)
  refine codeAny_mono (B.call hr (hF _ B.kin0 (B.ns0 G.T.g) fun t ht => B.tabB ht (hd t ht) G.T.bmain) (hb s₁ _) (fun t ht => ((hd t ht).tab (B.tb t ht)).isCodeTable) (hsp _ _ a ns hlen (fun t ht => sH_tab ht) B.script)) fun r s' h => ?_
  obtain ⟨⟨h1, h2⟩, h3, h4⟩ := h
  exact ⟨h1, h2, h3, h4⟩
/-- one table -/
theorem end_walkG1 {l : PySem.W.OpenLaw} {q : Program} {loose : List Str} {XP : (Str → Option Value) → Heap → Prop} {YP : World → Heap → Prop} {d : DefRec} {K : Params → PySem.W.Frag} {k : Nat} {x : Str} {t : Addr} {sp : PySem.W.Frag → Sp} (hn : l.most = some 63) (hdf : d.params.defaults = []) (hr : Room k callerA)
    (hY : ∀ (w : World) (h : Heap), YP w h → (K w.params).In h) (hT : ∀ (w : World) (h : Heap), YP w h → h.get? t = some noO) (nT : ∀ w : World, (K w.params).lookup t = none)
    (hsp : ∀ (K : PySem.W.Frag) (H : Hp) (a : Addr) (ns : List Int), ns.length ≤ 63 → H t = some (.tbl #[]) → SqL K H a (ns.map V.int) → sp K [.ref a] H (fun v _ => v = .bl true) E0)
    (F : ∀ (w : World) (mg : Str → Option Value) (fa : Addr) (h : Heap), (K w.params).In h → h.Ns mainGlobals mg → mg d.name = some (.ref fa) →
      ∃ (fd : FuncData) (c : Addr), PySem.W.codeHdIn (K w.params) c t = true ∧ (∀ (s : Shared) (u : Value), BindsTo s fd ⟨[u], []⟩ [(x, u)]) ∧ ∀ base : Heap, (K w.params).In base → base.Ns mainGlobals mg → LamX.TabB base mg c t → FnOkG l.prog w (K w.params) mg base k fa fd [x] (sp (K w.params))) :
    PySem.W.WalkO q loose XP YP l.row.toRowW d [] (fun f vs => PySem.call f vs) := by
  have one : ∀ {M : Addr → Prop}, M t → ∀ z ∈ [t], M z := fun h z hz => by rw [List.mem_singleton.mp hz]; exact h
  refine end_walkG (x := x) (Ts := [t]) hn hdf hr hY (fun w h Y => one (hT w h Y)) (fun w => one (nT w)) (fun K H a ns hl ht => hsp K H a ns hl (ht _ (.head _))) fun w mg fa h KX G hm => ?_
  obtain ⟨fd, c, h1, h2, h3⟩ := F w mg fa h KX G hm
  exact ⟨fd, fun _ => c, one h1, h2, fun base a b z => h3 base a b (z _ (.head _))⟩
end Cw
set_option Elab.async false
set_option linter.all false
set_option maxRecDepth 100000
set_option maxHeartbeats 4000000
/-! CwHeadK: the head with the law's heap told, by one run of the top over the tree -/
namespace CwTop
open PySem PySem.W PySem.Calls PyProof.Rows
/-- a hook named -/
def TagH (_ : Hook) : Prop := True
end CwTop
set_option Elab.async false
set_option linter.all false
set_option maxRecDepth 100000
set_option maxHeartbeats 4000000
/-! CwHeadKm: as CwHeadK, the tables of the code objects told too -/
namespace CwTop
open PySem PySem.W PySem.Calls PyProof.Rows
theorem headKm {r : OpenRow} {q : Program} {K : Params → PySem.W.Frag} {as ts : List Addr} {ek : ∀ P, as = (K P).map (·.1)} {M : Nat} {loose : List PySem.Str} {d : DefRec} {kwd : List (PySem.Str × PySem.Expr)} (_ : TagH (kmHook K as ek ts))
    (e : opening r.prog = plainProg r.prog.main.scope.names) (f : ∀ s, fenceModules? r.prog s = some s) (run : ∀ w, HandSHeadRun.RunEq r q (kmHook K as ek ts) (fun s => (as.map (HandSHeadRun.getT s), ts.map (HandSHeadRun.getT s))) M loose w)
    (hdef : defOf q r.name = some (d, kwd)) (hp : r.prog.theDef r.name = some (d.params, d.body, d.scope)) (hk : kwWritten? d.params.kwonlyargs d.params.kw_defaults = some kwd)
    (hwr : (!r.writes || r.records.isEmpty) = true) (k1 : r.wellSaid = true) (ok : (chainsOk q && opensWell r.prog && (frees r.toRowW && r.within.isEmpty)) = true) (hb : r.prog.bare) (hw : r.toRowW.promised)
    (call : WalkO q loose (XL q []) (kmHook K as ek ts).says r.toRowW d kwd fun f vs => PySem.call f vs) : r.Holds := by
  have ho : ∀ (s : SharedT) (l : List Addr), l.map (HandSHeadRun.getT s) = l.map s.abs.heap.get? := fun s l => List.map_congr_left fun a _ => HandSHeadRun.getT_eq s a
  exact HandSHeadRun.head_any (H := kmHook K as ek ts) (ob := fun s => (as.map (HandSHeadRun.getT s), ts.map (HandSHeadRun.getT s))) (fun s => by rw [ho s as, ho s ts]; rfl) e f run hdef hp hk hwr k1 ok hb hw call
end CwTop
set_option Elab.async false
set_option linter.all false
set_option maxRecDepth 100000
namespace CwTop
open PySem PySem.W PySem.Calls PyProof.Rows
abbrev topRow : OpenRow := OpenLaw.row PySem.Challenge.rw_crosswalls_k03_renamings_of_plans
abbrev topView : Program := view topRow.prog [topRow.prog.main.body.length - 1]
def topLoose : List PySem.Str := topRow.prog.boundNames.filter fun x => x != topRow.name
end CwTop
open PySem PySem.W PySem.Calls PyProof.Rows in
local macro_rules | `(tactic| o_head $H) => `(tactic| refine CwTop.headKm (r := CwTop.topRow) (q := CwTop.topView) (M := 9000) (loose := CwTop.topLoose) (show CwTop.TagH $H from trivial) (by kernel_rfl) (fun s => by kernel_rfl) (fun w => by intro os; kernel_rfl) (by rfl) (by rfl) (by rfl) (by rfl) (by first | assumption | decide +kernel) (by decide +kernel) ⟨rfl, rfl, rfl, rfl, rfl, by decide +kernel⟩ ?hw ?hc)
open PySem PySem.W PyProof.Rows in
set_option maxHeartbeats 0 in
open_top Cw.headOf for PySem.Challenge.rw_crosswalls_k03_renamings_of_plans
set_option Elab.async false
set_option linter.all false
set_option maxRecDepth 100000
set_option maxHeartbeats 4000000
namespace Cw
open PySem PySem.Spec L2
local macro_rules | `(tactic| walk_at "side") => `(tactic| first | omega | assumption | (dsimp only; omega) | (unfold CMul; omega) | exact ⟨by decide, by decide, by decide⟩ | exact wdiv (by first | assumption | decide | omega) (by first | assumption | decide | omega) | (simp only [List.length_cons, List.length_nil]; omega) | rfl)
local macro_rules | `(tactic| walk_at "hl") => `(tactic| first | assumption | exact upd_same | ((refine Cw.Same.at (by assumption) ?_); walk_at "hl") | ((refine Cw.Keep.at (by assumption) ?_ (by assumption)); walk_at "hl"))
local macro_rules | `(tactic| walk_at "st") => `(tactic| first
  | (with_reducible refine s_seq ?_) | (with_reducible refine g_nm ?_) | (with_reducible refine s_next ?_) | (with_reducible refine s_set ?_) | (with_reducible refine s_drop ?_) | (with_reducible refine s_ret ?_) | (with_reducible refine s_if ?_)
  | ((with_reducible refine e_varG ?_); refine ⟨_, (by with_unfolding_all rfl), ?_⟩) | (with_reducible refine e_c ?_) | (with_reducible refine e_op ?_) | (with_reducible refine e_un ?_)
  | (with_reducible refine e_cons ?_) | (with_reducible refine e_nil ?_) | (with_reducible refine e_cb ?_) | (with_reducible refine e_call ?_) | (with_reducible refine e_md ?_)
  | (with_reducible refine t_test ?_) | (with_reducible refine t_B ?_) | (with_reducible refine t_and ?_) | (with_reducible refine t_or ?_) | (with_reducible refine t_not ?_)
  | (with_reducible refine e_andV ?_) | (with_reducible refine e_orV ?_) | (with_reducible refine e_notV ?_) | (with_reducible refine e_if ?_)
  | (with_reducible refine v_I0 ?_) | ((with_reducible refine v_I ?c ?_); try (case c => walk_at "side")) | (with_reducible refine v_bl ?_)
  | ((with_reducible refine v_eq ?c ?_); (case c => with_unfolding_all rfl)) | ((with_reducible refine v_ne ?c ?_); (case c => with_unfolding_all rfl))
  | (with_reducible refine v_inti ?_) | (with_reducible refine v_intb ?_) | ((with_reducible refine v_lenG ?_); refine ⟨_, (by walk_at "hl"), ?_⟩)
  | ((with_reducible refine v_lenS ?c ?_); try (case c => walk_at "side"))
  | (with_reducible refine e_dnew ?_) | (with_reducible refine e_dget ?_) | (with_reducible refine s_dput ?_) | (with_reducible refine e_lst ?_) | (with_reducible refine e_tup ?_)
  | ((with_reducible refine v_lst ?c ?_); (case c => walk_at "side")) | ((with_reducible refine v_tup ?c ?_); (case c => walk_at "side"))
  | ((with_reducible refine v_dgetG ?_); refine ⟨_, (by assumption), ?_⟩)
  | (with_reducible refine e_sl ?_) | (with_reducible refine e_nopart ?_) | (with_reducible refine e_part ?_) | (with_reducible refine e_m1 ?_) | (with_reducible refine v_isS ?_) | (with_reducible refine v_int ?_)
  | (with_reducible refine e_lc ?_) | (with_reducible refine e_iStr ?_) | (with_reducible refine e_iEnumS ?_) | (with_reducible refine v_iEnumS ?_) | (with_reducible refine v_str ?_) | (with_reducible refine e_yes ?_) | (with_reducible refine e_fld ?_) | (with_reducible refine e_sfld ?_)
  | ((with_reducible refine v_addS ?c ?_); try (case c => walk_at "side")) | (with_reducible refine v_inS ?_) | (with_reducible refine v_notInS ?_) | (with_reducible refine v_ltS ?_)
  | ((with_reducible refine v_inLG ?_); refine ⟨_, (by walk_at "hl"), ?_⟩) | (with_reducible refine v_isiS ?_) | (with_reducible refine e_revS ?_) | ((with_reducible refine v_revS ?c ?_); try (case c => walk_at "side"))
  | ((with_reducible refine v_lenSetG ?_); refine ⟨_, (by walk_at "hl"), ?_⟩)
  | (with_reducible refine e_bm ?_) | (with_reducible refine e_bm0 ?_) | ((with_reducible refine v_tyLG ?_); refine ⟨_, (by walk_at "hl"), ?_⟩)
  | (with_reducible refine iteNT ?_) | (with_reducible refine iteNF ?_) | (with_reducible refine e_for ?_)
  | (with_reducible refine e_iL ?_) | (with_reducible refine e_iT ?_) | ((with_reducible refine v_iLG ?_); refine ⟨_, (by walk_at "hl"), ?_⟩) | (with_reducible refine e_iR1 ?_) | ((with_reducible refine v_iR1 ?c1 ?c2 ?_); try (case c1 => walk_at "side"); try (case c2 => walk_at "side"))
  | (with_reducible refine e_iR2 ?_) | ((with_reducible refine v_iR2 ?c1 ?_); try (case c1 => walk_at "side"))
  | (with_reducible refine e_pr0 ?_) | (with_reducible refine e_pr ?_) | (with_reducible refine e_disp ?_) | (with_reducible refine s_asgT ?_) | (with_reducible refine e_tryA ?_) | (with_reducible refine e_callS ?_) | (with_reducible refine e_mdS ?_) | (with_reducible refine e_par ?_) | (with_reducible refine v_par ?_) | (with_reducible refine e_par3 ?_) | (with_reducible refine v_par3 ?_) | (with_reducible refine e_iK ?_) | (with_reducible refine e_dnotin ?_)
  | (with_reducible refine iteT ?_) | (with_reducible refine iteF ?_))
local macro_rules | `(tactic| walk_at "go") => `(tactic| repeat walk_at "st")
section
open PySem PySem.Spec L2
def top (i : Nat) : Stmt := PySem.Challenge.pw_crosswalls_k03_renamings_of_plans.main.body.getD i (.Pass ⟨0, 0, 0, 0⟩)
/-! ### the pen -/
def penL (cl : Addr) (a r : Int) : List (Key × V) := [(Sum.inr "cells", .ref cl), (Sum.inr "spot", .int a), (Sum.inr "rest", .int r)]
structure Pen where
  p : Addr
  cl : Addr
  cells : List Int
structure PenAt (g : Pen) (H : Hp) (n : Nat) : Prop where
  ex : ∃ (a r : Int), H g.p = some (.dK (penL g.cl a r)) ∧ H g.cl = some (.lst (g.cells.map V.int)) ∧ g.cells.length ≤ 63 ∧ 0 ≤ a ∧ a ≤ n ∧ 0 ≤ r
section
variable {g : Pen} {H H' : Hp} {n m : Nat} {q : Addr}
theorem PenAt.mono (h : PenAt g H n) (l : n ≤ m) : PenAt g H m := by
  obtain ⟨a, r, h1, h2, h3, h4, h5, h6⟩ := h.ex
  exact ⟨a, r, h1, h2, h3, h4, by omega, h6⟩
theorem PenAt.same (h : PenAt g H n) (s : Same H H') : PenAt g H' n := by
  obtain ⟨a, r, h1, h2, h3, h4, h5, h6⟩ := h.ex
  exact ⟨a, r, s _ _ h1, s _ _ h2, h3, h4, h5, h6⟩
theorem PenAt.keep (h : PenAt g H n) (s : Keep q H H') (n1 : g.p ≠ q) (n2 : g.cl ≠ q) : PenAt g H' n := by
  obtain ⟨a, r, h1, h2, h3, h4, h5, h6⟩ := h.ex
  exact ⟨a, r, s _ _ h1 n1, s _ _ h2 n2, h3, h4, h5, h6⟩
theorem PenAt.p_ne (h : PenAt g H n) (s : H q = none) : g.p ≠ q := by
  obtain ⟨a, r, h1, h2, h3, h4, h5, h6⟩ := h.ex
  exact ne_of_none h1 s
theorem PenAt.cl_ne (h : PenAt g H n) (s : H q = none) : g.cl ≠ q := by
  obtain ⟨a, r, h1, h2, h3, h4, h5, h6⟩ := h.ex
  exact ne_of_none h2 s
end
theorem kcp : ¬ ((Sum.inr ("cells" : Str) : Key) = Sum.inr ("spot" : Str)) := by decide +kernel
theorem kcr : ¬ ((Sum.inr ("cells" : Str) : Key) = Sum.inr ("rest" : Str)) := by decide +kernel
theorem kpr : ¬ ((Sum.inr ("spot" : Str) : Key) = Sum.inr ("rest" : Str)) := by decide +kernel
section
variable {H : Hp} {p cl : Addr} {a r z : Int}
theorem pen_cells (h : H p = some (.dK (penL cl a r))) : DGet H p (.str "cells") (some (.ref cl)) := by
  have e := DGet.k (k := Sum.inr "cells") h
  rw [penL, valV_pos rfl] at e
  exact e
theorem pen_place (h : H p = some (.dK (penL cl a r))) : DGet H p (.str "spot") (some (.int a)) := by
  have e := DGet.k (k := Sum.inr "spot") h
  rw [penL, valV_neg kcp, valV_pos rfl] at e
  exact e
theorem pen_rest (h : H p = some (.dK (penL cl a r))) : DGet H p (.str "rest") (some (.int r)) := by
  have e := DGet.k (k := Sum.inr "rest") h
  rw [penL, valV_neg kcr, valV_neg kpr, valV_pos rfl] at e
  exact e
theorem put_place : putK (penL cl a r) (Sum.inr "spot") (.int z) = penL cl z r := by
  unfold putK penL
  rw [if_pos (by rw [valV_any]; first | (rw [valV_neg kcp, valV_pos rfl] <;> rfl) | (rw [valV_neg kcr, valV_neg kpr, valV_pos rfl] <;> rfl))]
  show [(if _ then _ else _), (if _ then _ else _), (if _ then _ else _)] = _
  rw [if_neg kcp, if_pos rfl, if_neg (fun e => kpr e.symm)]
theorem put_rest : putK (penL cl a r) (Sum.inr "rest") (.int z) = penL cl a z := by
  unfold putK penL
  rw [if_pos (by rw [valV_any]; first | (rw [valV_neg kcp, valV_pos rfl] <;> rfl) | (rw [valV_neg kcr, valV_neg kpr, valV_pos rfl] <;> rfl))]
  show [(if _ then _ else _), (if _ then _ else _), (if _ then _ else _)] = _
  rw [if_neg kcr, if_neg kpr, if_pos rfl]
theorem pen_setPlace (h : H p = some (.dK (penL cl a r))) : DPut H p (.str "spot") (.int z) (upd H p (.dK (penL cl z r))) := by
  have e := DPut.k (k := Sum.inr "spot") (v := .int z) h (by show 3 < sizeLine; decide)
  rw [put_place] at e
  exact e
theorem pen_setRest (h : H p = some (.dK (penL cl a r))) : DPut H p (.str "rest") (.int z) (upd H p (.dK (penL cl a z))) := by
  have e := DPut.k (k := Sum.inr "rest") (v := .int z) h (by show 3 < sizeLine; decide)
  rw [put_rest] at e
  exact e
end
/-! ### the module's built-in names -/
structure Txt (K : PySem.W.Frag) (mg : Str → Option Value) : Prop where
  len : mg "len" = none
  int : mg "int" = none
  list : mg "list" = none
def spDraw : Sp := fun vs H Q _ => ∃ (g : Pen) (m : Int) (n : Nat), vs = [.ref g.p, .int m] ∧ 0 < m ∧ m < 1000000 ∧ PenAt g H n ∧ n < 1000000 ∧
  ∀ (z : Int) (H' : Hp), 0 ≤ z → z < m → PenAt g H' (n + 1) → Keep g.p H H' → Q (.int z) H'
section
variable {P : Program} {w : World} {K : PySem.W.Frag} {mg : Str → Option Value} {base : Heap}
abbrev stdraw : Stmt := (top 65)
abbrev Ndraw : List Str := ["_law_pen_here", "_law_many", "_law_digit", "_law_spot", "_law_cell", "_law_mixed"]
theorem scdraw : FnScope Ndraw ["_law_pen_here", "_law_many"] (defScope stdraw) := ⟨rfl, rfl, rfl, by decide +kernel, rfl, by decide +kernel, by decide +kernel⟩

theorem ok_draw (F : FnAt K mg "_law_draw" stdraw) (T : Txt K mg) : Def P w K mg base CX0 1 "_law_draw" ["_law_pen_here", "_law_many"] spDraw := by
  refine F.ok scdraw (fun _ _ _ _ _ _ us hl => match us, hl with | [_, _], _ => rfl) (fun vs H Q E h => ?_) (fun f cdv A outer s H vs Q E hr h => ?_)
  · obtain ⟨p, m, n, rfl, _⟩ := h
    rfl
  obtain ⟨⟨p, cl, cells⟩, m, n, rfl, hm0, hm1, hp, hn, k⟩ := h
  have hu := hu_of hr
  have nd := scdraw.nd
  refine ⟨_, (pss_cons (ps_if (pt_cmpR op_ge (pe_dget hu (pv 0) pe_str (fun _ _ => rfl)) (pv 1) (nomark _))
      (pss_cons (ps_set (i := 2) nd rfl (Or.inl rfl) (pe_op op_mod (pe_callTy c_int (by rfl) T.int (by decide +kernel) (pa_cons (pe_dget hu (pv 0) pe_str (fun _ _ => rfl)) pa_nil)) (pv 1)))
        (pss_cons (ps_dput hu (pv 0) pe_str (pe_op op_fdivW (pe_dget hu (pv 0) pe_str (fun _ _ => rfl)) (pv 1)) rfl)
        (pss_one (ps_ret (pv 2)))))
      pss_nil)
      (pss_cons (ps_set (i := 3) nd rfl (Or.inl rfl) (pe_dget hu (pv 0) pe_str (fun _ _ => rfl)))
      (pss_cons (ps_dput hu (pv 0) pe_str (pe_op op_add (pv 3) pe_int) rfl)
      (pss_cons (ps_set (i := 4) nd rfl (Or.inl rfl) (pe_op op_add (pe_op op_mul pe_int (pv 3)) pe_int))
      (pss_cutS (ps_if (pt_cmpR (op_neDK (K := K) rfl hr.units) (pe_dget hu (pv 0) pe_str (fun _ _ => rfl)) (pe_lst pa_nil) (nomark _))
      (pss_one (ps_set (i := 4) nd rfl (Or.inl rfl) (pe_ix (ix_LK (K := K) rfl) (pe_dget hu (pv 0) pe_str (fun _ _ => rfl)) (pe_op op_mod (pe_callTy c_int (by rfl) T.int (by decide +kernel) (pa_cons (pv 3) pa_nil)) (pe_callB (c_lenK (K := K) rfl) (by rfl) T.len PySem.boot_len (pa_cons (pe_dget hu (pv 0) pe_str (fun _ _ => rfl)) pa_nil))) (fun _ _ => rfl))))
      pss_nil)
      (pss_cutS (ps_if (PW.pt (pw_and (pt_cmpR op_lt (pv 3) (pe_callB (c_lenK (K := K) rfl) (by rfl) T.len PySem.boot_len (pa_cons (pe_dget hu (pv 0) pe_str (fun _ _ => rfl)) pa_nil)) (nomark _)) (pw_and1 (pt_cmpR op_ge (pv 4) (pe_op op_pow pe_int pe_int) (nomark _)))))
      (pss_cons (ps_dput hu (pv 0) pe_str (pe_op op_fdivW (pe_op op_sub (pv 4) (pe_op op_pow pe_int pe_int)) (pv 1)) rfl)
        (pss_one (ps_ret (pe_op op_mod (pe_callTy c_int (by rfl) T.int (by decide +kernel) (pa_cons (pe_op op_sub (pv 4) (pe_op op_pow pe_int pe_int)) pa_nil)) (pv 1)))))
      pss_nil)
      (pss_cons (ps_set (i := 5) nd rfl (Or.inl rfl) (pe_op op_mul (pe_op op_mod (pe_callTy c_int (by rfl) T.int (by decide +kernel) (pa_cons (pv 4) pa_nil)) pe_int) pe_int))
      (pss_cons (ps_set (i := 5) nd rfl (Or.inl rfl) (pe_op op_mod (pe_callTy c_int (by rfl) T.int (by decide +kernel) (pa_cons (pe_op op_add (pe_op op_add (pe_op op_add (pv 5) (pe_op op_mul (pe_op op_mul pe_int (pv 3)) (pv 3))) (pe_op op_mul pe_int (pv 3))) pe_int) pa_nil)) pe_int))
      (pss_cons (ps_set (i := 5) nd rfl (Or.inl rfl) (pe_op op_mod (pe_callTy c_int (by rfl) T.int (by decide +kernel) (pa_cons (pe_op op_mul (pv 5) (pe_op op_add (pv 5) pe_int)) pa_nil)) pe_int))
      (pss_one (ps_ret (pe_op op_mod (pe_callTy c_int (by rfl) T.int (by decide +kernel) (pa_cons (pe_op op_fdivW (pe_op op_mod (pe_callTy c_int (by rfl) T.int (by decide +kernel) (pa_cons (pe_op op_add (pe_op op_mul (pv 5) (pv 5)) (pe_op op_mul pe_int (pv 5))) pa_nil)) pe_int) pe_int) pa_nil)) (pv 1))))))))))))), ?_⟩
  refine s_start [some _, some _, none, none, none, none] rfl ?_
  obtain ⟨a, r, h1, h2, h3, h4, h5, h6⟩ := hp.ex
  dsimp only at h1 h2 h3 k ⊢
  have g1 := pen_rest h1
  have g2 := pen_place h1
  have g3 := pen_cells h1
  have fin : ∀ (H2 : Hp) (a2 r2 z : Int), H2 p = some (.dK (penL cl a2 r2)) → Keep p H H2 → 0 ≤ a2 → a2 ≤ a + 1 → 0 ≤ r2 → 0 ≤ z → z < m → Q (.int z) H2 := by
    intro H2 a2 r2 z e1 e2 e3 e4 e5 e6 e7
    have ne : cl ≠ p := ne_of h2 h1 (by intro z; cases z)
    exact k z H2 e6 e7 ⟨a2, r2, e1, e2 _ _ h2 ne, h3, e3, by omega, e5⟩ e2
  walk_at "go"
  refine if_dec (fun c => ?_) (fun c => ?_)
  · walk_at "go"
    refine v_put (pen_setRest h1) fun H1 s1 e1 => ?_
    walk_at "go"
    refine fin H1 _ _ _ e1 s1 h4 (by omega) (Int.ediv_nonneg h6 (by omega)) (Int.emod_nonneg _ (by omega)) (Int.emod_lt_of_pos _ hm0)
  · walk_at "go"
    refine v_put (pen_setPlace h1) fun H1 s1 e1 => ?_
    have ne : cl ≠ p := ne_of h2 h1 (by intro z; cases z)
    have h2' := s1 _ _ h2 ne
    have g1 := pen_rest e1
    have g3 := pen_cells e1
    walk_at "go"
    refine s_cut (fun σ' H' => ∃ c : Int, σ' = [some (.ref p), some (.int m), none, some (.int a), some (.int c), none] ∧ Same H1 H') ?_ ?_
    · walk_at "go"
      intro q H2 hq s2 e2
      refine v_neNilI (s2 _ _ h2') e2 ?_
      have g3 := pen_cells (s2 _ _ e1)
      walk_at "go"
      refine if_bool (fun c => ?_) (fun c => ?_)
      · have hne : 0 < cells.length := by
          cases cells with
          | nil => simp at c
          | cons _ _ => simp
        walk_at "go"
        · rw [List.length_map]; omega
        walk_at "go"
        rw [List.length_map]
        have hz0 : 0 ≤ a % (cells.length : Int) := Int.emod_nonneg _ (by omega)
        have hz1 : a % (cells.length : Int) < cells.length := Int.emod_lt_of_pos _ (by omega)
        have hlt : (a % (cells.length : Int)).toNat < cells.length := by omega
        refine v_ixL (s2 _ _ h2') (at_of (j := (a % (cells.length : Int)).toNat) (by omega) (by rw [List.getElem?_map, List.getElem?_eq_getElem hlt]; rfl)) ?_
        exact ⟨_, rfl, s2⟩
      · walk_at "go"
        exact ⟨_, rfl, s2⟩
    · rintro σ' H2 ⟨c, rfl, s2⟩
      have e2 := s2 _ _ e1
      have h22 := s2 _ _ h2'
      have g3 := pen_cells e2
      have kk : Keep p H H2 := s1.trans (Keep.of s2)
      have ze : (10 : Int) ^ (18 : Int).toNat = 1000000000000000000 := by decide
      refine s_cut (fun σ' H' => σ' = [some (.ref p), some (.int m), none, some (.int a), some (.int c), none] ∧ H' = H2) ?_ ?_
      · walk_at "go"
        refine if_dec (fun c1 => ?_) (fun c1 => ?_)
        · walk_at "go"
          rw [ze]
          refine if_dec (fun c2 => ?_) (fun c2 => ?_)
          · walk_at "go"
            rw [ze]
            refine v_put (pen_setRest e2) fun H3 s3 e3 => ?_
            walk_at "go"
            rw [ze]
            exact fin H3 _ _ _ e3 (kk.trans s3) (by omega) (by omega) (Int.ediv_nonneg (by omega) (by omega)) (Int.emod_nonneg _ (by omega)) (Int.emod_lt_of_pos _ hm0)
          · walk_at "go"
            exact ⟨rfl, rfl⟩
        · walk_at "go"
          exact ⟨rfl, rfl⟩
      · rintro σ' H' ⟨rfl, rfl⟩
        walk_at "go"
        exact fin H' _ _ _ e2 kk (by omega) (by omega) h6 (Int.emod_nonneg _ (by omega)) (Int.emod_lt_of_pos _ hm0)
end
end
section
open PySem PySem.Spec L2
structure TxtP (K : PySem.W.Frag) (mg : Str → Option Value) (C : Addr) : Prop where
  len : mg "len" = none
  int : mg "int" = none
  list : mg "list" = none
  isinstance : mg "isinstance" = none
  str : mg "str" = none
  all : mg "all" = none
  set : mg "set" = none
  tuple : mg "tuple" = none
  g_LETTERS : ∃ t, mg "LETTERS" = some (.str (tx LET) t)
  g_MOST_KINDS : ∃ t, mg "MOST_KINDS" = some (.int 8 t)
  Plan : ClsF K mg "Plan" C
  nK : NoAttr K C "kinds"
  nP : NoAttr K C "pairs"
  nO : NoAttr K C "own_crossing"
def spAreLetters : Sp := fun vs H Q _ => ∃ l : List Nat, vs = [.str (tx l)] ∧ l.length < 1000 ∧ ∀ H', Same H H' → Q (.bl (decide ((∀ c ∈ l, c ∈ LET) ∧ l.Nodup))) H'
def spAscending : Sp := fun vs H Q _ => ∃ l : List Nat, vs = [.str (tx l)] ∧ ∀ H', Same H H' → Q (.str (tx (ascOf l))) H'
def spIsList (K : PySem.W.Frag) : Sp := fun vs H Q _ => ∃ (p : Addr) (xs : List V), vs = [.ref p] ∧ SeqO K H p xs ∧ ∀ H', Same H H' → Q (.bl true) H'
def spNeedFew : Sp := fun vs H Q _ => ∃ l : List Nat, vs = [.str (tx l)] ∧ l.length ≤ 8 ∧ Q .non H
section
variable {P : Program} {w : World} {K : PySem.W.Frag} {mg : Str → Option Value} {base : Heap} {C : Addr}
abbrev stare_letters : Stmt := (top 22)
abbrev Nare_letters : List Str := ["value", "letter"]
theorem scare_letters : FnScope Nare_letters ["value"] (defScope stare_letters) := ⟨rfl, rfl, rfl, by decide +kernel, rfl, by decide +kernel, by decide +kernel⟩

theorem ok_are_letters (F : FnAt K mg "are_letters" stare_letters) (T : TxtP K mg C) : Def P w K mg base CX0 1 "are_letters" ["value"] spAreLetters := by
  refine F.ok scare_letters (fun _ _ _ _ _ _ us hl => match us, hl with | [_], _ => rfl) (fun vs H Q E h => ?_) (fun f cdv A outer s H vs Q E hr h => ?_)
  · obtain ⟨l, rfl, _⟩ := h
    rfl
  obtain ⟨l, rfl, hl, k⟩ := h
  have hu := hu_of hr
  have nd := scare_letters.nd
  refine ⟨_, (pss_one (ps_ret (pe_and (pe_callB (c_isiK (K := K) rfl) (by rfl) T.isinstance (by decide +kernel) (pa_cons (pv 0) (pa_cons (pe_bltn (v := .ty "str") (u := .type "str") (by rfl) T.str (by decide +kernel) rfl) pa_nil))) (pe_and (pe_callB (c_allK (K := K) rfl rfl) (by rfl) T.all (by decide +kernel) (pa_cons (pe_lc (own := [("letter", 1)]) (g := gName 1) (by rfl) nd (pi_str (pv 0)) (blkOk_by (own := [("letter", 1)]) (N := Nare_letters) (sc := defScope stare_letters) (by decide +kernel)) (fun _ _ _ _ _ => (pg_name (i := 1) nd rfl (Or.inl rfl))) (fun _ _ _ _ _ => pts_nil) (fun _ _ _ _ _ => (pe_cmpR op_inS (pv 1) (pe_globS T.g_LETTERS) (by rfl)))) pa_nil)) (pe_one (pe_cmpR op_eq (pe_callB c_lenSet (by rfl) T.len PySem.boot_len (pa_cons (pe_callTy (c_setS rfl) (by rfl) T.set (by decide +kernel) (pa_cons (pv 0) pa_nil)) pa_nil)) (pe_callB c_lenS (by rfl) T.len PySem.boot_len (pa_cons (pv 0) pa_nil)) (nomark _))))))), ?_⟩
  refine s_start [some _, none] rfl ?_
  walk_at "go"
  refine v_lcS (b := fun _ => true) (f := fun c => V.bl (decide (c ∈ LET))) (by omega) (fun c _ H1 s1 R r => ?_) (fun c _ _ H1 s1 R r => ?_) (fun D H1 hD s1 e1 => ?_)
  · walk_at "go"
    exact r H1 (Same.refl _)
  · walk_at "go"
    exact r H1 (Same.refl _)
  walk_at "go"
  have e2 : H1 D = some (.lst ((l.map fun c => decide (c ∈ LET)).map V.bl)) := by
    rw [e1, List.map_map, filter_yes]
    rfl
  refine v_all e2 ?_
  walk_at "go"
  have ha : (l.map fun c => decide (c ∈ LET)).all id = decide (∀ c ∈ l, c ∈ LET) := by
    rw [Bool.eq_iff_iff, List.all_eq_true, decide_eq_true_iff]
    simp
  rw [ha]
  refine if_dec (fun c => ?_) (fun c => ?_)
  · walk_at "go"
    refine v_setS (by omega) fun p H2 hp s2 e2 => ?_
    walk_at "go"
    have e3 : decide (V.int ((metOf (l.map fun c => tx [c])).length : Int) = V.int (l.length : Int)) = decide ((∀ c ∈ l, c ∈ LET) ∧ l.Nodup) := by
      rw [dec_int, Bool.eq_iff_iff, decide_eq_true_iff, beq_iff_eq]
      have := metOf_ones l
      constructor
      · intro e
        exact ⟨c, this.mp (by omega)⟩
      · intro e
        have := this.mpr e.2
        omega
    rw [e3]
    exact k H2 (s1.trans s2)
  · have e3 : decide ((∀ c ∈ l, c ∈ LET) ∧ l.Nodup) = false := decide_eq_false fun z => c z.1
    rw [e3] at k
    exact k H1 s1
abbrev stascending : Stmt := (top 23)
abbrev Nascending : List Str := ["letters", "letter"]
theorem scascending : FnScope Nascending ["letters"] (defScope stascending) := ⟨rfl, rfl, rfl, by decide +kernel, rfl, by decide +kernel, by decide +kernel⟩

theorem ok_ascending (F : FnAt K mg "ascending" stascending) (T : TxtP K mg C) : Def P w K mg base CX0 1 "ascending" ["letters"] spAscending := by
  refine F.ok scascending (fun _ _ _ _ _ _ us hl => match us, hl with | [_], _ => rfl) (fun vs H Q E h => ?_) (fun f cdv A outer s H vs Q E hr h => ?_)
  · obtain ⟨l, rfl, _⟩ := h
    rfl
  obtain ⟨l, rfl, k⟩ := h
  have hu := hu_of hr
  have nd := scascending.nd
  refine ⟨_, (pss_one (ps_ret (pe_joinK (K := K) rfl (pe_tx [] (by decide +kernel)) (pe_lc (own := [("letter", 1)]) (g := gName 1) (by rfl) nd (pi_str (pe_globS T.g_LETTERS)) (blkOk_by (own := [("letter", 1)]) (N := Nascending) (sc := defScope stascending) (by decide +kernel)) (fun _ _ _ _ _ => (pg_name (i := 1) nd rfl (Or.inl rfl))) (fun _ _ _ _ _ => (pts_one (pt_cmpR op_inS (pv 1) (pv 0) (by rfl)))) (fun _ _ _ _ _ => (pv 1)))))), ?_⟩
  refine s_start [some _, none] rfl ?_
  walk_at "go"
  refine v_lcS (l := LET) (b := fun c => decide (c ∈ l)) (f := fun c => V.str (tx [c])) (by decide) (fun c _ H1 s1 R r => ?_) (fun c _ _ H1 s1 R r => ?_) (fun D H1 hD s1 e1 => ?_)
  · walk_at "go"
    exact r H1 (Same.refl _)
  · walk_at "go"
    exact r H1 (Same.refl _)
  walk_at "go"
  rw [strs_ones] at e1
  refine v_join e1 ?_ ?_
  · rw [flat_ones]
    have := ascOf_len l
    unfold ascOf at this
    omega
  · rw [flat_ones]
    exact k H1 s1
abbrev stis_list : Stmt := (top 16)
abbrev Nis_list : List Str := ["value"]
theorem scis_list : FnScope Nis_list ["value"] (defScope stis_list) := ⟨rfl, rfl, rfl, by decide +kernel, rfl, by decide +kernel, by decide +kernel⟩

theorem ok_is_list (F : FnAt K mg "is_list" stis_list) (T : TxtP K mg C) : Def P w K mg base CX0 1 "is_list" ["value"] (spIsList K) := by
  refine F.ok scis_list (fun _ _ _ _ _ _ us hl => match us, hl with | [_], _ => rfl) (fun vs H Q E h => ?_) (fun f cdv A outer s H vs Q E hr h => ?_)
  · obtain ⟨p, xs, rfl, _⟩ := h
    rfl
  obtain ⟨p, xs, rfl, hp, k⟩ := h
  have hu := hu_of hr
  have nd := scis_list.nd
  refine ⟨_, (pss_one (ps_ret (pe_callB (c_isiTK (K := K) rfl) (by rfl) T.isinstance (by decide +kernel) (pa_cons (pv 0) (pa_cons (pe_tup (pa_cons (pe_bltn (v := .ty "list") (u := .type "list") (by rfl) T.list (by decide +kernel) rfl) (pa_cons (pe_bltn (v := .ty "tuple") (u := .type "tuple") (by rfl) T.tuple (by decide +kernel) rfl) pa_nil))) pa_nil))))), ?_⟩
  refine s_start [some _] rfl ?_
  walk_at "go"
  intro t H1 ht s1 e1
  walk_at "go"
  exact v_isiQ (hp.same s1) e1 (k H1 s1)
abbrev stneed_few : Stmt := (top 26)
abbrev Nneed_few : List Str := ["kinds"]
theorem scneed_few : FnScope Nneed_few ["kinds"] (defScope stneed_few) := ⟨rfl, rfl, rfl, by decide +kernel, rfl, by decide +kernel, by decide +kernel⟩

theorem ok_need_few (F : FnAt K mg "need_few" stneed_few) (T : TxtP K mg C) : Def P w K mg base CX0 1 "need_few" ["kinds"] spNeedFew := by
  refine F.ok scneed_few (fun _ _ _ _ _ _ us hl => match us, hl with | [_], _ => rfl) (fun vs H Q E h => ?_) (fun f cdv A outer s H vs Q E hr h => ?_)
  · obtain ⟨l, rfl, _⟩ := h
    rfl
  obtain ⟨l, rfl, hl, k⟩ := h
  have hu := hu_of hr
  have nd := scneed_few.nd
  refine ⟨_, (pss_one (ps_if (pt_cmpR op_gt (pe_callB c_lenS (by rfl) T.len PySem.boot_len (pa_cons (pv 0) pa_nil)) (pe_globI T.g_MOST_KINDS) (nomark _))
      (pss_one ps_never)
      pss_nil)), ?_⟩
  refine s_start [some _] rfl ?_
  walk_at "go"
  refine if_dec (fun c => ?_) (fun c => ?_)
  · omega
  · walk_at "go"
    exact k
end
end
section
open PySem PySem.Spec L2
def spChecked (K : PySem.W.Frag) : Sp := fun vs H Q _ => ∃ (ks : List Nat) (p : Addr) (ps : List (List Nat)), vs = [.str (tx ks), .ref p] ∧ SeqO K H p (strsV ps) ∧ ps.length < 1000 ∧ PairsIn ks ps ∧ (∀ c ∈ ks, c ∈ LET) ∧
  ∀ t H', H t = none → Same H H' → H' t = some (.tup (strsV (pairsOf (ps.map ascOf)))) → Q (.ref t) H'
def spCross : Sp := fun vs H Q _ => ∃ (ks : List Nat) (t : Addr) (ps : List (List Nat)), vs = [.str (tx ks), .ref t] ∧ H t = some (.tup (strsV ps)) ∧ ks.length < 1000 ∧ ks.Nodup ∧
  ∀ d H', H d = none → Same H H' → H' d = some (.dK (crossKV ks ps ks)) → Q (.ref d) H'
section
variable {P : Program} {w : World} {K : PySem.W.Frag} {mg : Str → Option Value} {base : Heap} {C : Addr}
abbrev stchecked_pairs : Stmt := (top 24)
abbrev Nchecked_pairs : List Str := ["kinds", "crossing", "found", "pair", "a", "b"]
theorem scchecked_pairs : FnScope Nchecked_pairs ["kinds", "crossing"] (defScope stchecked_pairs) := ⟨rfl, rfl, rfl, by decide +kernel, rfl, by decide +kernel, by decide +kernel⟩

theorem ok_checked_pairs (F : FnAt K mg "checked_pairs" stchecked_pairs) (T : TxtP K mg C) (D_is_list : Def P w K mg base CX0 1 "is_list" ["value"] (spIsList K)) (D_are_letters : Def P w K mg base CX0 1 "are_letters" ["value"] spAreLetters) (D_ascending : Def P w K mg base CX0 1 "ascending" ["letters"] spAscending) :
    Def P w K mg base CX0 2 "checked_pairs" ["kinds", "crossing"] (spChecked K) := by
  refine F.ok scchecked_pairs (fun _ _ _ _ _ _ us hl => match us, hl with | [_, _], _ => rfl) (fun vs H Q E h => ?_) (fun f cdv A outer s H vs Q E hr h => ?_)
  · obtain ⟨ks, p, ps, rfl, _⟩ := h
    rfl
  obtain ⟨ks, p, ps, rfl, hp, hl, hps, hks, k⟩ := h
  have hu := hu_of hr
  have nd := scchecked_pairs.nd
  refine ⟨_, (pss_cons (ps_if (pt_not (pt_val (pe_cd D_is_list hr pass0 (pa_cons (pv 1) pa_nil))))
      (pss_one ps_never)
      pss_nil)
      (pss_cons (ps_set (i := 2) nd rfl (Or.inr rfl) (pe_lst pa_nil))
      (pss_cons (ps_for PassesOwn.never rfl (pi_or (pi_listK (K := K) rfl (pv 1)) (pi_tupK (K := K) rfl (pv 1))) (pg_name (i := 3) nd rfl (Or.inl rfl))
      (pss_cutS (ps_if (PW.pt (pw_or (pt_not (pt_val (pe_callB (c_isiK (K := K) rfl) (by rfl) T.isinstance (by decide +kernel) (pa_cons (pv 3) (pa_cons (pe_bltn (v := .ty "str") (u := .type "str") (by rfl) T.str (by decide +kernel) rfl) pa_nil))))) (pw_or (pt_cmpR op_ne (pe_callB c_lenS (by rfl) T.len PySem.boot_len (pa_cons (pv 3) pa_nil)) pe_int (nomark _)) (pw_or1 (pt_not (pt_val (pe_cd D_are_letters hr pass0 (pa_cons (pv 3) pa_nil))))))))
        (pss_one ps_never)
        pss_nil)
        (pss_cutS (ps_if (PW.pt (pw_or (pt_cmpR op_notInS (pe_ix ix_str (pv 3) pe_int (fun _ _ => rfl)) (pv 0) (by rfl)) (pw_or1 (pt_cmpR op_notInS (pe_ix ix_str (pv 3) pe_int (fun _ _ => rfl)) (pv 0) (by rfl)))))
        (pss_one ps_never)
        pss_nil)
        (pss_one (ps_expr (pe_appK (K := K) rfl (pv 2) (pe_cd D_ascending hr pass0 (pa_cons (pv 3) pa_nil))))))))
      (pss_one (ps_ret (pe_callTy (c_tupleK (K := K) rfl) (by rfl) T.tuple (by decide +kernel) (pa_cons (pe_lc2 (own := [("a", 4), ("b", 5)]) (vs1 := [5]) (by rfl) nd (pi_str (pe_globS T.g_LETTERS)) (blkOk_by (own := [("a", 4), ("b", 5)]) (N := Nchecked_pairs) (sc := defScope stchecked_pairs) (by decide +kernel)) (by decide) (fun _ _ _ _ _ => (pg_name (i := 4) nd rfl (Or.inl rfl))) (fun _ _ _ _ _ => pts_nil) (fun _ _ _ _ _ => (pi_str (pe_globS T.g_LETTERS))) (fun _ _ _ _ _ => (pg_name (i := 5) nd rfl (Or.inl rfl))) (fun _ _ _ _ _ => (pts_one (pt_cmpR (op_inLK (K := K) rfl) (pe_op op_addS (pv 4) (pv 5)) (pv 2) (by rfl)))) (fun _ _ _ _ _ => (pe_op op_addS (pv 4) (pv 5)))) pa_nil))))))), ?_⟩
  refine s_start [some _, some _, none, none, none, none] rfl ?_
  walk_at "go"
  refine ⟨p, _, rfl, hp, fun H1 s1 => ?_⟩
  walk_at "go"
  intro q H2 hq s2 e2
  walk_at "go"
  refine e_forSeq (xs := strsV ps) hp (s1.trans s2) (fun Q q => by walk_at "go"; exact q) (fun k σ H' => ∃ x, σ = [some (.str (tx ks)), some (.ref p), some (.ref q), x, none, none] ∧ Same H H' ∧ H' q = some (.lst (strsV ((ps.take k).map ascOf)))) ⟨_, rfl, s1.trans s2, e2⟩ ?_ ?_ ?_
  · rintro i σ H' ⟨x, rfl, s3, e3⟩
    exact s3
  · rintro i v σ H3 H4 hi ⟨x, rfl, s3, e3⟩ ⟨rfl, hv⟩
    have hi' : i < ps.length := by simpa using hi
    obtain ⟨a, b, hab, hne, ha, hb⟩ := hps _ (List.getElem_mem hi')
    have hv' : v = .str (tx [a, b]) := by
      have : (strsV ps)[i]? = some (V.str (tx ps[i])) := by
        rw [List.getElem?_map, List.getElem?_eq_getElem hi']
        rfl
      rw [hv, hab] at this
      exact Option.some.inj this
    subst hv'
    have ha2 := hks a ha
    have hb2 := hks b hb
    refine s_cut (fun σ' H' => σ' = [some (.str (tx ks)), some (.ref p), some (.ref q), some (.str (tx [a, b])), none, none] ∧ Same H4 H') ?_ ?_
    · walk_at "go"
      refine if_ndec (fun c => absurd rfl c) (fun _ => ?_)
      walk_at "go"
      refine ⟨[a, b], rfl, by simp, fun H5 s5 => ?_⟩
      have e5 : decide ((∀ c ∈ [a, b], c ∈ LET) ∧ [a, b].Nodup) = true := by
        rw [decide_eq_true_iff]
        refine ⟨?_, by simp [hne]⟩
        intro c hc
        simp only [List.mem_cons, List.not_mem_nil, or_false] at hc
        rcases hc with rfl | rfl <;> assumption
      rw [e5]
      walk_at "go"
      exact ⟨rfl, s5⟩
    · rintro σ' H5 ⟨rfl, s5⟩
      refine s_cut (fun σ' H' => σ' = [some (.str (tx ks)), some (.ref p), some (.ref q), some (.str (tx [a, b])), none, none] ∧ H' = H5) ?_ ?_
      · walk_at "go"
        refine v_ixS (c := a) (by simp) rfl ?_
        walk_at "go"
        refine if_ndec (fun c => absurd ha c) (fun _ => ?_)
        walk_at "go"
        refine v_ixS (c := b) (by simp) rfl ?_
        walk_at "go"
        refine if_ndec (fun c => absurd hb c) (fun _ => ?_)
        walk_at "go"
        exact ⟨rfl, rfl⟩
      · rintro σ' H6 ⟨rfl, rfl⟩
        have e6 := s5 _ _ e3
        walk_at "go"
        refine ⟨[a, b], rfl, fun H7 s7 => ?_⟩
        walk_at "go"
        refine v_app (s7 _ _ e6) ?_ fun H8 s8 e8 => ?_
        · simp only [strsV, List.length_map, List.length_take]
          omega
        refine ⟨_, rfl, fun b' o hb' => s8 _ _ (s7 _ _ (s5 _ _ (s3 _ _ hb'))) (ne_of_none hb' (L2.Same.free s1 hq)), ?_⟩
        rw [e8, List.take_add_one, List.getElem?_eq_getElem hi', hab, List.map_append]
        simp only [strsV, List.map_append]
        rfl
  · rintro σ H3 ⟨x, rfl, s3, e3⟩
    walk_at "go"
    rw [List.take_of_length_le (by simp)] at e3
    refine v_lc2S (lb := LET) (b := fun a b => decide ([a, b] ∈ ps.map ascOf)) (f := fun a b => V.str (tx [a, b])) (by decide) (by decide) (fun c _ H1 s1 R r => r) (fun c d _ _ H1 s1 R r => ?_) (fun c d _ _ _ H1 s1 R r => ?_) (fun D H5 hD s5 e5 => ?_)
    · have e1 := s1 _ _ e3
      walk_at "go"
      exact r H1 (Same.refl _)
    · walk_at "go"
      exact r H1 (Same.refl _)
    · walk_at "go"
      refine v_tuple e5 fun t H6 ht s6 e6 => ?_
      refine k t H6 (L2.Same.free s3 (L2.Same.free s5 ht)) ((s3.trans s5).trans s6) ?_
      rw [e6]
      unfold strsV pairsOf
      rw [List.map_flatMap]
      simp only [List.map_map]
      rfl
abbrev stcrossing_table : Stmt := (top 28)
abbrev Ncrossing_table : List Str := ["kinds", "pairs", "found", "kind", "other"]
theorem sccrossing_table : FnScope Ncrossing_table ["kinds", "pairs"] (defScope stcrossing_table) := ⟨rfl, rfl, rfl, by decide +kernel, rfl, by decide +kernel, by decide +kernel⟩

theorem ok_crossing_table (F : FnAt K mg "crossing_table" stcrossing_table) (T : TxtP K mg C) : Def P w K mg base CX0 1 "crossing_table" ["kinds", "pairs"] spCross := by
  refine F.ok sccrossing_table (fun _ _ _ _ _ _ us hl => match us, hl with | [_, _], _ => rfl) (fun vs H Q E h => ?_) (fun f cdv A outer s H vs Q E hr h => ?_)
  · obtain ⟨ks, t, ps, rfl, _⟩ := h
    rfl
  obtain ⟨ks, t, ps, rfl, ht, hl, hnd, k⟩ := h
  have hu := hu_of hr
  have nd := sccrossing_table.nd
  refine ⟨_, (pss_cons (ps_set (i := 2) nd rfl (Or.inl rfl) pe_dnewK)
      (pss_cons (ps_for PassesOwn.never rfl (pi_str (pv 0)) (pg_name (i := 3) nd rfl (Or.inr rfl))
      (pss_one (ps_dput hu (pv 2) (pv 3) (pe_joinK (K := K) rfl (pe_tx [] (by decide +kernel)) (pe_lc (own := [("other", 4)]) (g := gName 4) (by rfl) nd (pi_str (pv 0)) (blkOk_by (own := [("other", 4)]) (N := Ncrossing_table) (sc := defScope stcrossing_table) (by decide +kernel)) (fun _ _ _ _ _ => (pg_name (i := 4) nd rfl (Or.inl rfl))) (fun _ _ _ _ _ => (pts_one (PW.pt (pw_or (pt_cmpR (op_inLK (K := K) rfl) (pe_op op_addS (pv 3) (pv 4)) (pv 1) (by rfl)) (pw_or1 (pt_cmpR (op_inLK (K := K) rfl) (pe_op op_addS (pv 4) (pv 3)) (pv 1) (by rfl))))))) (fun _ _ _ _ _ => (pv 4)))) rfl)))
      (pss_one (ps_ret (pv 2))))), ?_⟩
  refine s_start [some _, some _, none, none, none] rfl ?_
  walk_at "go"
  intro d H1 hd s1 e1
  walk_at "go"
  refine for_it (walk_tx ks) (fun k σ H' => ∃ x, σ = [some (.str (tx ks)), some (.ref t), some (.ref d), x, none] ∧ Same H H' ∧ H' d = some (.dK (crossKV ks ps (ks.take k)))) ⟨_, rfl, s1, e1⟩ (fun _ _ _ _ _ => trivial) ?_ ?_
  · rintro i v σ H2 H3 hi ⟨x, rfl, s2, e2⟩ ⟨rfl, rfl⟩
    have h0 := s2 _ _ ht
    show sDPut _ _ _ _ _ _
    walk_at "go"
    refine v_lcS (b := fun o => decide ([ks.getD i 0, o] ∈ ps) || decide ([o, ks.getD i 0] ∈ ps)) (f := fun c => V.str (tx [c])) (by omega) (fun c _ H1 s1 R r => ?_) (fun c _ _ H1 s1 R r => ?_) (fun D H4 hD s4 e4 => ?_)
    · have h1 := s1 _ _ h0
      walk_at "go"
      refine v_inT (SqT.of h1) ?_
      walk_at "go"
      refine if_dec (fun c1 => ?_) (fun c1 => ?_)
      · rw [show [ks.getD i 0] ++ [c] = [ks.getD i 0, c] from rfl] at c1
        rw [decide_eq_true c1, Bool.true_or] at r
        exact r H1 (Same.refl _)
      · rw [show [ks.getD i 0] ++ [c] = [ks.getD i 0, c] from rfl] at c1
        walk_at "go"
        refine v_inT (SqT.of h1) ?_
        walk_at "go"
        rw [decide_eq_false c1, Bool.false_or] at r
        exact r H1 (Same.refl _)
    · walk_at "go"
      exact r H1 (Same.refl _)
    walk_at "go"
    rw [strs_ones] at e4
    refine v_join e4 ?_ ?_
    · rw [flat_ones]
      have := crossOf_len ks ps (ks.getD i 0)
      unfold crossOf at this
      omega
    rw [flat_ones]
    walk_at "go"
    have e5 := s4 _ _ e2
    have hz : valV (crossKV ks ps (ks.take i)) (Sum.inr (tx [ks.getD i 0])) = none := letV_none (take_notin hnd hi)
    refine v_put (DPut.cross e5 hz ?_) fun H6 s6 e6 => ?_
    · unfold crossKV
      rw [List.length_map, List.length_take]
      omega
    refine ⟨_, rfl, fun b o hb => s6 _ _ (s4 _ _ (s2 _ _ hb)) (ne_of_none hb hd), ?_⟩
    rw [e6, take_getD hi]
    unfold crossKV
    rw [List.map_append]
    rfl
  · rintro σ H2 ⟨x, rfl, s2, e2⟩
    rw [List.take_of_length_le (Nat.le_refl _)] at e2
    walk_at "go"
    exact k d H2 hd s2 e2
end
end
section
open PySem PySem.Spec L2
def planF (ks : List Nat) (t d : Addr) : List (Str × V) := putF "own_crossing" (.ref d) (putF "pairs" (.ref t) (putF "kinds" (.str (tx ks)) []))
theorem nkp : ¬ (("kinds" : Str) = "pairs") := by decide +kernel
theorem nko : ¬ (("kinds" : Str) = "own_crossing") := by decide +kernel
theorem npo : ¬ (("pairs" : Str) = "own_crossing") := by decide +kernel
section
variable {ks : List Nat} {t d : Addr}
theorem planF_k : (planF ks t d).lookup ("kinds" : Str) = some (.str (tx ks)) := by
  unfold planF
  rw [lookup_putF, if_neg nko, lookup_putF, if_neg nkp, lookup_putF, if_pos rfl]
theorem planF_p : (planF ks t d).lookup ("pairs" : Str) = some (.ref t) := by
  unfold planF
  rw [lookup_putF, if_neg npo, lookup_putF, if_pos rfl]
theorem planF_o : (planF ks t d).lookup ("own_crossing" : Str) = some (.ref d) := by
  unfold planF
  rw [lookup_putF, if_pos rfl]
end
/-- a plan of the kinds ks and the pairs ps stands at x -/
structure PlanAt (C : Addr) (H : Hp) (x : Addr) (ks : List Nat) (ps : List (List Nat)) : Prop where
  ex : ∃ dx t d, H x = some (.ins C dx (planF ks t d)) ∧ H t = some (.tup (strsV ps)) ∧ H d = some (.dK (crossKV ks ps ks))
theorem PlanAt.same {C : Addr} {H H' : Hp} {x : Addr} {ks : List Nat} {ps : List (List Nat)} (h : PlanAt C H x ks ps) (s : Same H H') : PlanAt C H' x ks ps := by
  obtain ⟨dx, t, d, a, b, c⟩ := h.ex
  exact ⟨dx, t, d, s _ _ a, s _ _ b, s _ _ c⟩
/-- the plan at x does not rest on the object at b -/
def PlanOff (C : Addr) (H : Hp) (x b : Addr) : Prop := ∃ dx ks t d, H x = some (.ins C dx (planF ks t d)) ∧ b ≠ t ∧ b ≠ d
theorem PlanOff.same {C : Addr} {H H' : Hp} {x b : Addr} (h : PlanOff C H x b) (s : Same H H') : PlanOff C H' x b := by
  obtain ⟨dx, ks, t, d, e, n⟩ := h
  exact ⟨dx, ks, t, d, s _ _ e, n⟩
theorem PlanAt.off {C : Addr} {H H' : Hp} {x b : Addr} {ks : List Nat} {ps : List (List Nat)} (h : PlanAt C H x ks ps) (n : PlanOff C H x b) (nx : x ≠ b) (k : Keep b H H') : PlanAt C H' x ks ps := by
  obtain ⟨dx, t, d, a1, a2, a3⟩ := h.ex
  obtain ⟨dx', ks', t', d', e, n1, n2⟩ := n
  rw [a1] at e
  injection e with e
  injection e with _ _ e
  have e1 := planF_p (ks := ks) (t := t) (d := d)
  rw [e, planF_p] at e1
  injection e1 with e1
  injection e1 with e1
  have e2 := planF_o (ks := ks) (t := t) (d := d)
  rw [e, planF_o] at e2
  injection e2 with e2
  injection e2 with e2
  exact ⟨dx, t, d, k _ _ a1 nx, k _ _ a2 (fun z => n1 (z.symm.trans e1.symm)), k _ _ a3 (fun z => n2 (z.symm.trans e2.symm))⟩
/-- the kinds and pairs of Plan(l, ps) -/
abbrev kindsOf (l : List Nat) : List Nat := ascOf l
abbrev prsOf (ps : List (List Nat)) : List (List Nat) := pairsOf (ps.map ascOf)
def PlanArgs (K : PySem.W.Frag) (H : Hp) (l : List Nat) (p : Addr) (ps : List (List Nat)) : Prop := SeqO K H p (strsV ps) ∧ ps.length < 1000 ∧ PairsIn l ps ∧ (∀ c ∈ l, c ∈ LET) ∧ l.Nodup ∧ l.length ≤ 8
def spPlan0 (K : PySem.W.Frag) (C : Addr) : Sp := fun vs H Q _ => ∃ (x dx : Addr) (l : List Nat) (p : Addr) (ps : List (List Nat)), vs = [.ref x, .str (tx l), .ref p] ∧ H x = some (.ins C dx []) ∧ PlanArgs K H l p ps ∧
  ∀ H', Keep x H H' → PlanAt C H' x (kindsOf l) (prsOf ps) → (∀ b o, H b = some o → b ≠ x → PlanOff C H' x b) → Q .non H'
def spPlan (K : PySem.W.Frag) (C : Addr) : Sp := fun vs H Q _ => ∃ (l : List Nat) (p : Addr) (ps : List (List Nat)), vs = [.str (tx l), .ref p] ∧ PlanArgs K H l p ps ∧ ∀ x H', H x = none → Same H H' → PlanAt C H' x (kindsOf l) (prsOf ps) → (∀ b o, H b = some o → PlanOff C H' x b) → Q (.ref x) H'
theorem conv_plan (K : PySem.W.Frag) (C : Addr) : Conv C (spPlan0 K C) (spPlan K C) := by
  rintro vs H Q E ⟨l, p, ps, rfl, ⟨hp, hr⟩, k⟩ x dx hx hdx hne
  refine ⟨x, dx, l, p, ps, rfl, upd_same, ⟨hp.go fun o ho => by rw [upd_ne (ne_of_none ho hx), upd_ne (ne_of_none ho hdx)]; exact ho, hr⟩, fun H' s' a off => ⟨rfl, k x H' hx (fun b o hb => ?_) a fun b o hb => off b o (by rw [upd_ne (ne_of_none hb hx), upd_ne (ne_of_none hb hdx)]; exact hb) (ne_of_none hb hx)⟩⟩
  refine s' b o ?_ (ne_of_none hb hx)
  rw [upd_ne (ne_of_none hb hx), upd_ne (ne_of_none hb hdx)]
  exact hb
theorem asc_len {l : List Nat} (h1 : ∀ c ∈ l, c ∈ LET) (h2 : l.Nodup) : (ascOf l).length = l.length := by
  have p : (ascOf l).Perm l := by
    refine (List.perm_ext_iff_of_nodup (ascOf_nodup l) h2).mpr fun c => ?_
    rw [ascOf_mem]
    exact ⟨fun z => z.2, fun z => ⟨h1 c z, z⟩⟩
  exact p.length_eq
section
variable {P : Program} {w : World} {K : PySem.W.Frag} {mg : Str → Option Value} {base : Heap} {C : Addr}
abbrev stPlan_init : Stmt := (inClass (top 27) 0)
abbrev NPlan_init : List Str := ["self", "kinds", "crossing"]
theorem scPlan_init : FnScope NPlan_init ["self", "kinds", "crossing"] (defScope stPlan_init) := ⟨rfl, rfl, rfl, by decide +kernel, rfl, by decide +kernel, by decide +kernel⟩

theorem ok_Plan {dvs : List V} (F : MAtD K C "__init__" "Plan.__init__" stPlan_init dvs) (hd : dvs.length = 1) (T : TxtP K mg C) (D_are_letters : Def P w K mg base CX0 1 "are_letters" ["value"] spAreLetters) (D_ascending : Def P w K mg base CX0 1 "ascending" ["letters"] spAscending)
    (D_checked_pairs : Def P w K mg base CX0 2 "checked_pairs" ["kinds", "crossing"] (spChecked K)) (D_need_few : Def P w K mg base CX0 1 "need_few" ["kinds"] spNeedFew) (D_crossing_table : Def P w K mg base CX0 1 "crossing_table" ["kinds", "pairs"] spCross) :
    CMk P w K mg base CX0 3 "Plan" C (spPlan K C) ["self", "kinds", "crossing"] "Plan.__init__" stPlan_init dvs := by
  refine F.make (sp0 := spPlan0 K C) T.Plan scPlan_init (by intro z; rw [z] at hd; cases hd) (fun T kV doc pm an cdv ct us its l1 l2 => ?_) (fun vs H Q E h => ?_) (conv_plan K C) (fun f cdv A outer s H vs Q E hr h => ?_)
  · rw [hd] at l2 ⊢
    match us, l1, its, l2 with
    | [_, _, _], _, [_], _ => exact ⟨_, rfl, rfl⟩
  · obtain ⟨x, dx, l, p, ps, rfl, _⟩ := h
    rfl
  obtain ⟨x, dx, l, p, ps, rfl, hx, ⟨hp, h1, h2, h3, h4, h5⟩, k⟩ := h
  have hu := hu_of hr
  have nd := scPlan_init.nd
  replace D_are_letters := D_are_letters.mono (show 1 ≤ 2 by decide)
  replace D_ascending := D_ascending.mono (show 1 ≤ 2 by decide)
  replace D_need_few := D_need_few.mono (show 1 ≤ 2 by decide)
  replace D_crossing_table := D_crossing_table.mono (show 1 ≤ 2 by decide)
  refine ⟨_, (pss_cons (ps_if (pt_not (pt_val (pe_cd D_are_letters hr pass0 (pa_cons (pv 1) pa_nil))))
      (pss_one ps_never)
      pss_nil)
      (pss_cons (ps_flK (K := K) rfl (pv 0) (pe_cd D_ascending hr pass0 (pa_cons (pv 1) pa_nil)) rfl)
      (pss_cons (ps_flK (K := K) rfl (pv 0) (pe_cd D_checked_pairs hr pass0 (pa_cons (pe_flK (K := K) rfl (pv 0) rfl) (pa_cons (pv 2) pa_nil))) rfl)
      (pss_cons (ps_expr (pe_cd D_need_few hr pass0 (pa_cons (pe_flK (K := K) rfl (pv 0) rfl) pa_nil)))
      (pss_one (ps_flK (K := K) rfl (pv 0) (pe_cd D_crossing_table hr pass0 (pa_cons (pe_flK (K := K) rfl (pv 0) rfl) (pa_cons (pe_flK (K := K) rfl (pv 0) rfl) pa_nil))) rfl)))))), ?_⟩
  refine s_start [some _, some _, some _] rfl ?_
  walk_at "go"
  refine ⟨l, rfl, by omega, fun H1 s1 => ?_⟩
  rw [decide_eq_true (show (∀ c ∈ l, c ∈ LET) ∧ l.Nodup from ⟨h3, h4⟩)]
  walk_at "go"
  refine ⟨l, rfl, fun H2 s2 => ?_⟩
  walk_at "go"
  have s12 := s1.trans s2
  refine v_sfld (s12 _ _ hx) T.Plan.cl T.nK (by decide) fun H3 s3 e3 => ?_
  have hp3 := (hp.same s12).keepI s3 (s12 _ _ hx)
  walk_at "go"
  refine v_fld e3 T.Plan.cl T.nK (by rw [lookup_putF, if_pos rfl]) ?_
  walk_at "go"
  refine ⟨ascOf l, p, ps, rfl, hp3, h1, ?_, fun c hc => (ascOf_mem.mp hc).1, fun t H4 ht s4 e4 => ?_⟩
  · intro q hq
    obtain ⟨a, b, e, n, ha, hb⟩ := h2 q hq
    exact ⟨a, b, e, n, ascOf_mem.mpr ⟨h3 a ha, ha⟩, ascOf_mem.mpr ⟨h3 b hb, hb⟩⟩
  walk_at "go"
  refine v_sfld (s4 _ _ e3) T.Plan.cl T.nP (by show 1 < 1000; decide) fun H5 s5 e5 => ?_
  have nt : t ≠ x := fun z => by rw [z, e3] at ht; cases ht
  have e5t := s5 _ _ e4 nt
  walk_at "go"
  refine v_fld e5 T.Plan.cl T.nK (by rw [lookup_putF, if_neg nkp, lookup_putF, if_pos rfl]) ?_
  walk_at "go"
  refine ⟨ascOf l, rfl, by rw [asc_len h3 h4]; exact h5, ?_⟩
  walk_at "go"
  refine v_fld e5 T.Plan.cl T.nK (by rw [lookup_putF, if_neg nkp, lookup_putF, if_pos rfl]) ?_
  walk_at "go"
  refine v_fld e5 T.Plan.cl T.nP (by rw [lookup_putF, if_pos rfl]) ?_
  walk_at "go"
  refine ⟨ascOf l, t, _, rfl, e5t, by have := ascOf_len l; omega, ascOf_nodup l, fun d H6 hd s6 e6 => ?_⟩
  walk_at "go"
  refine v_sfld (s6 _ _ e5) T.Plan.cl T.nO (by show 2 < 1000; decide) fun H7 s7 e7 => ?_
  have ndx : d ≠ x := fun z => by rw [z, e5] at hd; cases hd
  refine k H7 (fun b o hb nb => s7 _ _ (s6 _ _ (s5 _ _ (s4 _ _ (s3 _ _ (s12 _ _ hb) nb)) nb)) nb) ⟨dx, t, d, e7, s7 _ _ (s6 _ _ e5t) nt, s7 _ _ e6 ndx⟩ fun b o hb nb => ⟨dx, _, t, d, e7, ?_, ?_⟩
  · exact ne_of_none (s3 _ _ (s12 _ _ hb) nb) ht
  · exact ne_of_none (s5 _ _ (s4 _ _ (s3 _ _ (s12 _ _ hb) nb)) nb) hd
end
end
section
open PySem PySem.Spec L2
/-- letters alone -/
def PsOk (ps : List (List Nat)) : Prop := ∀ l ∈ ps, ∀ c ∈ l, c < 1000
def spPlanEq (C : Addr) : Sp := fun vs H Q _ => ∃ (x y : Addr) (ks ks' : List Nat) (ps ps' : List (List Nat)), vs = [.ref x, .ref y] ∧ PlanAt C H x ks ps ∧ PlanAt C H y ks' ps' ∧ PsOk ps ∧ PsOk ps' ∧ Q (.bl (decide (ks = ks' ∧ ps = ps'))) H
def spStepped (C : Addr) : Sp := fun vs H Q _ => ∃ (x : Addr) (ks : List Nat) (ps : List (List Nat)) (name : List Nat) (k : Nat), vs = [.ref x, .str (tx name), .str (tx [k])] ∧ PlanAt C H x ks ps ∧ k ∈ ks ∧ name.length ≤ 100000 ∧ Q (.str (tx (stepOf (crossOf ks ps k) name k))) H
def spJoined (C : Addr) : Sp := fun vs H Q _ => ∃ (x : Addr) (ks : List Nat) (ps : List (List Nat)) (name way : List Nat), vs = [.ref x, .str (tx name), .str (tx way)] ∧ PlanAt C H x ks ps ∧ (∀ c ∈ way, c ∈ ks) ∧ name.length + way.length ≤ 100000 ∧ Q (.str (tx (joinOf ks ps name way))) H
section
variable {P : Program} {w : World} {K : PySem.W.Frag} {mg : Str → Option Value} {base : Heap} {C : Addr}
abbrev ststepped : Stmt := (top 30)
abbrev Nstepped : List Str := ["plan", "name", "kind", "partners", "place"]
theorem scstepped : FnScope Nstepped ["plan", "name", "kind"] (defScope ststepped) := ⟨rfl, rfl, rfl, by decide +kernel, rfl, by decide +kernel, by decide +kernel⟩

theorem ok_stepped (F : FnAt K mg "stepped" ststepped) (T : TxtP K mg C) : Def P w K mg base CX0 1 "stepped" ["plan", "name", "kind"] (spStepped C) := by
  refine F.ok scstepped (fun _ _ _ _ _ _ us hl => match us, hl with | [_, _, _], _ => rfl) (fun vs H Q E h => ?_) (fun f cdv A outer s H vs Q E hr h => ?_)
  · obtain ⟨x, ks, ps, name, k, rfl, _⟩ := h
    rfl
  obtain ⟨x, ks, ps, name, k, rfl, h1, hk, hl, q⟩ := h
  have hu := hu_of hr
  have nd := scstepped.nd
  refine ⟨_, (pss_cons (ps_set (i := 3) nd rfl (Or.inl rfl) (pe_dget hu (pe_flK (K := K) rfl (pv 0) rfl) (pv 2) (fun _ _ => rfl)))
      (pss_cons (ps_set (i := 4) nd rfl (Or.inl rfl) (pe_callB c_lenS (by rfl) T.len PySem.boot_len (pa_cons (pv 1) pa_nil)))
      (pss_cutS (ps_while PassesOwn.never (PW.pt (pw_and (pt_cmpR op_gt (pv 4) pe_int (nomark _)) (pw_and1 (pt_cmpR op_inS (pe_ix ix_str (pv 1) (pe_op op_sub (pv 4) pe_int) (fun _ _ => rfl)) (pv 3) (by rfl)))))
      (pss_one (ps_set (i := 4) nd rfl (Or.inl rfl) (pe_op op_sub (pv 4) pe_int))))
      (pss_cutS (ps_if (PW.pt (pw_and (pt_cmpR op_gt (pv 4) pe_int (nomark _)) (pw_and1 (pt_cmpR op_eq (pe_ix ix_str (pv 1) (pe_op op_sub (pv 4) pe_int) (fun _ _ => rfl)) (pv 2) (nomark _)))))
      (pss_one (ps_ret (pe_op op_addS (pe_slice sl_S (pv 1) po_none (po_some (pe_op op_sub (pv 4) pe_int))) (pe_slice sl_S (pv 1) (po_some (pv 4)) po_none))))
      pss_nil)
      (pss_cutS (ps_while PassesOwn.never (PW.pt (pw_and (pt_cmpR op_lt (pv 4) (pe_callB c_lenS (by rfl) T.len PySem.boot_len (pa_cons (pv 1) pa_nil)) (nomark _)) (pw_and1 (pt_cmpR op_ltS (pe_ix ix_str (pv 1) (pv 4) (fun _ _ => rfl)) (pv 2) (nomark _)))))
      (pss_one (ps_set (i := 4) nd rfl (Or.inl rfl) (pe_op op_add (pv 4) pe_int))))
      (pss_one (ps_ret (pe_op op_addS (pe_op op_addS (pe_slice sl_S (pv 1) po_none (po_some (pv 4))) (pv 2)) (pe_slice sl_S (pv 1) (po_some (pv 4)) po_none))))))))), ?_⟩
  refine s_start [some _, some _, some _, none, none] rfl ?_
  obtain ⟨dx, t, d, a1, a2, a3⟩ := h1.ex
  walk_at "go"
  refine v_fld a1 T.Plan.cl T.nO planF_o ?_
  walk_at "go"
  refine v_dget (dget_let (g := fun k => V.str (tx (crossOf ks ps k))) a3 hk) ?_
  walk_at "go"
  refine s_cut (fun σ H' => ∃ ra b : List Nat, name = ra.reverse ++ b ∧ splitB (crossOf ks ps k) name.reverse [] = (ra, b) ∧ σ = [some (.ref x), some (.str (tx name)), some (.str (tx [k])), some (.str (tx (crossOf ks ps k))), some (.int (ra.length : Nat))] ∧ H' = H) ?_ ?_
  · refine s_while (fun m σ H' => ∃ ra b : List Nat, m = ra.length ∧ name = ra.reverse ++ b ∧ splitB (crossOf ks ps k) name.reverse [] = splitB (crossOf ks ps k) ra b ∧ σ = [some (.ref x), some (.str (tx name)), some (.str (tx [k])), some (.str (tx (crossOf ks ps k))), some (.int (ra.length : Nat))] ∧ H' = H) name.length ⟨name.reverse, [], by simp, by simp, rfl, by simp, rfl⟩ ?_
    rintro m σ H' ⟨ra, b, rfl, e1, e2, rfl, rfl⟩
    walk_at "go"
    cases ra with
    | nil =>
      refine if_dec (fun c => absurd c (by simp)) (fun _ => ?_)
      walk_at "go"
      exact ⟨[], b, e1, e2, rfl, rfl⟩
    | cons y r =>
      refine if_dec (fun _ => ?_) (fun c => absurd (by simp) c)
      walk_at "go"
      refine v_ixS (c := y) (by omega) (by rw [e1]; exact at_last) ?_
      walk_at "go"
      refine if_dec (fun c => ?_) (fun c => ?_)
      · refine v_turn ?_
        walk_at "go"
        refine ⟨r.length, by simp, r, y :: b, rfl, ?_, ?_, ?_, rfl⟩
        · rw [e1, List.reverse_cons, List.append_assoc]
          rfl
        · rw [e2]
          show (if y ∈ crossOf ks ps k then _ else _) = _
          rw [if_pos c]
        · have e : (((y :: r).length : Nat) : Int) - 1 = (r.length : Nat) := by
            rw [List.length_cons]
            omega
          rw [e]
          rfl
      · walk_at "go"
        refine ⟨y :: r, b, e1, ?_, rfl, rfl⟩
        rw [e2]
        show (if y ∈ crossOf ks ps k then _ else _) = _
        rw [if_neg c]
  rintro σ H' ⟨ra, b, e1, e2, rfl, rfl⟩
  have hl2 : ra.length + b.length = name.length := by
    rw [e1, List.length_append, List.length_reverse]
  have q : Q (.str (tx (stepAt k ra b))) H' := by
    have e : stepOf (crossOf ks ps k) name k = stepAt k ra b := by
      unfold stepOf
      rw [e2]
    rw [e] at q
    exact q
  refine s_cut (fun σ H2 => ra.head? ≠ some k ∧ σ = [some (.ref x), some (.str (tx name)), some (.str (tx [k])), some (.str (tx (crossOf ks ps k))), some (.int (ra.length : Nat))] ∧ H2 = H') ?_ ?_
  · walk_at "go"
    cases ra with
    | nil =>
      refine if_dec (fun c => absurd c (by simp)) (fun _ => ?_)
      walk_at "go"
      exact ⟨by simp, rfl, rfl⟩
    | cons y r =>
      refine if_dec (fun _ => ?_) (fun c => absurd (by simp) c)
      walk_at "go"
      refine v_ixS (c := y) (by omega) (by rw [e1]; exact at_last) ?_
      walk_at "go"
      rw [dec_tx]
      refine if_dec (fun c => ?_) (fun c => ?_)
      · walk_at "go"
        have ey : y = k := by
          injection c
        subst ey
        have e3 : (((y :: r).length : Nat) : Int) - 1 = (r.length : Nat) := by
          rw [List.length_cons]
          omega
        rw [e3]
        refine v_slTo (by omega) (by omega) ?_
        walk_at "go"
        refine v_slFrom (by omega) (by omega) ?_
        have e4 : name.take ((r.length : Nat) : Int).toNat = r.reverse := by
          rw [e1, List.reverse_cons, List.append_assoc]
          exact List.take_left' (by simp)
        have e5 : name.drop (((y :: r).length : Nat) : Int).toNat = b := by
          rw [e1]
          exact List.drop_left' (by simp)
        rw [e4, e5]
        refine v_addS (by rw [List.length_reverse]; rw [List.length_cons] at hl2; omega) ?_
        have e6 : stepAt y (y :: r) b = r.reverse ++ b := by
          unfold stepAt
          rw [if_pos (show (y :: r).head? = some y from rfl)]
          rfl
        rw [e6] at q
        exact q
      · walk_at "go"
        refine ⟨?_, rfl, rfl⟩
        intro z
        injection z with z
        exact c (by rw [z])
  rintro σ H2 ⟨hh, rfl, rfl⟩
  refine s_cut (fun σ H3 => ∃ c d : List Nat, b = c ++ d ∧ putIn k b = c ++ k :: d ∧ σ = [some (.ref x), some (.str (tx name)), some (.str (tx [k])), some (.str (tx (crossOf ks ps k))), some (.int ((ra.length + c.length : Nat) : Int))] ∧ H3 = H2) ?_ ?_
  · refine s_while (fun m σ H3 => ∃ c d : List Nat, m = d.length ∧ b = c ++ d ∧ putIn k b = c ++ putIn k d ∧ σ = [some (.ref x), some (.str (tx name)), some (.str (tx [k])), some (.str (tx (crossOf ks ps k))), some (.int ((ra.length + c.length : Nat) : Int))] ∧ H3 = H2) b.length ⟨[], b, rfl, rfl, rfl, rfl, rfl⟩ ?_
    rintro m σ H3 ⟨c, d, rfl, e3, e4, rfl, rfl⟩
    have hl3 : ra.length + (c.length + d.length) = name.length := by
      rw [← hl2, e3, List.length_append]
    walk_at "go"
    cases d with
    | nil =>
      refine if_dec (fun z => ?_) (fun _ => ?_)
      · rw [List.length_nil] at hl3
        omega
      walk_at "go"
      exact ⟨c, [], e3, e4, rfl, rfl⟩
    | cons y r =>
      rw [List.length_cons] at hl3
      refine if_dec (fun _ => ?_) (fun z => by omega)
      walk_at "go"
      refine v_ixS (c := y) (by omega) ?_ ?_
      · rw [e1, e3, ← List.append_assoc]
        have := at_mid (x := y) (a := ra.reverse ++ c) (b := r)
        rw [List.length_append, List.length_reverse] at this
        exact this
      walk_at "go"
      rw [lt_one]
      refine if_dec (fun z => ?_) (fun z => ?_)
      · refine v_turn ?_
        walk_at "go"
        refine ⟨r.length, by simp, c ++ [y], r, rfl, ?_, ?_, ?_, rfl⟩
        · rw [e3, List.append_assoc]
          rfl
        · rw [e4, List.append_assoc]
          congr 1
          unfold putIn
          rw [List.takeWhile_cons_of_pos (by simpa using z), List.dropWhile_cons_of_pos (by simpa using z)]
          rfl
        · have e : ((ra.length + c.length : Nat) : Int) + 1 = ((ra.length + (c ++ [y]).length : Nat) : Int) := by
            rw [List.length_append, List.length_singleton]
            omega
          rw [e]
          rfl
      · walk_at "go"
        refine ⟨c, y :: r, e3, ?_, rfl, rfl⟩
        rw [e4]
        congr 1
        unfold putIn
        rw [List.takeWhile_cons_of_neg (by simpa using z), List.dropWhile_cons_of_neg (by simpa using z)]
        rfl
  rintro σ H3 ⟨c, d, e3, e4, rfl, rfl⟩
  have hl3 : ra.length + (c.length + d.length) = name.length := by
    rw [← hl2, e3, List.length_append]
  walk_at "go"
  refine v_slTo (by omega) (by omega) ?_
  have e5 : name.take ((ra.length + c.length : Nat) : Int).toNat = ra.reverse ++ c := by
    rw [e1, e3, ← List.append_assoc]
    exact List.take_left' (by rw [List.length_append, List.length_reverse]; omega)
  have e6 : name.drop ((ra.length + c.length : Nat) : Int).toNat = d := by
    rw [e1, e3, ← List.append_assoc]
    exact List.drop_left' (by rw [List.length_append, List.length_reverse]; omega)
  rw [e5]
  have l1 : (ra.reverse ++ c).length + [k].length ≤ 1000000 := by
    rw [List.length_append, List.length_reverse, List.length_singleton]
    omega
  have l2 : (ra.reverse ++ c ++ [k]).length + d.length ≤ 1000000 := by
    rw [List.length_append, List.length_append, List.length_reverse, List.length_singleton]
    omega
  walk_at "go"
  refine v_slFrom (by omega) (by omega) ?_
  rw [e6]
  refine v_addS l2 ?_
  have e7 : stepAt k ra b = ra.reverse ++ c ++ [k] ++ d := by
    unfold stepAt
    rw [if_neg hh, e4]
    simp
  rw [e7] at q
  exact q
abbrev stjoined : Stmt := (top 31)
abbrev Njoined : List Str := ["plan", "name", "way", "kind"]
theorem scjoined : FnScope Njoined ["plan", "name", "way"] (defScope stjoined) := ⟨rfl, rfl, rfl, by decide +kernel, rfl, by decide +kernel, by decide +kernel⟩

theorem ok_joined (F : FnAt K mg "joined" stjoined) (D_stepped : Def P w K mg base CX0 1 "stepped" ["plan", "name", "kind"] (spStepped C)) : Def P w K mg base CX0 2 "joined" ["plan", "name", "way"] (spJoined C) := by
  refine F.ok scjoined (fun _ _ _ _ _ _ us hl => match us, hl with | [_, _, _], _ => rfl) (fun vs H Q E h => ?_) (fun f cdv A outer s H vs Q E hr h => ?_)
  · obtain ⟨x, ks, ps, name, k, rfl, _⟩ := h
    rfl
  obtain ⟨x, ks, ps, name, way, rfl, h1, hk, hl, q⟩ := h
  have hu := hu_of hr
  have nd := scjoined.nd
  refine ⟨_, (pss_cons (ps_for PassesOwn.never rfl (pi_str (pv 2)) (pg_name (i := 3) nd rfl (Or.inl rfl))
      (pss_one (ps_set (i := 1) nd rfl (Or.inl rfl) (pe_cd D_stepped hr pass0 (pa_cons (pv 0) (pa_cons (pv 1) (pa_cons (pv 3) pa_nil)))))))
      (pss_one (ps_ret (pv 1)))), ?_⟩
  refine s_start [some _, some _, some _, none] rfl ?_
  walk_at "go"
  refine for_it (walk_tx way) (fun i σ H' => ∃ z, σ = [some (.ref x), some (.str (tx (joinOf ks ps name (way.take i)))), some (.str (tx way)), z] ∧ H' = H) ⟨_, rfl, rfl⟩ (fun _ _ _ _ _ => trivial) ?_ ?_
  · rintro i v σ H2 H3 hi ⟨z, rfl, rfl⟩ ⟨rfl, rfl⟩
    walk_at "go"
    refine ⟨x, ks, ps, _, way.getD i 0, rfl, h1, hk _ (getD_mem hi), ?_, ?_⟩
    · have := joinOf_len ks ps (way.take i) name
      rw [List.length_take] at this
      omega
    walk_at "go"
    rw [← joinOf_snoc, ← take_getD hi]
    exact ⟨_, rfl, rfl⟩
  · rintro σ H2 ⟨z, rfl, rfl⟩
    walk_at "go"
    rw [List.take_of_length_le (Nat.le_refl _)]
    exact q
end
end
section
open PySem PySem.Spec L2
def roomF (x : Addr) (name : List Nat) : List (Str × V) := putF "name" (.str (tx name)) (putF "plan" (.ref x) [])
theorem npn : ¬ (("plan" : Str) = "name") := by decide +kernel
theorem roomF_p {x : Addr} {name : List Nat} : (roomF x name).lookup ("plan" : Str) = some (.ref x) := by
  unfold roomF
  rw [lookup_putF, if_neg npn, lookup_putF, if_pos rfl]
theorem roomF_n {x : Addr} {name : List Nat} : (roomF x name).lookup ("name" : Str) = some (.str (tx name)) := by
  unfold roomF
  rw [lookup_putF, if_pos rfl]
/-- a room of the plan at x stands at r -/
structure RoomAt (R : Addr) (H : Hp) (r x : Addr) (name : List Nat) : Prop where
  ex : ∃ dx, H r = some (.ins R dx (roomF x name))
theorem RoomAt.same {R : Addr} {H H' : Hp} {r x : Addr} {name : List Nat} (h : RoomAt R H r x name) (s : Same H H') : RoomAt R H' r x name := by
  obtain ⟨dx, e⟩ := h.ex
  exact ⟨dx, s _ _ e⟩
structure TxtR (K : PySem.W.Frag) (mg : Str → Option Value) (C R O : Addr) : Prop extends TxtP K mg C where
  enumerate : mg "enumerate" = none
  g_MOST_LETTERS : ∃ t, mg "MOST_LETTERS" = some (.int 2000 t)
  Room : ClsF K mg "Room" R
  nPl : NoAttr K R "plan"
  nNm : NoAttr K R "name"
  OtherPlan : ExcF K mg "OtherPlan" O
def spNeedWay (C : Addr) : Sp := fun vs H Q _ => ∃ (x : Addr) (ks : List Nat) (ps : List (List Nat)) (way : List Nat), vs = [.ref x, .str (tx way)] ∧ PlanAt C H x ks ps ∧ (∀ c ∈ way, c ∈ ks) ∧ way.length ≤ 2000 ∧ ∀ H', Same H H' → Q (.str (tx way)) H'
/-- two plans, and what is due if they are equal and if not -/
def Plans2 (C : Addr) (H : Hp) (x y : Addr) (e : Bool) : Prop := ∃ (ks ks' : List Nat) (ps ps' : List (List Nat)), PlanAt C H x ks ps ∧ PlanAt C H y ks' ps' ∧ PsOk ps ∧ PsOk ps' ∧ e = decide (ks = ks' ∧ ps = ps')
def spRoom0 (C R : Addr) : Sp := fun vs H Q _ => ∃ (r dx x : Addr) (ks : List Nat) (ps : List (List Nat)) (way : List Nat), vs = [.ref r, .ref x, .str (tx way)] ∧ H r = some (.ins R dx []) ∧ PlanAt C H x ks ps ∧ (∀ c ∈ way, c ∈ ks) ∧ way.length ≤ 2000 ∧
  ∀ H', Keep r H H' → RoomAt R H' r x (joinOf ks ps [] way) → Q .non H'
def spRoom (C R : Addr) : Sp := fun vs H Q _ => ∃ (x : Addr) (ks : List Nat) (ps : List (List Nat)) (way : List Nat), vs = [.ref x, .str (tx way)] ∧ PlanAt C H x ks ps ∧ (∀ c ∈ way, c ∈ ks) ∧ way.length ≤ 2000 ∧ ∀ r H', H r = none → Same H H' → RoomAt R H' r x (joinOf ks ps [] way) → Q (.ref r) H'
theorem PlanAt.none {C : Addr} {H : Hp} {x : Addr} {ks : List Nat} {ps : List (List Nat)} (h : PlanAt C H x ks ps) {a b : Addr} {o u : HO} (ha : H a = none) (hb : H b = none) : PlanAt C (upd (upd H a o) b u) x ks ps := by
  refine h.same fun c z hc => ?_
  rw [upd_ne (ne_of_none hc hb), upd_ne (ne_of_none hc ha)]
  exact hc
theorem conv_room (C R : Addr) : Conv R (spRoom0 C R) (spRoom C R) := by
  rintro vs H Q E ⟨x, ks, ps, way, rfl, hp, h1, h2, k⟩ r dx hx hdx hne
  refine ⟨r, dx, x, ks, ps, way, rfl, upd_same, hp.none hdx hx, h1, h2, fun H' s' a => ⟨rfl, k r H' hx (fun b o hb => ?_) a⟩⟩
  refine s' b o ?_ (ne_of_none hb hx)
  rw [upd_ne (ne_of_none hb hx), upd_ne (ne_of_none hb hdx)]
  exact hb
section
variable {P : Program} {w : World} {K : PySem.W.Frag} {mg : Str → Option Value} {base : Heap} {C R O : Addr}
abbrev stneed_way : Stmt := (top 19)
abbrev Nneed_way : List Str := ["plan", "way", "index", "letter"]
theorem scneed_way : FnScope Nneed_way ["plan", "way"] (defScope stneed_way) := ⟨rfl, rfl, rfl, by decide +kernel, rfl, by decide +kernel, by decide +kernel⟩

theorem ok_need_way (F : FnAt K mg "need_way" stneed_way) (T : TxtR K mg C R O) : Def P w K mg base CX0 1 "need_way" ["plan", "way"] (spNeedWay C) := by
  refine F.ok scneed_way (fun _ _ _ _ _ _ us hl => match us, hl with | [_, _], _ => rfl) (fun vs H Q E h => ?_) (fun f cdv A outer s H vs Q E hr h => ?_)
  · obtain ⟨x, ks, ps, way, rfl, _⟩ := h
    rfl
  obtain ⟨x, ks, ps, way, rfl, h1, hk, hl, q⟩ := h
  have hu := hu_of hr
  have nd := scneed_way.nd
  refine ⟨_, (pss_cons (ps_if (pt_not (pt_val (pe_callB (c_isiK (K := K) rfl) (by rfl) T.isinstance (by decide +kernel) (pa_cons (pv 1) (pa_cons (pe_bltn (v := .ty "str") (u := .type "str") (by rfl) T.str (by decide +kernel) rfl) pa_nil)))))
      (pss_one ps_never)
      pss_nil)
      (pss_cons (ps_for PassesOwn.never rfl (pi_enumS (by rfl) T.enumerate (pa_cons (pv 1) pa_nil)) (pg_tup rfl (pgs_cons (pg_name (i := 2) nd rfl (Or.inl rfl)) (pgs_cons (pg_name (i := 3) nd rfl (Or.inl rfl)) pgs_nil)))
      (pss_one (ps_if (pt_cmpR op_notInS (pv 3) (pe_flK (K := K) rfl (pv 0) rfl) (by rfl))
        (pss_one ps_never)
        pss_nil)))
      (pss_cons (ps_if (pt_cmpR op_gt (pe_callB c_lenS (by rfl) T.len PySem.boot_len (pa_cons (pv 1) pa_nil)) (pe_globI T.g_MOST_LETTERS) (nomark _))
      (pss_one ps_never)
      pss_nil)
      (pss_one (ps_ret (pv 1)))))), ?_⟩
  refine s_start [some _, some _, none, none] rfl ?_
  walk_at "go"
  refine for_it (walk_enumS way) (fun i σ H' => ∃ y z, σ = [some (.ref x), some (.str (tx way)), y, z] ∧ Same H H') ⟨_, _, rfl, Same.refl _⟩ (fun _ _ _ _ _ => trivial) ?_ ?_
  · rintro i v σ H2 H3 hi ⟨y, z, rfl, s2⟩ ⟨t, c, rfl, ht, rfl, hc⟩
    have s3 : Same H (upd H2 t (.tup [.int (i : Nat), .str (tx [c])])) := s2.trans (Same.new ht)
    obtain ⟨dx, t', d, a1, a2, a3⟩ := h1.ex
    refine v_gTup2 rfl upd_same ?_
    walk_at "go"
    refine v_fld (s3 _ _ a1) T.Plan.cl T.nK planF_k ?_
    walk_at "go"
    refine if_ndec (fun z => absurd (hk c (List.mem_of_getElem? hc)) z) (fun _ => ?_)
    walk_at "go"
    exact ⟨_, _, rfl, s3⟩
  · rintro σ H2 ⟨y, z, rfl, s2⟩
    walk_at "go"
    refine if_dec (fun c => ?_) (fun c => ?_)
    · omega
    walk_at "go"
    exact q H2 s2
abbrev stRoom_init : Stmt := (inClass (top 55) 0)
abbrev NRoom_init : List Str := ["self", "plan", "way"]
theorem scRoom_init : FnScope NRoom_init ["self", "plan", "way"] (defScope stRoom_init) := ⟨rfl, rfl, rfl, by decide +kernel, rfl, by decide +kernel, by decide +kernel⟩

theorem ok_Room {dvs : List V} (F : MAtD K R "__init__" "Room.__init__" stRoom_init dvs) (hd : dvs.length = 1) (T : TxtR K mg C R O) (D_need_way : Def P w K mg base CX0 1 "need_way" ["plan", "way"] (spNeedWay C)) (D_joined : Def P w K mg base CX0 2 "joined" ["plan", "name", "way"] (spJoined C)) :
    CMk P w K mg base CX0 3 "Room" R (spRoom C R) ["self", "plan", "way"] "Room.__init__" stRoom_init dvs := by
  refine F.make (sp0 := spRoom0 C R) T.Room scRoom_init (by intro z; rw [z] at hd; cases hd) (fun T kV doc pm an cdv ct us its l1 l2 => ?_) (fun vs H Q E h => ?_) (conv_room C R) (fun f cdv A outer s H vs Q E hr h => ?_)
  · rw [hd] at l2 ⊢
    match us, l1, its, l2 with
    | [_, _, _], _, [_], _ => exact ⟨_, rfl, rfl⟩
  · obtain ⟨r, dx, x, ks, ps, way, rfl, _⟩ := h
    rfl
  obtain ⟨r, dx, x, ks, ps, way, rfl, hx, hp, h1, h2, k⟩ := h
  have hu := hu_of hr
  have nd := scRoom_init.nd
  replace D_need_way := D_need_way.mono (show 1 ≤ 2 by decide)
  refine ⟨_, (pss_cons (ps_flK (K := K) rfl (pv 0) (pv 1) rfl)
      (pss_one (ps_flK (K := K) rfl (pv 0) (pe_cd D_joined hr pass0 (pa_cons (pv 1) (pa_cons (pe_tx [] (by decide +kernel)) (pa_cons (pe_cd D_need_way hr pass0 (pa_cons (pv 1) (pa_cons (pv 2) pa_nil))) pa_nil)))) rfl))), ?_⟩
  refine s_start [some _, some _, some _] rfl ?_
  walk_at "go"
  refine v_sfld hx T.Room.cl T.nPl (by decide) fun H1 s1 e1 => ?_
  walk_at "go"
  have hp1 : PlanAt C H1 x ks ps := by
    obtain ⟨dx', t', d, a1, a2, a3⟩ := hp.ex
    exact ⟨dx', t', d, s1 _ _ a1 (fun z => by rw [z, hx] at a1; injection a1 with a1; injection a1 with _ _ a1; cases a1), s1 _ _ a2 (ne_of a2 hx (by intro z; cases z)), s1 _ _ a3 (ne_of a3 hx (by intro z; cases z))⟩
  refine ⟨x, ks, ps, way, rfl, hp1, h1, h2, fun H2 s2 => ?_⟩
  walk_at "go"
  refine ⟨x, ks, ps, [], way, rfl, hp1.same s2, h1, by rw [List.length_nil]; omega, ?_⟩
  walk_at "go"
  refine v_sfld (s2 _ _ e1) T.Room.cl T.nNm (by show 1 < 1000; decide) fun H3 s3 e3 => ?_
  refine k H3 (fun b o hb nb => s3 _ _ (s2 _ _ (s1 _ _ hb nb)) nb) ⟨dx, e3⟩
end
end
section
open PySem PySem.Spec L2
theorem Plans2.same {C : Addr} {H H' : Hp} {x y : Addr} {e : Bool} (h : Plans2 C H x y e) (s : Same H H') : Plans2 C H' x y e := by
  obtain ⟨ks, ks', ps, ps', a, b, c⟩ := h
  exact ⟨ks, ks', ps, ps', a.same s, b.same s, c⟩
def spRoomLen (R : Addr) : Sp := fun vs H Q _ => ∃ (r x : Addr) (name : List Nat), vs = [.ref r] ∧ RoomAt R H r x name ∧ name.length ≤ 100000 ∧ Q (.int name.length) H
/-- two rooms, and whether their plans are equal -/
structure Rooms2 (C R : Addr) (H : Hp) (r x : Addr) (a : List Nat) (r' y : Addr) (b : List Nat) (e : Bool) : Prop where
  one : RoomAt R H r x a
  two : RoomAt R H r' y b
  pl : Plans2 C H x y e
  la : a.length ≤ 2000
  lb : b.length ≤ 2000
theorem Rooms2.same {C R : Addr} {H H' : Hp} {r x : Addr} {a : List Nat} {r' y : Addr} {b : List Nat} {e : Bool} (h : Rooms2 C R H r x a r' y b e) (s : Same H H') : Rooms2 C R H' r x a r' y b e := ⟨h.one.same s, h.two.same s, h.pl.same s, h.la, h.lb⟩
def spRoomEq (C R : Addr) : Sp := fun vs H Q _ => ∃ (r x : Addr) (a : List Nat) (r' y : Addr) (b : List Nat) (e : Bool), vs = [.ref r, .ref r'] ∧ Rooms2 C R H r x a r' y b e ∧ Q (.bl (e && decide (a = b))) H
theorem roomF_no {x : Addr} {name : List Nat} {m : Str} (h1 : ¬ m = "name") (h2 : ¬ m = "plan") : (roomF x name).lookup m = none := by
  unfold roomF
  rw [lookup_putF, if_neg h1, lookup_putF, if_neg h2]
  rfl
section
variable {P : Program} {w : World} {K : PySem.W.Frag} {mg : Str → Option Value} {base : Heap} {C R O : Addr}
end
end
section
open PySem PySem.Spec L2
def spPen (K : PySem.W.Frag) : Sp := fun vs H Q _ => ∃ (a : Addr) (ns : List Int), vs = [.ref a] ∧ SqL K H a (ns.map V.int) ∧ ns.length ≤ 63 ∧ ∀ (g : Pen) (H' : Hp), PenAt g H' 0 → Same H H' → H g.p = none → Q (.ref g.p) H'
theorem cut_ints (ns : List Int) (lo hi : Option Int) : ∃ ms : List Int, cutV (ns.map V.int) lo hi = ms.map V.int ∧ ms.length ≤ ns.length := by
  unfold cutV
  rw [← List.map_drop, ← List.map_take]
  refine ⟨_, rfl, ?_⟩
  rw [List.length_take, List.length_drop]
  omega
section
variable {P : Program} {w : World} {K : PySem.W.Frag} {mg : Str → Option Value} {base : Heap}
abbrev stpen : Stmt := (top 64)
abbrev Npen : List Str := ["_law_script"]
theorem scpen : FnScope Npen ["_law_script"] (defScope stpen) := ⟨rfl, rfl, rfl, by decide +kernel, rfl, by decide +kernel, by decide +kernel⟩

theorem ok_pen (F : FnAt K mg "_law_pen" stpen) (T : Txt K mg) : Def P w K mg base CX0 1 "_law_pen" ["_law_script"] (spPen K) := by
  refine F.ok scpen (fun _ _ _ _ _ _ us hl => match us, hl with | [_], _ => rfl) (fun vs H Q E h => ?_) (fun f cdv A outer s H vs Q E hr h => ?_)
  · obtain ⟨a, ns, rfl, _⟩ := h
    rfl
  obtain ⟨a, ns, rfl, ha, hn, k⟩ := h
  have hu := hu_of hr
  have nd := scpen.nd
  refine ⟨_, (pss_one (ps_ret (pe_disp (pps_cons pe_str (pe_callTy (c_listK (K := K) rfl) (by rfl) T.list (by decide +kernel) (pa_cons (pe_slice (sl_LK (K := K) rfl) (pv 0) po_none (po_some pe_int)) pa_nil)) (pps_cons pe_str pe_int (pps_cons pe_str pe_int pps_nil))) (by rfl) (by rfl) (fun z => by cases z) (by decide)))), ?_⟩
  refine s_start [some _] rfl ?_
  walk_at "go"
  intro p hp
  have s1 : Same H (upd H p (.dK [])) := Same.new hp
  obtain ⟨ms, e1, l1⟩ := cut_ints ns none (some 63)
  walk_at "go"
  refine v_slL (sqL_same ha s1) fun b H2 hb s2 e2 => ?_
  rw [e1] at e2
  walk_at "go"
  refine v_list (SqL.of e2) fun c H3 hc s3 e3 => ?_
  walk_at "go"
  have ep : H3 p = some (.dK []) := s3 _ _ (s2 _ _ upd_same)
  refine ⟨ep, [(Sum.inr "cells", .ref c), (Sum.inr "spot", .int 0), (Sum.inr "rest", .int 0)], rfl, (by show 3 ≤ 15; decide), ?_⟩
  have hcp : c ≠ p := (ne_of_none (s2 _ _ upd_same) hc).symm
  have em : mergeK [] [(Sum.inr ("cells" : Str), V.ref c), (Sum.inr ("spot" : Str), .int 0), (Sum.inr ("rest" : Str), .int 0)] = penL c 0 0 := by
    unfold mergeK penL
    rw [List.foldl_cons, List.foldl_cons, List.foldl_cons, List.foldl_nil]
    rw [putK_new (k := Sum.inr ("cells" : Str)) _ rfl, putK_new (k := Sum.inr ("spot" : Str)) _ (by rw [List.nil_append, valV_neg kcp]; rfl), putK_new (k := Sum.inr ("rest" : Str)) _ (by rw [List.nil_append, List.cons_append, valV_neg kcr, List.nil_append, valV_neg kpr]; rfl)]
    rfl
  rw [em]
  have s4 : Same H (upd H3 p (.dK (penL c 0 0))) := fun b' o hb' => by
    rw [upd_ne (ne_of_none hb' hp)]
    exact s3 _ _ (s2 _ _ (s1 _ _ hb'))
  refine k ⟨p, c, ms⟩ _ ⟨0, 0, upd_same, ?_, by show ms.length ≤ 63; omega, by omega, by omega, by omega⟩ s4 hp
  show upd H3 p _ c = _
  rw [upd_ne hcp]
  exact e3
end
end
section
open PySem PySem.Spec L2
theorem cells_ne {k : Nat} : ¬ ((Sum.inr (tx [k]) : Key) = Sum.inr ("cells" : Str)) := by
  intro h
  injection h with h
  have : (tx [k]).length = ("cells" : Str).length := by rw [h]
  rw [tx_len, List.length_singleton] at this
  exact absurd this (by decide +kernel)
theorem RoomAt.pen {R : Addr} {H H' : Hp} {r x : Addr} {nm : List Nat} {g : Pen} {n : Nat} (h : RoomAt R H r x nm) (p : PenAt g H n) (k : Keep g.p H H') : RoomAt R H' r x nm := by
  obtain ⟨dx, e⟩ := h.ex
  obtain ⟨a, b, h1, _⟩ := p.ex
  exact ⟨dx, k _ _ e (ne_of e h1 (by intro z; cases z))⟩
theorem PlanAt.pen {C : Addr} {H H' : Hp} {x : Addr} {ks : List Nat} {ps : List (List Nat)} {g : Pen} {n : Nat} (h : PlanAt C H x ks ps) (p : PenAt g H n) (k : Keep g.p H H') : PlanAt C H' x ks ps := by
  obtain ⟨dx, t, d, a1, a2, a3⟩ := h.ex
  obtain ⟨a, b, h1, _⟩ := p.ex
  refine ⟨dx, t, d, k _ _ a1 (ne_of a1 h1 (by intro z; cases z)), k _ _ a2 (ne_of a2 h1 (by intro z; cases z)), k _ _ a3 fun z => ?_⟩
  rw [z, h1] at a3
  injection a3 with a3
  injection a3 with a3
  unfold crossKV penL at a3
  generalize hk : ks.map _ = m at a3
  cases ks with
  | nil => rw [List.map_nil] at hk; rw [← hk] at a3; cases a3
  | cons c r =>
    rw [List.map_cons] at hk
    rw [← hk] at a3
    injection a3 with a3 _
    injection a3 with a3 _
    exact cells_ne a3.symm
theorem RoomAt.lst {R : Addr} {H H' : Hp} {r x q : Addr} {nm : List Nat} {l : List V} (h : RoomAt R H r x nm) (e0 : H q = some (.lst l)) (k : Keep q H H') : RoomAt R H' r x nm := by
  obtain ⟨dx, e⟩ := h.ex
  exact ⟨dx, k _ _ e (ne_of e e0 (by intro z; cases z))⟩
theorem PlanAt.lst {C : Addr} {H H' : Hp} {x q : Addr} {ks : List Nat} {ps : List (List Nat)} {l : List V} (h : PlanAt C H x ks ps) (e0 : H q = some (.lst l)) (k : Keep q H H') : PlanAt C H' x ks ps := by
  obtain ⟨dx, t, d, a1, a2, a3⟩ := h.ex
  exact ⟨dx, t, d, k _ _ a1 (ne_of a1 e0 (by intro z; cases z)), k _ _ a2 (ne_of a2 e0 (by intro z; cases z)), k _ _ a3 (ne_of a3 e0 (by intro z; cases z))⟩
end
section
open PySem PySem.Spec L2
/-- a room and a text -/
def spRoomEqS (R : Addr) : Sp := fun vs H Q _ => ∃ (r : Addr) (z : Str), vs = [.ref r, .str z] ∧ Q (.bl false) H
section
variable {P : Program} {w : World} {K : PySem.W.Frag} {mg : Str → Option Value} {base : Heap} {C R O : Addr}
end
end
section
open PySem PySem.Spec L2
def spPick : Sp := fun vs H Q _ => ∃ (g : Pen) (n : Nat) (q : Addr) (xs : List V), vs = [.ref g.p, .ref q] ∧ H q = some (.lst xs) ∧ 0 < xs.length ∧ xs.length < 1000000 ∧ PenAt g H n ∧ n < 1000000 ∧ q ≠ g.p ∧
  ∀ v H', v ∈ xs → PenAt g H' (n + 1) → Keep g.p H H' → Q v H'
section
variable {P : Program} {w : World} {K : PySem.W.Frag} {mg : Str → Option Value} {base : Heap}
abbrev stpick : Stmt := (top 66)
abbrev Npick : List Str := ["_law_pen_here", "_law_items"]
theorem scpick : FnScope Npick ["_law_pen_here", "_law_items"] (defScope stpick) := ⟨rfl, rfl, rfl, by decide +kernel, rfl, by decide +kernel, by decide +kernel⟩

theorem ok_pick (F : FnAt K mg "_law_pick" stpick) (T : Txt K mg) (D_draw : Def P w K mg base CX0 1 "_law_draw" ["_law_pen_here", "_law_many"] spDraw) : Def P w K mg base CX0 2 "_law_pick" ["_law_pen_here", "_law_items"] spPick := by
  refine F.ok scpick (fun _ _ _ _ _ _ us hl => match us, hl with | [_, _], _ => rfl) (fun vs H Q E h => ?_) (fun f cdv A outer s H vs Q E hr h => ?_)
  · obtain ⟨g, n, q, xs, rfl, _⟩ := h
    rfl
  obtain ⟨g, n, q, xs, rfl, hq, h0, h1, hp, hn, hne, k⟩ := h
  have hu := hu_of hr
  have nd := scpick.nd
  refine ⟨_, (pss_one (ps_ret (pe_ix (ix_LK (K := K) rfl) (pv 1) (pe_cd D_draw hr pass0 (pa_cons (pv 0) (pa_cons (pe_callB (c_lenK (K := K) rfl) (by rfl) T.len PySem.boot_len (pa_cons (pv 1) pa_nil)) pa_nil))) (fun _ _ => rfl)))), ?_⟩
  refine s_start [some _, some _] rfl ?_
  walk_at "go"
  refine ⟨g, xs.length, n, rfl, by omega, by omega, hp, hn, fun z H1 z0 z1 p1 k1 => ?_⟩
  walk_at "go"
  have hz : z.toNat < xs.length := by omega
  refine v_ixL (k1 _ _ hq hne) (at_of (j := z.toNat) (by omega) (List.getElem?_eq_getElem hz)) ?_
  exact k _ H1 (List.getElem_mem hz) p1 k1
end
end
section
open PySem PySem.Spec L2
structure TxtH (K : PySem.W.Frag) (mg : Str → Option Value) : Prop extends Txt K mg where
  range : mg "range" = none
section
variable {P : Program} {w : World} {K : PySem.W.Frag} {mg : Str → Option Value} {base : Heap}
end
end
section
open PySem PySem.Spec L2
structure TxtV (K : PySem.W.Frag) (mg : Str → Option Value) : Prop extends TxtH K mg where
  tuple : mg "tuple" = none
  min : mg "min" = none
  dict : mg "dict" = none
section
variable {P : Program} {w : World} {K : PySem.W.Frag} {mg : Str → Option Value} {base : Heap}
end
end
section
open PySem PySem.Spec L2
section
variable {P : Program} {w : World} {K : PySem.W.Frag} {mg : Str → Option Value} {base : Heap}
end
end
section
open PySem PySem.Spec L2
section
variable {P : Program} {w : World} {K : PySem.W.Frag} {mg : Str → Option Value} {base : Heap}
end
end
section
open PySem PySem.Spec L2
section
variable {P : Program} {w : World} {K : PySem.W.Frag} {mg : Str → Option Value} {base : Heap}
end
end
section
open PySem PySem.Spec L2
theorem if_nI {c A B : Prop} {inst : Decidable c} (h : c) (q : B) : if (!decide c) = true then A else B := if_ndec (fun z => absurd h z) (fun _ => q)
theorem if_I {c A B : Prop} {inst : Decidable c} (h : c) (q : A) : if decide c = true then A else B := if_dec (fun _ => q) (fun z => absurd h z)
/-! ### rooms of one plan -/
theorem RoomAt.go {R : Addr} {H H' : Hp} {r x : Addr} {name : List Nat} (s : Same H H') (h : RoomAt R H r x name) : RoomAt R H' r x name := h.same s
theorem PlanAt.go {C : Addr} {H H' : Hp} {x : Addr} {ks : List Nat} {ps : List (List Nat)} (s : Same H H') (h : PlanAt C H x ks ps) : PlanAt C H' x ks ps := h.same s
section
variable {K : PySem.W.Frag} {H : Hp} {Q : VK} {C R r r' x : Addr} {a b : List Nat} {ks : List Nat} {ps : List (List Nat)} {E : XK}
theorem v_rname {P : V → Prop} (h : RoomAt R H r x a) (c : Cls K R) (n : NoAttr K R "name") (q : P (.str (tx a))) : ∃ a' C dx fs v, V.ref r = .ref a' ∧ H a' = some (.ins C dx fs) ∧ Cls K C ∧ NoAttr K C "name" ∧ fs.lookup ("name" : Str) = some v ∧ P v := by
  obtain ⟨dx, e⟩ := h.ex
  exact v_fld e c n roomF_n q
theorem v_rnameG {P : V → Prop} (q : ∃ R x a, RoomAt R H r x a ∧ Cls K R ∧ NoAttr K R "name" ∧ P (.str (tx a))) : ∃ a' C dx fs v, V.ref r = .ref a' ∧ H a' = some (.ins C dx fs) ∧ Cls K C ∧ NoAttr K C "name" ∧ fs.lookup ("name" : Str) = some v ∧ P v := by
  obtain ⟨R, x, a, h, c, n, q⟩ := q
  exact v_rname h c n q
theorem v_rplan {P : V → Prop} (h : RoomAt R H r x a) (c : Cls K R) (n : NoAttr K R "plan") (q : P (.ref x)) : ∃ a' C dx fs v, V.ref r = .ref a' ∧ H a' = some (.ins C dx fs) ∧ Cls K C ∧ NoAttr K C "plan" ∧ fs.lookup ("plan" : Str) = some v ∧ P v := by
  obtain ⟨dx, e⟩ := h.ex
  exact v_fld e c n roomF_p q
theorem v_rplanG {P : V → Prop} (q : ∃ R x a, RoomAt R H r x a ∧ Cls K R ∧ NoAttr K R "plan" ∧ P (.ref x)) : ∃ a' C dx fs v, V.ref r = .ref a' ∧ H a' = some (.ins C dx fs) ∧ Cls K C ∧ NoAttr K C "plan" ∧ fs.lookup ("plan" : Str) = some v ∧ P v := by
  obtain ⟨R, x, a, h, c, n, q⟩ := q
  exact v_rplan h c n q
theorem rooms2 (h1 : RoomAt R H r x a) (h2 : RoomAt R H r' x b) (pl : PlanAt C H x ks ps) (ok : PsOk ps) (la : a.length ≤ 2000) (lb : b.length ≤ 2000) : Rooms2 C R H r x a r' x b true := ⟨h1, h2, ⟨ks, ks, ps, ps, pl, pl, ok, ok, (decide_eq_true ⟨rfl, rfl⟩).symm⟩, la, lb⟩
theorem v_req (h1 : RoomAt R H r x a) (h2 : RoomAt R H r' x b) (pl : PlanAt C H x ks ps) (ok : PsOk ps) (la : a.length ≤ 2000) (lb : b.length ≤ 2000) (q : Q (.bl (decide (a = b))) H) : rM2 R (spRoomEq C R) E (.ref r) (.ref r') H Q := by
  obtain ⟨dx, e1⟩ := h1.ex
  obtain ⟨dy, e2⟩ := h2.ex
  refine v_M2 e1 e2 ⟨_, _, _, _, _, _, _, rfl, rooms2 h1 h2 pl ok la lb, ?_⟩
  rw [Bool.true_and]
  exact q
theorem v_rne (h1 : RoomAt R H r x a) (h2 : RoomAt R H r' x b) (pl : PlanAt C H x ks ps) (ok : PsOk ps) (la : a.length ≤ 2000) (lb : b.length ≤ 2000) (q : Q (.bl (!decide (a = b))) H) : rM2n R (spRoomEq C R) E (.ref r) (.ref r') H Q := by
  obtain ⟨dx, e1⟩ := h1.ex
  obtain ⟨dy, e2⟩ := h2.ex
  refine v_M2n e1 e2 ⟨_, _, _, _, _, _, _, rfl, rooms2 h1 h2 pl ok la lb, ?_⟩
  rw [Bool.true_and]
  exact ⟨_, rfl, q⟩
theorem v_rlen (h : RoomAt R H r x a) (l : a.length ≤ 100000) (q : Q (.int a.length) H) : rLenM R (spRoomLen R) E [.ref r] H Q := by
  obtain ⟨dx, e⟩ := h.ex
  exact v_lenM e ⟨_, _, _, rfl, h, l, a.length, rfl, by omega, q⟩
theorem v_reqT {z : Str} (h : RoomAt R H r x a) (q : Q (.bl false) H) : rMS R (spRoomEqS R) E (.ref r) (.str z) H Q := by
  obtain ⟨dx, e⟩ := h.ex
  exact v_MS e ⟨_, _, rfl, q⟩
theorem v_rlenG (q : ∃ x a, RoomAt R H r x a ∧ a.length ≤ 100000 ∧ Q (.int a.length) H) : rLenM R (spRoomLen R) E [.ref r] H Q := by
  obtain ⟨x, a, h, l, q⟩ := q
  exact v_rlen h l q
theorem v_reqG (q : ∃ x a b ks ps, RoomAt R H r x a ∧ RoomAt R H r' x b ∧ PlanAt C H x ks ps ∧ PsOk ps ∧ a.length ≤ 2000 ∧ b.length ≤ 2000 ∧ Q (.bl (decide (a = b))) H) : rM2 R (spRoomEq C R) E (.ref r) (.ref r') H Q := by
  obtain ⟨x, a, b, ks, ps, h1, h2, h3, h4, h5, h6, q⟩ := q
  exact v_req h1 h2 h3 h4 h5 h6 q
theorem v_rneG (q : ∃ x a b ks ps, RoomAt R H r x a ∧ RoomAt R H r' x b ∧ PlanAt C H x ks ps ∧ PsOk ps ∧ a.length ≤ 2000 ∧ b.length ≤ 2000 ∧ Q (.bl (!decide (a = b))) H) : rM2n R (spRoomEq C R) E (.ref r) (.ref r') H Q := by
  obtain ⟨x, a, b, ks, ps, h1, h2, h3, h4, h5, h6, q⟩ := q
  exact v_rne h1 h2 h3 h4 h5 h6 q
theorem v_reqTG {z : Str} (q : ∃ x a, RoomAt R H r x a ∧ Q (.bl false) H) : rMS R (spRoomEqS R) E (.ref r) (.str z) H Q := by
  obtain ⟨x, a, h, q⟩ := q
  exact v_reqT h q
theorem v_peqS {x : Addr} (pl : PlanAt C H x ks ps) (ok : PsOk ps) (q : Q (.bl true) H) : rM2 C (spPlanEq C) E (.ref x) (.ref x) H Q := by
  obtain ⟨dx, t, d, e, _⟩ := pl.ex
  refine v_M2 e e ⟨_, _, _, _, _, _, rfl, pl, pl, ok, ok, ?_⟩
  rw [decide_eq_true ⟨rfl, rfl⟩]
  exact q
theorem v_peqG {x : Addr} (q : ∃ ks ps, PlanAt C H x ks ps ∧ PsOk ps ∧ Q (.bl true) H) : rM2 C (spPlanEq C) E (.ref x) (.ref x) H Q := by
  obtain ⟨ks, ps, h1, h2, q⟩ := q
  exact v_peqS h1 h2 q
end
/-! ### rooms of a drawn floor -/
section
variable {K : PySem.W.Frag} {H : Hp} {Q : VK} {C R r x : Addr} {ls : List Nat} {fn : Nat → List Nat} {a b w : List Nat} {k : Nat} {E : XK}
end
theorem v_mdRG {R r : Addr} {H : Hp} {m : Str} {P : Prop} (q : ∃ x a, RoomAt R H r x a ∧ (¬ m = "name" ∧ ¬ m = "plan") ∧ P) : ∃ a dx fs, V.ref r = .ref a ∧ H a = some (.ins R dx fs) ∧ fs.lookup m = none ∧ P := by
  obtain ⟨x, a, h, ⟨h1, h2⟩, q⟩ := q
  obtain ⟨dx, e⟩ := h.ex
  exact ⟨r, dx, _, rfl, e, roomF_no h1 h2, q⟩
end
section
open PySem PySem.Spec L2
section
variable {P : Program} {w : World} {K : PySem.W.Frag} {mg : Str → Option Value} {base : Heap} {C : Addr}
end
end
section
open PySem PySem.Spec L2
section
variable {P : Program} {w : World} {K : PySem.W.Frag} {mg : Str → Option Value} {base : Heap} {C R O : Addr}
end
end
section
open PySem PySem.Spec L2
section
variable {P : Program} {w : World} {K : PySem.W.Frag} {mg : Str → Option Value} {base : Heap} {C R O : Addr}
end
/-! ### of a drawn floor -/
section
variable {K : PySem.W.Frag} {H : Hp} {Q : VK} {C R O r r' x : Addr} {ls : List Nat} {fn : Nat → List Nat} {a b : List Nat} {E : XK}
end
end
section
open PySem PySem.Spec L2
structure TxtA0 (K : PySem.W.Frag) (mg : Str → Option Value) (C : Addr) : Prop extends TxtP K mg C where
  any : mg "any" = none
structure TxtA (K : PySem.W.Frag) (mg : Str → Option Value) (C R O : Addr) : Prop extends TxtR K mg C R O where
  any : mg "any" = none
def strsG (Gs : List (List Nat)) : List V := Gs.map fun G => V.str (tx G)
theorem planF_no {ks : List Nat} {t d : Addr} {m : Str} (h : ¬ m = "kinds" ∧ ¬ m = "pairs" ∧ ¬ m = "own_crossing") : (planF ks t d).lookup m = none := by
  unfold planF
  rw [lookup_putF, if_neg h.2.2, lookup_putF, if_neg h.2.1, lookup_putF, if_neg h.1]
  rfl
theorem v_mdP {P : Prop} {C x : Addr} {H : Hp} {ks : List Nat} {ps : List (List Nat)} {m : Str} (h : PlanAt C H x ks ps) (n : ¬ m = "kinds" ∧ ¬ m = "pairs" ∧ ¬ m = "own_crossing") (q : P) : ∃ a dx fs, V.ref x = .ref a ∧ H a = some (.ins C dx fs) ∧ fs.lookup m = none ∧ P := by
  obtain ⟨dx, t, d, e, _, _⟩ := h.ex
  exact ⟨x, dx, _, rfl, e, planF_no n, q⟩
section
variable {P : Program} {w : World} {K : PySem.W.Frag} {mg : Str → Option Value} {base : Heap} {C R O : Addr}
end
end
section
open PySem PySem.Spec L2
/-- two plans whose sum is a plan -/
structure Sum2 (C : Addr) (H : Hp) (x y : Addr) (l m : List Nat) (ps qs : List (List Nat)) : Prop where
  px : PlanAt C H x l ps
  py : PlanAt C H y m qs
  dis : ∀ c ∈ l, ¬ c ∈ m
  ndl : l.Nodup
  ndm : m.Nodup
  ltl : ∀ c ∈ l, c ∈ LET
  ltm : ∀ c ∈ m, c ∈ LET
  len : l.length + m.length ≤ 8
  ip : PairsIn l ps
  iq : PairsIn m qs
  lp : ps.length ≤ 100
  lq : qs.length ≤ 100
theorem PairsIn.mono {l m : List Nat} {ps : List (List Nat)} (h : PairsIn l ps) (s : ∀ c ∈ l, c ∈ m) : PairsIn m ps := fun q hq => by
  obtain ⟨a, b, e, n, ha, hb⟩ := h q hq
  exact ⟨a, b, e, n, s a ha, s b hb⟩
section
variable {P : Program} {w : World} {K : PySem.W.Frag} {mg : Str → Option Value} {base : Heap} {C : Addr}
end
end
section
open PySem PySem.Spec L2
structure TxtG (K : PySem.W.Frag) (mg : Str → Option Value) (C : Addr) : Prop extends TxtP K mg C where
  range : mg "range" = none
section
variable {P : Program} {w : World} {K : PySem.W.Frag} {mg : Str → Option Value} {base : Heap} {C : Addr}
end
end
section
open PySem PySem.Spec L2
theorem Keep.free {p x : Addr} {H H' : Hp} (k : Keep p H H') (h : H' x = none) (n : x ≠ p) : H x = none := by
  cases z : H x with
  | none => rfl
  | some o =>
    have := k _ _ z n
    rw [h] at this
    cases this
section
variable {P : Program} {w : World} {K : PySem.W.Frag} {mg : Str → Option Value} {base : Heap} {C R O : Addr}
end
end
section
open PySem PySem.Spec L2
section
variable {P : Program} {w : World} {K : PySem.W.Frag} {mg : Str → Option Value} {base : Heap}
end
end
section
open PySem PySem.Spec L2
inductive WayO where
  | good (way : List Nat)
  | bad (i : Nat)
  | long (n : Nat)
/-- what is let out of a wrong way -/
structure OutW (IW TL : Addr) (E : XK) (H : Hp) (o : WayO) : Prop where
  bad : ∀ i, o = .bad i → ∀ H' d, Same H H' → H' d = some (.xd [("index", .int (i : Nat))]) → E (.ref IW) (some d) H'
  long : ∀ n, o = .long n → ∀ H' d, Same H H' → H' d = some (.xd [("length", .int (n : Nat))]) → E (.ref TL) (some d) H'
theorem OutW.same {IW TL : Addr} {E : XK} {H H1 : Hp} {o : WayO} (h : OutW IW TL E H o) (s : Same H H1) : OutW IW TL E H1 o := ⟨fun i e H' d s' => h.bad i e H' d (s.trans s'), fun i e H' d s' => h.long i e H' d (s.trans s')⟩
section
variable {P : Program} {w : World} {K : PySem.W.Frag} {mg : Str → Option Value} {base : Heap} {C R O IW IK TL : Addr}
end
end
local macro_rules | `(tactic| walk_at "ro") => `(tactic| first | assumption | ((apply RoomAt.go (by assumption)); walk_at "ro"))
local macro_rules | `(tactic| walk_at "pl") => `(tactic| first | assumption | ((apply PlanAt.go (by assumption)); walk_at "pl"))
local macro_rules | `(tactic| walk_at "st2") => `(tactic| first
  | (walk_at "st")
  | ((with_reducible refine v_rnameG ?_); refine ⟨_, _, _, (by walk_at "ro"), (by assumption), (by assumption), ?_⟩)
  | ((with_reducible refine v_rplanG ?_); refine ⟨_, _, _, (by walk_at "ro"), (by assumption), (by assumption), ?_⟩)
  | ((with_reducible refine v_rlenG ?_); refine ⟨_, _, (by walk_at "ro"), (by omega), ?_⟩)
  | ((with_reducible refine v_reqG ?_); refine ⟨_, _, _, _, _, (by walk_at "ro"), (by walk_at "ro"), (by walk_at "pl"), (by assumption), (by omega), (by omega), ?_⟩)
  | ((with_reducible refine v_rneG ?_); refine ⟨_, _, _, _, _, (by walk_at "ro"), (by walk_at "ro"), (by walk_at "pl"), (by assumption), (by omega), (by omega), ?_⟩)
  | ((with_reducible refine v_reqTG ?_); refine ⟨_, _, (by walk_at "ro"), ?_⟩)
  | ((with_reducible refine v_peqG ?_); refine ⟨_, _, (by walk_at "pl"), (by assumption), ?_⟩)
  | (with_reducible refine if_nI rfl ?_)
  | (with_reducible refine if_I rfl ?_)
  | ((with_reducible refine v_mdRG ?_); refine ⟨_, _, (by walk_at "ro"), (by decide +kernel), ?_⟩)
  | (with_reducible refine s_asgL ?_) | (with_reducible refine e_MN ?_)
  | (with_reducible refine e_CN ?_) | (refine ⟨rfl, rfl, ?_⟩))
local macro_rules | `(tactic| walk_at "go2") => `(tactic| repeat walk_at "st2")
section
open PySem PySem.Spec L2
/-- no pair of the kinds -/
def BadPair (K : PySem.W.Frag) (H : Hp) (ks : List Nat) (u : V) : Prop := (∀ H', LamX.ExtN H H' → NoTx K H' u) ∨ ∃ l : List Nat, u = .str (tx l) ∧ l.length < 1000 ∧ ¬ ∃ a b, l = [a, b] ∧ a ≠ b ∧ a ∈ ks ∧ b ∈ ks
theorem BadPair.same {K : PySem.W.Frag} {H H1 : Hp} {ks : List Nat} {u : V} (h : BadPair K H ks u) (s : Same H H1) : BadPair K H1 ks u := h.elim (fun z => .inl fun H' x => z H' ((ext_of s).trans x)) .inr
/-- xs: good pairs of the kinds up to the place n, where a bad one stands, or the end -/
structure UptoB (K : PySem.W.Frag) (H : Hp) (ks : List Nat) (xs : List V) (ps : List (List Nat)) (o : Option V) : Prop where
  pre : ∃ r, xs = strsV ps ++ r ∧ (o = none → r = []) ∧ ∀ u, o = some u → ∃ r', r = u :: r'
  good : PairsIn ks ps
  bad : ∀ u, o = some u → BadPair K H ks u
  len : xs.length < 1000
section
variable {P : Program} {w : World} {K : PySem.W.Frag} {mg : Str → Option Value} {base : Heap} {C IP IK SK TM : Addr}
end
end
section
open PySem PySem.Spec L2
/-- never a text, whatever is made meanwhile -/
abbrev NvTx (K : PySem.W.Frag) (H : Hp) (v : V) : Prop := ∀ H', LamX.ExtN H H' → NoTx K H' v
theorem NvTx.same {K : PySem.W.Frag} {H H1 : Hp} {v : V} (h : NvTx K H v) (s : Same H H1) : NvTx K H1 v := fun H' x => h H' ((ext_of s).trans x)
theorem NvTx.now {K : PySem.W.Frag} {H : Hp} {v : V} (h : NvTx K H v) : NoTx K H v := h H (LamX.ExtN.refl _)
/-- a raise of the class X with the one field f -/
abbrev Rz (E : XK) (H : Hp) (X : Addr) (f : Str) (v : V) : Prop := ∀ H' d, Same H H' → H' d = some (.xd [(f, v)]) → E (.ref X) (some d) H'
theorem Rz.same {E : XK} {H H1 : Hp} {X : Addr} {f : Str} {v : V} (h : Rz E H X f v) (s : Same H H1) : Rz E H1 X f v := fun H' d s' e => h H' d (s.trans s') e
/-- no letters, each once -/
def BadKs (K : PySem.W.Frag) (H : Hp) (v : V) : Prop := NvTx K H v ∨ ∃ l : List Nat, v = .str (tx l) ∧ l.length < 1000 ∧ ¬ ((∀ c ∈ l, c ∈ LET) ∧ l.Nodup)
def PlanR (K : PySem.W.Frag) (IP TM : Addr) (H : Hp) (kv : V) (p : Addr) (E : XK) (good : List Nat → List (List Nat) → Prop) : Prop :=
  (BadKs K H kv ∧ Rz E H IP "value" kv) ∨
  ∃ (l : List Nat) (xs : List V) (ps : List (List Nat)) (o : Option V), kv = .str (tx l) ∧ SeqO K H p xs ∧ UptoB K H l xs ps o ∧ (∀ c ∈ l, c ∈ LET) ∧ l.Nodup ∧ l.length < 1000 ∧ (∀ u, o = some u → Rz E H IP "value" u) ∧ (o = none → 8 < l.length → Rz E H TM "most" (.int 8)) ∧ (o = none → l.length ≤ 8 → good l ps)
theorem PlanR.imp {K : PySem.W.Frag} {IP TM : Addr} {H : Hp} {kv : V} {p : Addr} {E : XK} {g g' : List Nat → List (List Nat) → Prop} (h : PlanR K IP TM H kv p E g) (i : ∀ l ps, g l ps → g' l ps) : PlanR K IP TM H kv p E g' := by
  rcases h with h | ⟨l, xs, ps, o, a, b, c, d, e, f, h1, h2, h3⟩
  · exact .inl h
  · exact .inr ⟨l, xs, ps, o, a, b, c, d, e, f, h1, h2, fun x y => i _ _ (h3 x y)⟩
theorem UptoB.asc {K : PySem.W.Frag} {H H1 : Hp} {l : List Nat} {xs : List V} {ps : List (List Nat)} {o : Option V} (u : UptoB K H l xs ps o) (s : Same H H1) (hl : ∀ c ∈ l, c ∈ LET) : UptoB K H1 (ascOf l) xs ps o := by
  refine ⟨u.pre, fun q hq => ?_, fun v hv => ?_, u.len⟩
  · obtain ⟨a, b, e, n, ha, hb⟩ := u.good q hq
    exact ⟨a, b, e, n, ascOf_mem.mpr ⟨hl a ha, ha⟩, ascOf_mem.mpr ⟨hl b hb, hb⟩⟩
  · rcases (u.bad v hv).same s with h | ⟨m, e, lm, h⟩
    · exact .inl h
    · exact .inr ⟨m, e, lm, fun ⟨a, b, e2, n, ha, hb⟩ => h ⟨a, b, e2, n, (ascOf_mem.mp ha).2, (ascOf_mem.mp hb).2⟩⟩
structure Sum2E (C : Addr) (H : Hp) (x y : Addr) (l m : List Nat) (ps qs : List (List Nat)) : Prop where
  px : PlanAt C H x l ps
  py : PlanAt C H y m qs
  ndl : l.Nodup
  ndm : m.Nodup
  ltl : ∀ c ∈ l, c ∈ LET
  ltm : ∀ c ∈ m, c ∈ LET
  lenl : l.length ≤ 8
  lenm : m.length ≤ 8
  ip : PairsIn l ps
  iq : PairsIn m qs
  lp : ps.length ≤ 100
  lq : qs.length ≤ 100
section
variable {P : Program} {w : World} {K : PySem.W.Frag} {mg : Str → Option Value} {base : Heap} {C IP IK SK TM : Addr}
end
end
section
open PySem PySem.Spec L2
theorem StAt.okX {P : Program} {w : World} {K : PySem.W.Frag} {mg : Str → Option Value} {base : Heap} {k : Nat} {C : Addr} {f qual : Str} {ps N : List Str} {sp : Sp} {st : Stmt} (F : StAt K C f qual st) (S : FnScope N ps (defScope st))
    (hb : ∀ (kV doc pm : Value) (an : Option Addr) (cdv ct : Value) (us : List Value), us.length = ps.length → bindArgs (PySem.W.fnOf f qual (defArgs st) (defBody st) (defScope st) .none kV doc pm an cdv ct) ⟨us, []⟩ = pure (ps.zip us))
    (len : ∀ vs H Q E, sp vs H Q E → vs.length = ps.length)
    (hbody : ∀ (f : Addr) (cdv : Value) (A : Around) (outer : List Env) (s : Shared) (H : Hp) (vs : List V) (Q : VK) (E : XK), Room k (A.deeper (PyProof.Rows.envOfC qual (defScope st) s.heap.objs.size f cdv)) → sp vs H Q E →
      ∃ t, PSs (cxOf (L2.CX P w) P w K mg base N qual (defScope st) f cdv A outer s H E) (defBody st) t ∧ t { nx := fun _ H' => Q .non H', rt := Q } (start N vs) H) : StDef P w K mg base (L2.CX P w) (k + 1) C f sp := by
  obtain ⟨mc, p, g, rest, fd, a, b, c, G⟩ := F.ex
  exact ⟨mc, p, g, rest, fd, ps, a, b, c, G.kp, G.binds hb, G.okX S len fun cdv A outer s H vs Q E hr h => hbody g cdv A outer s H vs Q E hr h⟩
section
variable {P : Program} {w : World} {K : PySem.W.Frag} {mg : Str → Option Value} {base : Heap} {C IP IK SK TM : Addr}
end
end
section
open PySem PySem.Spec L2
/-- what the top has left of the four errors -/
structure Txt02 (P : Program) (K : PySem.W.Frag) (mg : Str → Option Value) (C IP SK TM IK G : Addr) (st1 st2 st3 st4 : Stmt) : Prop extends TxtP K mg C where
  eP : ExcE P K mg "InvalidPlan" IP "InvalidPlan.__init__" st1
  eS : ExcE P K mg "SameKind" SK "SameKind.__init__" st2
  eM : ExcE P K mg "TooMany" TM "TooMany.__init__" st3
  eK : ExcE P K mg "InvalidKind" IK "InvalidKind.__init__" st4
  IP_value : PySem.W.findIn K (.ref IP) "value" = some none
  SK_kind : PySem.W.findIn K (.ref SK) "kind" = some none
  TM_most : PySem.W.findIn K (.ref TM) "most" = some none
  IK_value : PySem.W.findIn K (.ref IK) "value" = some none
  FloorError : mg "FloorError" = some (.ref G)
  pp : PySem.W.exmOne K (.ref IP) (.ref IP) = some true
  sp : PySem.W.exmOne K (.ref SK) (.ref IP) = some false
  ss : PySem.W.exmOne K (.ref SK) (.ref SK) = some true
  mp : PySem.W.exmOne K (.ref TM) (.ref IP) = some false
  ms : PySem.W.exmOne K (.ref TM) (.ref SK) = some false
  mm : PySem.W.exmOne K (.ref TM) (.ref TM) = some true
  kp : PySem.W.exmOne K (.ref IK) (.ref IP) = some false
  ks : PySem.W.exmOne K (.ref IK) (.ref SK) = some false
  km : PySem.W.exmOne K (.ref IK) (.ref TM) = some false
  kk : PySem.W.exmOne K (.ref IK) (.ref IK) = some true
theorem two_of {α : Type} {l : List α} (h : l.length = 2) : ∃ a b, l = [a, b] := by
  match l, h with
  | [a, b], _ => exact ⟨a, b, rfl⟩
theorem e_xf2 {σ : L2.St} {H : Hp} {Q : VK} {a C : Addr} {cls : Value} {d : Option Addr} {f : Str} {te : TE} (q : te σ H fun x H1 => x = .ref a ∧ cls = .ref C ∧ ∃ (dd : Addr) (fs : List (Str × V)) (v : V), d = some dd ∧ H1 dd = some (.xd fs) ∧ fs.lookup f = some v ∧ Q v H1) : tXf a cls d C f te σ H Q := q
section
variable {X : Cx} {C IP SK TM IK G : Addr} {st1 st2 st3 st4 : Stmt}
end
end
section
open PySem PySem.Spec L2
def spLPlan : Sp := fun vs H Q _ => ∃ (g : Pen) (n : Nat), vs = [.ref g.p, .int 8] ∧ PenAt g H n ∧ n < 950000 ∧
  ∀ (q0 q : Addr) (ls : List Nat) (ps : List (List Nat)) (H' : Hp), H q = none → LPlan ls ps → H' q0 = some (.tup [.str (tx ls), .ref q]) → H' q = some (.lst (strsG ps)) → PenAt g H' (n + 100) → Keep g.p H H' → Q (.ref q0) H'
theorem plan_letters {l : List Nat} (h : goodL l = true) {m : Nat} (hm : m ≤ 8) : (l.take m).length = m ∧ (l.take m).Pairwise (· < ·) ∧ (∀ c ∈ l.take m, c ∈ LET) ∧ ∀ c ∈ l.take m, c ≠ 122 := by
  unfold goodL at h
  rw [Bool.and_eq_true, Bool.and_eq_true, Bool.and_eq_true, decide_eq_true_iff, decide_eq_true_iff, decide_eq_true_iff, List.all_eq_true] at h
  obtain ⟨⟨⟨h1, h2⟩, h3⟩, h4⟩ := h
  have e : l.take m = (l.take 8).take m := by rw [List.take_take, Nat.min_eq_left hm]
  have s : ∀ c ∈ l.take m, c ∈ LET ∧ c ≠ 122 := fun c hc => of_decide_eq_true (h4 c (by rw [e] at hc; exact List.mem_of_mem_take hc))
  exact ⟨by rw [List.length_take]; omega, by rw [e]; exact h3.sublist (List.take_sublist _ _), fun c hc => (s c hc).1, fun c hc => (s c hc).2⟩
theorem strsG_len (ws : List (List Nat)) : (strsG ws).length = ws.length := by unfold strsG; rw [List.length_map]
theorem strsG_app (ps qs : List (List Nat)) : strsG (ps ++ qs) = strsG ps ++ strsG qs := by unfold strsG; rw [List.map_append]
/-- the pairs told so far -/
structure UpP (ls : List Nat) (ps : List (List Nat)) (i j : Nat) : Prop where
  srt : ps.Pairwise pairLt
  mem : ∀ p ∈ ps, ∃ a b, a < b ∧ b < ls.length ∧ p = [ls.getD a 0, ls.getD b 0] ∧ (a < i ∨ (a = i ∧ b < j))
  len : ps.length ≤ 8 * i + j
theorem asc_at {ls : List Nat} (h : ls.Pairwise (· < ·)) {a b : Nat} (l : a < b) (hb : b < ls.length) : ls.getD a 0 < ls.getD b 0 := by
  rw [List.getD_eq_getElem?_getD, List.getD_eq_getElem?_getD, List.getElem?_eq_getElem hb, List.getElem?_eq_getElem (show a < ls.length by omega)]
  exact List.pairwise_iff_getElem.mp h a b (by omega) hb l
theorem UpP.more {ls : List Nat} {ps : List (List Nat)} {i j j' : Nat} (h : UpP ls ps i j) (l : j ≤ j') : UpP ls ps i j' := ⟨h.srt, fun p hp => by
  obtain ⟨a, b, h1, h2, h3, h4⟩ := h.mem p hp
  exact ⟨a, b, h1, h2, h3, by omega⟩, by have := h.len; omega⟩
theorem UpP.next {ls : List Nat} {ps : List (List Nat)} {i j : Nat} (h : UpP ls ps i j) (l : j ≤ 8) : UpP ls ps (i + 1) 0 := ⟨h.srt, fun p hp => by
  obtain ⟨a, b, h1, h2, h3, h4⟩ := h.mem p hp
  exact ⟨a, b, h1, h2, h3, by omega⟩, by have := h.len; omega⟩
theorem UpP.add {ls : List Nat} {ps : List (List Nat)} {i j : Nat} (h : UpP ls ps i j) (asc : ls.Pairwise (· < ·)) (l : i < j) (hj : j < ls.length) : UpP ls (ps ++ [[ls.getD i 0, ls.getD j 0]]) i (j + 1) := by
  refine ⟨List.pairwise_append.mpr ⟨h.srt, List.pairwise_singleton _ _, fun p hp q hq => ?_⟩, fun p hp => ?_, by have := h.len; rw [List.length_append, List.length_singleton]; omega⟩
  · rw [List.mem_singleton.mp hq]
    obtain ⟨a, b, h1, h2, rfl, h4⟩ := h.mem p hp
    refine pairLt_mk.mpr ?_
    rcases h4 with h4 | ⟨rfl, h4⟩
    · exact .inl (asc_at asc h4 (by omega))
    · exact .inr ⟨rfl, asc_at asc h4 hj⟩
  · rcases List.mem_append.mp hp with z | z
    · obtain ⟨a, b, h1, h2, h3, h4⟩ := h.mem p z
      exact ⟨a, b, h1, h2, h3, by omega⟩
    · exact ⟨i, j, l, hj, List.mem_singleton.mp z, .inr ⟨rfl, by omega⟩⟩
theorem UpP.prs {ls : List Nat} {ps : List (List Nat)} {i j : Nat} (h : UpP ls ps i j) (asc : ls.Pairwise (· < ·)) : Prs ls ps := ⟨h.srt, fun p hp => by
  obtain ⟨a, b, h1, h2, h3, h4⟩ := h.mem p hp
  exact ⟨_, _, h3, asc_at asc h1 h2, getD_mem (by omega), getD_mem h2⟩⟩
section
variable {P : Program} {w : World} {K : PySem.W.Frag} {mg : Str → Option Value} {base : Heap}
abbrev stlplan : Stmt := (top 67)
abbrev Nlplan : List Str := ["_law_pen_here", "_law_most", "_law_many", "_law_letters", "_law_step", "_law_front", "_law_doors", "_law_lot", "_law_pairs", "_law_i", "_law_j", "_law_near", "_law_sorts", "_law_told_here"]
theorem sclplan : FnScope Nlplan ["_law_pen_here", "_law_most"] (defScope stlplan) := ⟨rfl, rfl, rfl, by decide +kernel, rfl, by decide +kernel, by decide +kernel⟩

theorem ok_lplan (F : FnAt K mg "_law_plan" stlplan) (T : TxtH K mg) (D_draw : Def P w K mg base CX0 1 "_law_draw" ["_law_pen_here", "_law_many"] spDraw) (D_pick : Def P w K mg base CX0 2 "_law_pick" ["_law_pen_here", "_law_items"] spPick) : Def P w K mg base CX0 3 "_law_plan" ["_law_pen_here", "_law_most"] spLPlan := by
  refine F.ok sclplan (fun _ _ _ _ _ _ us hl => match us, hl with | [_, _], _ => rfl) (fun vs H Q E h => ?_) (fun f cdv A outer s H vs Q E hr h => ?_)
  · obtain ⟨g, n, rfl, _⟩ := h
    rfl
  obtain ⟨g, n, rfl, hp, hn, k⟩ := h
  have hu := hu_of hr
  have nd := sclplan.nd
  replace D_draw := D_draw.mono (show 1 ≤ 2 by decide)
  refine ⟨_, (pss_cons (ps_set (i := 2) nd rfl (Or.inl rfl) (pe_cd D_draw hr pass0 (pa_cons (pv 0) (pa_cons (pe_op op_add (pv 1) pe_int) pa_nil))))
      (pss_cons (ps_set (i := 3) nd rfl (Or.inl rfl) (pe_tx [97, 98, 99, 100, 101, 102, 103, 104, 105, 106, 107, 108, 109, 110, 111, 112, 113, 114, 115, 116, 117, 118, 119, 120, 121, 122] (by decide +kernel)))
      (pss_cons (ps_par (i := 4) (j := 5) (by rfl) nd rfl rfl (by decide) rfl rfl (pa_cons (pe_cd D_pick hr pass0 (pa_cons (pv 0) (pa_cons (pe_lst (pa_cons pe_int (pa_cons pe_int (pa_cons pe_int pa_nil)))) pa_nil))) (pa_cons (pe_cd D_draw hr pass0 (pa_cons (pv 0) (pa_cons pe_int pa_nil))) pa_nil)) (by rfl))
      (pss_cons (ps_set (i := 6) nd rfl (Or.inl rfl) (pe_slice sl_S (pe_slSt (pv 3) (po_some (pv 5)) po_none (po_some (pv 4))) po_none (po_some (pv 2))))
      (pss_cons (ps_set (i := 7) nd rfl (Or.inl rfl) (pe_cd D_draw hr pass0 (pa_cons (pv 0) (pa_cons pe_int pa_nil))))
      (pss_cons (ps_set (i := 8) nd rfl (Or.inl rfl) (pe_lst pa_nil))
      (pss_cons (ps_for PassesOwn.never rfl (pi_range1 (by rfl) T.range (pa_cons (pv 2) pa_nil)) (pg_name (i := 9) nd rfl (Or.inl rfl))
      (pss_one (ps_for PassesOwn.never rfl (pi_range2 (by rfl) T.range (pa_cons (pe_op op_add (pv 9) pe_int) (pa_cons (pv 2) pa_nil))) (pg_name (i := 10) nd rfl (Or.inl rfl))
        (pss_cons (ps_set (i := 11) nd rfl (Or.inl rfl) (pe_cut (pe_or (pe_cmpR op_eq (pv 10) (pe_op op_add (pv 9) pe_int) (nomark _)) (pe_one (pe_and (pe_cmpR op_eq (pv 9) pe_int (nomark _)) (pe_and (pe_cmpR op_eq (pv 10) (pe_op op_sub (pv 2) pe_int) (nomark _)) (pe_one (pe_cmpR op_gt (pv 2) pe_int (nomark _)))))))))
          (pss_cons (ps_set (i := 12) nd rfl (Or.inl rfl) (pe_lst (pa_cons (pv 11) (pa_cons (pe_cut (pe_and (pv 11) (pe_one (pe_cmpR op_eq (pv 10) (pe_op op_add (pv 9) pe_int) (nomark _))))) (pa_cons pe_bl (pa_cons pe_bl (pa_cons (pe_cmpR op_gt (pe_op op_sub (pv 10) (pv 9)) pe_int (nomark _)) pa_nil)))))))
          (pss_cons (ps_set (i := 13) nd rfl (Or.inl rfl) (pe_cut (pe_ifExp (pt_cmpR op_lt (pv 7) pe_int (nomark _)) (pe_ix (ix_LK (K := K) rfl) (pv 12) (pv 7) (fun _ _ => rfl)) (pe_cmpR op_eq (pe_cd D_draw hr pass0 (pa_cons (pv 0) (pa_cons pe_int pa_nil))) pe_int (nomark _)))))
          (pss_one (ps_if (pt_val (pv 13))
          (pss_one (ps_expr (pe_appK (K := K) rfl (pv 8) (pe_op op_addS (pe_ix ix_str (pv 6) (pv 9) (fun _ _ => rfl)) (pe_ix ix_str (pv 6) (pv 10) (fun _ _ => rfl))))))
          pss_nil))))))))
      (pss_one (ps_ret (pe_tup (pa_cons (pv 6) (pa_cons (pv 8) pa_nil)))))))))))), ?_⟩
  refine s_start [some _, some _, none, none, none, none, none, none, none, none, none, none, none, none] rfl ?_
  walk_at "go"
  refine ⟨g, 9, n, rfl, by omega, by omega, hp, by omega, fun z H1 z0 z1 p1 k1 => ?_⟩
  obtain ⟨m, rfl⟩ : ∃ m : Nat, z = (m : Int) := ⟨z.toNat, by omega⟩
  have m8 : m ≤ 8 := by omega
  walk_at "go"
  intro q H2 hq s2 e2
  walk_at "go"
  refine ⟨g, n + 1, q, _, rfl, e2, by decide, by decide, p1.same s2, by omega, (p1.p_ne hq).symm, fun v H3 hv p3 k3 => ?_⟩
  obtain ⟨st, hst, rfl⟩ : ∃ st : Int, (st = 1 ∨ st = 3) ∧ v = V.int st := by
    simp only [List.mem_cons, List.not_mem_nil, or_false] at hv
    rcases hv with rfl | rfl | rfl
    · exact ⟨_, .inl rfl, rfl⟩
    · exact ⟨_, .inl rfl, rfl⟩
    · exact ⟨_, .inr rfl, rfl⟩
  walk_at "go"
  refine ⟨g, 3, n + 2, rfl, by omega, by omega, p3, by omega, fun z H4 z0 z1 p4 k4 => ?_⟩
  obtain ⟨f, rfl⟩ : ∃ f : Nat, z = (f : Int) := ⟨z.toNat, by omega⟩
  have gd := step_good f (by omega) st hst
  walk_at "go"
  refine v_slSt ?_
  walk_at "go"
  have gl : (stepS LET (some (f : Int)) none st).length ≤ 26 := by
    have gd := gd
    unfold goodL at gd
    rw [Bool.and_eq_true, Bool.and_eq_true, Bool.and_eq_true, decide_eq_true_iff, decide_eq_true_iff] at gd
    exact gd.1.1.2
  refine ⟨LET, st, rfl, rfl, by omega, by omega, ?_⟩
  walk_at "go"
  refine v_slTo (by omega) (by omega) ?_
  rw [show ((m : Nat) : Int).toNat = m by omega]
  obtain ⟨g1, g2, g3, g4⟩ := plan_letters gd m8
  generalize (stepS LET (some (f : Int)) none st).take m = ls at *
  have kA : Keep g.p H H4 := fun b o hb nb => k4 _ _ (k3 _ _ (s2 _ _ (k1 _ _ hb nb)) nb) nb
  clear e2 hv gl gd k1 s2 k3 k4 p1 p3
  walk_at "go"
  refine ⟨g, 7, _, rfl, by omega, by omega, p4, by omega, fun z H5 z0 z1 p5 k5 => ?_⟩
  obtain ⟨so, rfl⟩ : ∃ so : Nat, z = (so : Int) := ⟨z.toNat, by omega⟩
  walk_at "go"
  intro q H6 hq s6 e6
  have hqH : H q = none := by
    cases z : H q with
    | none => rfl
    | some o =>
      by_cases e : q = g.p
      · exact absurd e (p5.p_ne hq).symm
      · have := k5 _ _ (kA _ _ z e) e
        rw [hq] at this
        cases this
  have nqp := (p5.p_ne hq)
  have nqc := (p5.cl_ne hq)
  have p6 := p5.same s6
  have k6 : Keep g.p H H6 := fun b o hb nb => s6 _ _ (k5 _ _ (kA _ _ hb nb) nb)
  clear p4 p5 kA k5 s6
  walk_at "go"
  refine for_it (walk_rI (fun i => ((i : Nat) : Int)) (fun k => Int.zero_add _)) (fun i σ H' => ∃ x9 x10 x11 x12 x13 ps, σ = [some (.ref g.p), some (.int 8), some (.int (m : Nat)), some (.str (tx LET)), some (.int st), some (.int (f : Nat)), some (.str (tx ls)), some (.int (so : Nat)), some (.ref q), x9, x10, x11, x12, x13] ∧ PenAt g H' (n + 4 + 8 * i) ∧ Keep g.p H H' ∧ UpP ls ps i 0 ∧ H' q = some (.lst (strsG ps))) ⟨_, _, _, _, _, [], rfl, p6, k6, ⟨.nil, fun _ h => (by cases h), by simp⟩, e6⟩ (fun _ _ _ _ _ => trivial) ?_ ?_
  · rintro i v σ H7 H8 hi ⟨x9, x10, x11, x12, x13, ps, rfl, p7, k7, u7, e7⟩ ⟨rfl, rfl⟩
    have hi' : i < ls.length := by omega
    walk_at "go"
    refine for_it (walk_rI (fun j => ((i + 1 + j : Nat) : Int)) (fun k => by omega)) (fun j σ H' => ∃ x10 x11 x12 x13 ps, σ = [some (.ref g.p), some (.int 8), some (.int (m : Nat)), some (.str (tx LET)), some (.int st), some (.int (f : Nat)), some (.str (tx ls)), some (.int (so : Nat)), some (.ref q), some (.int (i : Nat)), x10, x11, x12, x13] ∧ PenAt g H' (n + 4 + 8 * i + j) ∧ Keep g.p H H' ∧ UpP ls ps i (i + 1 + j) ∧ H' q = some (.lst (strsG ps))) ⟨_, _, _, _, ps, rfl, p7, k7, u7.more (by omega), e7⟩ (fun _ _ _ _ _ => trivial) ?_ ?_
    · rintro j v σ H9 H10 hj ⟨y10, y11, y12, y13, ps, rfl, p9, k9, u9, e9⟩ ⟨rfl, rfl⟩
      have hj' : i + 1 + j < ls.length := by omega
      walk_at "go"
      refine e_cut (fun v H' => (∃ b, v = .bl b) ∧ H' = H10) ?_ ?_
      · walk_at "go"
        refine if_dec (fun _ => ⟨⟨_, rfl⟩, rfl⟩) (fun _ => ?_)
        walk_at "go"
        refine if_dec (fun _ => ?_) (fun _ => ⟨⟨_, rfl⟩, rfl⟩)
        walk_at "go"
        refine if_dec (fun _ => ?_) (fun _ => ⟨⟨_, rfl⟩, rfl⟩)
        walk_at "go"
        exact ⟨⟨_, rfl⟩, rfl⟩
      rintro v H11 ⟨⟨b1, rfl⟩, rfl⟩
      walk_at "go"
      refine e_cut (fun v H' => (∃ b, v = .bl b) ∧ H' = H11) ?_ ?_
      · walk_at "go"
        refine if_bool (fun _ => ?_) (fun _ => ⟨⟨_, rfl⟩, rfl⟩)
        walk_at "go"
        exact ⟨⟨_, rfl⟩, rfl⟩
      rintro v H12 ⟨⟨b2, rfl⟩, rfl⟩
      walk_at "go"
      intro q2 H13 hq2 s13 e13
      have e9' := s13 _ _ e9
      have p13 := p9.same s13
      have k13 : Keep g.p H H13 := fun b o hb nb => s13 _ _ (k9 _ _ hb nb)
      walk_at "go"
      refine e_cut (fun v H' => (∃ b, v = .bl b) ∧ PenAt g H' (n + 4 + 8 * i + j + 1) ∧ Keep g.p H13 H') ?_ ?_
      · walk_at "go"
        refine if_dec (fun c => ?_) (fun c => ?_)
        · walk_at "go"
          have hso : so < 5 := by omega
          obtain ⟨bb, hbb⟩ : ∃ bb, [V.bl b1, V.bl b2, V.bl false, V.bl true, V.bl (decide (((1 : Int)) < ((i + 1 + j : Nat) : Int) - ((i : Nat) : Int)))][so]? = some (V.bl bb) := by
            have : so = 0 ∨ so = 1 ∨ so = 2 ∨ so = 3 ∨ so = 4 := by omega
            rcases this with e | e | e | e | e <;> rw [e] <;> exact ⟨_, rfl⟩
          refine v_ixL e13 (at_of (j := so) (by omega) hbb) ?_
          exact ⟨⟨_, rfl⟩, p13.mono (by omega), Keep.refl _ _⟩
        · walk_at "go"
          refine ⟨g, 2, _, rfl, by omega, by omega, p13, by omega, fun z2 H14 _ _ p14 k14 => ?_⟩
          walk_at "go"
          exact ⟨⟨_, rfl⟩, p14, k14⟩
      rintro v H14 ⟨⟨b3, rfl⟩, p14, k14⟩
      have e14 := k14 _ _ e9' nqp.symm
      have k14' : Keep g.p H H14 := fun b o hb nb => k14 _ _ (k13 _ _ hb nb) nb
      walk_at "go"
      cases b3 with
      | false =>
        walk_at "go"
        exact ⟨_, _, _, _, ps, rfl, p14, k14', u9.more (by omega), e14⟩
      | true =>
        walk_at "go"
        refine v_ixS (by omega) (at_getD hi') ?_
        walk_at "go"
        refine v_ixS (by omega) (at_getD hj') ?_
        walk_at "go"
        refine v_app e14 (by rw [strsG_len]; have := u9.len; omega) fun H15 k15 e15 => ?_
        refine ⟨_, _, _, _, ps ++ [[ls.getD i 0, ls.getD (i + 1 + j) 0]], rfl, p14.keep k15 nqp nqc, fun b o hb nb => k15 _ _ (k14' _ _ hb nb) (ne_of_none hb hqH), u9.add g2 (by omega) hj', ?_⟩
        rw [e15, strsG_app]
        rfl
    · rintro σ H9 ⟨y10, y11, y12, y13, ps, rfl, p9, k9, u9, e9⟩
      exact ⟨_, _, _, _, _, ps, rfl, p9.mono (by omega), k9, u9.next (by omega), e9⟩
  · rintro σ H7 ⟨x9, x10, x11, x12, x13, ps, rfl, p7, k7, u7, e7⟩
    walk_at "go"
    intro q0 H8 hq0 s8 e8
    have u7 : UpP ls ps ls.length 0 := by rw [show ls.length = ((m : Nat) : Int).toNat by omega]; exact u7
    exact k q0 q ls ps H8 hqH ⟨u7.prs g2, g2, g3, g4, by omega⟩ e8 (s8 _ _ e7) ((p7.same s8).mono (by omega)) fun b o hb nb => s8 _ _ (k7 _ _ hb nb)
end
end
section
open PySem PySem.Spec L2
/-- all but the pen and the tables of code objects stays -/
def KeepT (p : Addr) (H H' : Hp) : Prop := ∀ b o, H b = some o → b ≠ p → (∀ ps, o ≠ HO.tbl ps) → H' b = some o
theorem KeepT.trans {p : Addr} {H H1 H2 : Hp} (h : KeepT p H H1) (k : KeepT p H1 H2) : KeepT p H H2 := fun b o e n t => k b o (h b o e n t) n t
theorem KeepT.of {p : Addr} {H H1 : Hp} (h : Same H H1) : KeepT p H H1 := fun b o e _ _ => h b o e
theorem PlanAt.ext {C : Addr} {H H' : Hp} {x : Addr} {ks : List Nat} {ps : List (List Nat)} (h : PlanAt C H x ks ps) (e : LamX.ExtN H H') : PlanAt C H' x ks ps := by
  obtain ⟨dx, t, d, a, b, c⟩ := h.ex
  exact ⟨dx, t, d, e _ _ a (fun ps z => nomatch z), e _ _ b (fun ps z => nomatch z), e _ _ c (fun ps z => nomatch z)⟩
theorem PenAt.ext {g : Pen} {H H' : Hp} {n : Nat} (h : PenAt g H n) (e : LamX.ExtN H H') : PenAt g H' n := by
  obtain ⟨a, r, h1, h2, h3, h4, h5, h6⟩ := h.ex
  exact ⟨a, r, e _ _ h1 (fun ps z => nomatch z), e _ _ h2 (fun ps z => nomatch z), h3, h4, h5, h6⟩
theorem tabs_pen {Ts : List (Addr × Str)} {g : Pen} {H H' : Hp} {n : Nat} (t : LamX.Tabs Ts H) (p : PenAt g H n) (k : Keep g.p H H') : LamX.Tabs Ts H' := by
  obtain ⟨a, r, h1, _⟩ := p.ex
  exact tabs_keep t k h1 (fun ps z => nomatch z) (fun c q => codeO_dK)
/-- what is due: none, or an error's mark and field -/
def DueIs (H : Hp) (v : V) : Option (List Nat × V) → Prop
  | none => v = .non
  | some (m, u) => Plainly u ∧ ∃ q, v = .ref q ∧ H q = some (.tup [.str (tx m), u])
theorem DueIs.ext {H H1 : Hp} {v : V} : ∀ {o : Option (List Nat × V)}, DueIs H v o → LamX.ExtN H H1 → DueIs H1 v o
  | none, h, _ => h
  | some (m, u), ⟨p, q, e, h⟩, s => ⟨p, q, e, s _ _ h fun ps z => nomatch z⟩
theorem DueIs.same {H H1 : Hp} {v : V} {o : Option (List Nat × V)} (h : DueIs H v o) (s : Same H H1) : DueIs H1 v o := h.ext (ext_of s)
theorem plain2 {m : List Nat} {u : V} (p : Plainly u) : ∀ v ∈ [V.str (tx m), u], Plainly v := by
  intro v hv
  simp only [List.mem_cons, List.not_mem_nil, or_false] at hv
  rcases hv with rfl | rfl
  · exact .inl rfl
  · exact p
theorem ne_due {H : Hp} {Q : VK} {v w : V} : ∀ {o : Option (List Nat × V)}, DueIs H v o → DueIs H w o → Q (.bl false) H → rNe v w H Q ∨ rNeS v w H Q
  | none, h1, h2, q => by
    cases (show v = .non from h1)
    cases (show w = .non from h2)
    exact .inl (v_ne rfl q)
  | some (m, u), ⟨p, a, e1, h1⟩, ⟨_, b, e2, h2⟩, q => .inr ⟨a, b, _, e1, e2, h1, h2, plain2 p, q⟩
/-- what is a bool -/
def BoolIs (K : PySem.W.Frag) (H : Hp) (v : V) (b : Bool) : Prop := ∃ t, TyX K H v t ∧ PySem.W.kitOne K t (.type "bool") = some b
structure Txt03 (P : Program) (K : PySem.W.Frag) (mg : Str → Option Value) (C IP SK TM IK G : Addr) (st1 st2 st3 st4 : Stmt) : Prop extends Txt02 P K mg C IP SK TM IK G st1 st2 st3 st4 where
  sfC : PySem.W.selfFirst K C = true
  range : mg "range" = none
  bool : mg "bool" = none
/-- letters that are no kinds -/
structure MoreOf (ks mr : List Nat) : Prop where
  nd : mr.Nodup
  lt : ∀ c ∈ mr, c ∈ LET
  dis : ∀ c ∈ mr, ¬ c ∈ ks
  le : mr.length ≤ 10
  ge : 10 ≤ mr.length + ks.length
section
variable {P : Program} {w : World} {K : PySem.W.Frag} {mg : Str → Option Value} {base : Heap} {C IP SK TM IK G e0 : Addr} {st1 st2 st3 st4 : Stmt} {Ts : List (Addr × Str)} {c Pt : Addr}
end
end
section
open PySem PySem.Spec L2
def BoolSt (K : PySem.W.Frag) (H : Hp) (v : V) (b : Bool) : Prop := ∀ H', LamX.ExtN H H' → BoolIs K H' v b
theorem BoolSt.ext {K : PySem.W.Frag} {H H1 : Hp} {v : V} {b : Bool} (h : BoolSt K H v b) (e : LamX.ExtN H H1) : BoolSt K H1 v b := fun H' x => h H' (e.trans x)
theorem BadPair.ext {K : PySem.W.Frag} {H H1 : Hp} {ks : List Nat} {u : V} (h : BadPair K H ks u) (e : LamX.ExtN H H1) : BadPair K H1 ks u := h.elim (fun z => .inl fun H' x => z H' (e.trans x)) .inr
theorem BadKs.ext {K : PySem.W.Frag} {H H1 : Hp} {u : V} (h : BadKs K H u) (e : LamX.ExtN H H1) : BadKs K H1 u := h.elim (fun z => .inl fun H' x => z H' (e.trans x)) .inr
section
variable {K : PySem.W.Frag}
theorem boolSt_non {H : Hp} : BoolSt K H .non false := fun _ _ => ⟨_, .base .non, kit_ty (by decide +kernel)⟩
theorem boolSt_int {H : Hp} {i : Int} : BoolSt K H (.int i) false := fun _ _ => ⟨_, .base (.int i), kit_ty (by decide +kernel)⟩
theorem boolSt_bl {H : Hp} {b : Bool} : BoolSt K H (.bl b) true := fun _ _ => ⟨_, .base (.bl b), kit_ty (by decide +kernel)⟩
theorem boolSt_lst {H : Hp} {a : Addr} {xs : List V} (h : H a = some (.lst xs)) : BoolSt K H (.ref a) false := fun H' e => ⟨_, .base (.lst (e _ _ h fun ps z => nomatch z)), kit_ty (by decide +kernel)⟩
theorem boolSt_tup {H : Hp} {a : Addr} {xs : List V} (h : H a = some (.tup xs)) : BoolSt K H (.ref a) false := fun H' e => ⟨_, .base (.tup (e _ _ h fun ps z => nomatch z)), kit_ty (by decide +kernel)⟩
end
/-- a right pair, or a wrong one of any kind -/
def Elem (K : PySem.W.Frag) (H : Hp) (told : List Nat) (ps : List (List Nat)) (v : V) : Prop := (∃ p ∈ ps, v = .str (tx p)) ∨ (BadPair K H told v ∧ Plainly v ∧ (∃ b, BoolSt K H v b) ∧ ¬ v ∈ strsG ps)
theorem Elem.ext {K : PySem.W.Frag} {H H1 : Hp} {told : List Nat} {ps : List (List Nat)} {v : V} (h : Elem K H told ps v) (e : LamX.ExtN H H1) : Elem K H1 told ps v := by
  rcases h with h | ⟨a, b, ⟨c, d⟩, f⟩
  · exact .inl h
  · exact .inr ⟨a.ext e, b, ⟨c, d.ext e⟩, f⟩
theorem mem_strsG {ps : List (List Nat)} {v : V} : v ∈ strsG ps ↔ ∃ p ∈ ps, v = .str (tx p) := by
  unfold strsG
  rw [List.mem_map]
  exact ⟨fun ⟨p, h, e⟩ => ⟨p, h, e.symm⟩, fun ⟨p, h, e⟩ => ⟨p, h, e.symm⟩⟩
/-- what is told of kinds: right ones, or wrong ones -/
structure ToldK (K : PySem.W.Frag) (H : Hp) (ls mr : List Nat) (told : List Nat) : Prop where
  nd : told.Nodup
  lt : ∀ c ∈ told, c ∈ LET
  sub : ∀ c ∈ ls, c ∈ told
  last : ∀ z, mr.getLast? = some z → ¬ z ∈ told
  le : told.length ≤ 9
/-- a value that is no text -/
def OddV (H : Hp) (v : V) : Prop := v = .non ∨ (∃ b, v = .bl b) ∨ (∃ i, v = .int i) ∨ ∃ a xs, v = .ref a ∧ (H a = some (.lst xs) ∨ H a = some (.tup xs))
theorem OddV.ext {H H1 : Hp} {v : V} (h : OddV H v) (e : LamX.ExtN H H1) : OddV H1 v := by
  rcases h with h | h | h | ⟨a, xs, h, z | z⟩
  · exact .inl h
  · exact .inr (.inl h)
  · exact .inr (.inr (.inl h))
  · exact .inr (.inr (.inr ⟨a, xs, h, .inl (e _ _ z fun ps y => nomatch y)⟩))
  · exact .inr (.inr (.inr ⟨a, xs, h, .inr (e _ _ z fun ps y => nomatch y)⟩))
theorem OddV.pen {H H1 : Hp} {v : V} {g : Pen} {n : Nat} (h : OddV H v) (p : PenAt g H n) (k : Keep g.p H H1) : OddV H1 v := by
  obtain ⟨_, _, h1, _⟩ := p.ex
  rcases h with h | h | h | ⟨a, xs, h, z | z⟩
  · exact .inl h
  · exact .inr (.inl h)
  · exact .inr (.inr (.inl h))
  · refine .inr (.inr (.inr ⟨a, xs, h, .inl (k _ _ z fun e => ?_)⟩))
    rw [e, h1] at z
    cases z
  · refine .inr (.inr (.inr ⟨a, xs, h, .inr (k _ _ z fun e => ?_)⟩))
    rw [e, h1] at z
    cases z
theorem OddV.nv {K : PySem.W.Frag} {H : Hp} {v : V} (h : OddV H v) : NvTx K H v := by
  intro H' e
  rcases h with rfl | ⟨b, rfl⟩ | ⟨i, rfl⟩ | ⟨a, xs, rfl, z | z⟩
  · exact noTx_non
  · exact noTx_bl
  · exact noTx_int
  · exact noTx_lst (e _ _ z fun ps y => nomatch y)
  · exact noTx_tup (e _ _ z fun ps y => nomatch y)
theorem OddV.plain {H : Hp} {v : V} (h : OddV H v) : Plainly v := by
  rcases h with rfl | ⟨b, rfl⟩ | ⟨i, rfl⟩ | ⟨a, xs, rfl, _⟩
  · exact .inl rfl
  · exact .inl rfl
  · exact .inl rfl
  · exact .inr ⟨_, rfl⟩
theorem OddV.bool {K : PySem.W.Frag} {H : Hp} {v : V} (h : OddV H v) : ∃ b, BoolSt K H v b := by
  rcases h with rfl | ⟨b, rfl⟩ | ⟨i, rfl⟩ | ⟨a, xs, rfl, z | z⟩
  · exact ⟨_, boolSt_non⟩
  · exact ⟨_, boolSt_bl⟩
  · exact ⟨_, boolSt_int⟩
  · exact ⟨_, boolSt_lst z⟩
  · exact ⟨_, boolSt_tup z⟩
theorem OddV.ne {H : Hp} {v : V} {z : Str} (h : OddV H v) : v ≠ .str z := by
  rintro rfl
  rcases h with h | ⟨b, h⟩ | ⟨i, h⟩ | ⟨a, xs, h, _⟩ <;> cases h
/-- a text that is no pair of these letters -/
def NoPair (told l : List Nat) : Prop := ¬ ∃ a b, l = [a, b] ∧ a ≠ b ∧ a ∈ told ∧ b ∈ told
/-- an item of the list of pairs -/
def ElemC (H : Hp) (told : List Nat) (ps : List (List Nat)) (v : V) : Prop := (∃ p ∈ ps, v = .str (tx p)) ∨ OddV H v ∨ ∃ l, v = .str (tx l) ∧ l.length < 1000 ∧ NoPair told l
theorem ElemC.ext {H H1 : Hp} {told : List Nat} {ps : List (List Nat)} {v : V} (h : ElemC H told ps v) (e : LamX.ExtN H H1) : ElemC H1 told ps v := h.imp id fun z => z.imp (fun y => y.ext e) id
theorem ElemC.pen {H H1 : Hp} {told : List Nat} {ps : List (List Nat)} {v : V} {g : Pen} {n : Nat} (h : ElemC H told ps v) (p : PenAt g H n) (k : Keep g.p H H1) : ElemC H1 told ps v := h.imp id fun z => z.imp (fun y => y.pen p k) id
theorem DueIs.pen {H H1 : Hp} {v : V} {g : Pen} {n : Nat} : ∀ {o : Option (List Nat × V)}, DueIs H v o → PenAt g H n → Keep g.p H H1 → DueIs H1 v o
  | none, h, _, _ => h
  | some (m, u), ⟨p, q, e, h⟩, pa, k => by
    obtain ⟨_, _, h1, _⟩ := pa.ex
    refine ⟨p, q, e, k _ _ h fun z => ?_⟩
    rw [z, h1] at h
    cases h
end
section
open PySem PySem.Spec L2
/-- a plan of kinds and pairs as the law's -/
structure PlOk (ks : List Nat) (ps : List (List Nat)) : Prop where
  asc : ks.Pairwise (· < ·)
  lt : ∀ c ∈ ks, c ∈ LET
  len : ks.length ≤ 8
  pin : PairsIn ks ps
  few : ps.length < 1000
theorem PlOk.nd {ks : List Nat} {ps : List (List Nat)} (h : PlOk ks ps) : ks.Nodup := h.asc.imp fun z => Nat.ne_of_lt z
theorem mem_crossM {ks : List Nat} {ps : List (List Nat)} {a b : Nat} (hb : b ∈ ks) : decide (b ∈ crossOf ks ps a) = crM ps a b := by
  unfold crossOf crM
  rw [Bool.eq_iff_iff, decide_eq_true_iff, List.mem_filter]
  exact ⟨fun h => h.2, fun h => ⟨hb, h⟩⟩
def spFits03 (C : Addr) : Sp := fun vs H Q _ => ∃ (x : Addr) (ks : List Nat) (ps : List (List Nat)) (im : List Nat) (k : Nat), vs = [.ref x, .str (tx im), .str (tx [k])] ∧ PlanAt C H x ks ps ∧ im.length < ks.length ∧ ks.length ≤ 8 ∧ k ∈ ks ∧ (∀ c ∈ im, c ∈ ks) ∧ ∀ H', Same H H' → Q (.bl (fitsP ks ps im k)) H'
def spRens03 (C : Addr) : Sp := fun vs H Q _ => ∃ (x : Addr) (ks : List Nat) (ps : List (List Nat)), vs = [.ref x] ∧ PlanAt C H x ks ps ∧ ks.length ≤ 6 ∧ ks.Nodup ∧ ∀ D H', H D = none → Same H H' → H' D = some (.lst (strsG (rensL ks ps))) → Q (.ref D) H'
theorem at_getD3 {l : List Nat} {i : Nat} (h : i < l.length) : atI l ((i : Nat) : Int) = some (l.getD i 0) := atI_nat (j := i) (by rw [List.getD_eq_getElem?_getD, List.getElem?_eq_getElem h]; rfl)
theorem planF_fits3 {ks : List Nat} {t d : Addr} : (planF ks t d).lookup ("fits" : Str) = none := by
  unfold planF
  rw [lookup_putF, if_neg (by decide +kernel), lookup_putF, if_neg (by decide +kernel), lookup_putF, if_neg (by decide +kernel)]
  rfl
theorem bl_dec3 (a b : Bool) : decide (V.bl a = V.bl b) = (a == b) := by cases a <;> cases b <;> rfl
theorem walk_strsL (K : PySem.W.Frag) {a : Addr} {ls : List (List Nat)} : Walk (Itl K a) ls.length (fun H => SqL K H a (strsG ls)) (fun k H x H' => H' = H ∧ x = V.str (tx (ls.getD k []))) := by
  have w := walk_list (K := K) (a := a) (xs := strsG ls)
  rw [show (strsG ls).length = ls.length from strsG_len ls] at w
  refine w.mono (fun _ z => z) fun i H x H' hi _ y => ?_
  obtain ⟨rfl, e⟩ := y
  refine ⟨rfl, ?_⟩
  unfold strsG at e
  rw [List.getElem?_map, List.getElem?_eq_getElem hi] at e
  rw [List.getD_eq_getElem?_getD, List.getElem?_eq_getElem hi]
  exact (Option.some.inj e).symm
theorem getDL_mem {l : List (List Nat)} {k : Nat} (h : k < l.length) : l.getD k [] ∈ l := by
  rw [List.getD_eq_getElem?_getD, List.getElem?_eq_getElem h]
  exact List.getElem_mem h
theorem flat_range {β : Type} (l : List (List Nat)) (F : List Nat → List β) : ((List.range l.length).flatMap fun k => F (l.getD k [])) = l.flatMap F := by
  have e : l = (List.range l.length).map fun k => l.getD k [] := by
    apply List.ext_getElem
    · simp
    · intro j h1 h2
      simp [List.getD, h1]
  conv => rhs; rw [e, List.flatMap_map]
theorem growL_succ3 {ks : List Nat} {fit : List Nat → Nat → Bool} {n : Nat} : growL ks fit (n + 1) = (growL ks fit n).flatMap fun im => (ks.filter (fit im)).map fun k => im ++ [k] := rfl
structure TxtRn (K : PySem.W.Frag) (mg : Str → Option Value) (C : Addr) : Prop extends TxtG K mg C where
  enumerate : mg "enumerate" = none
  g_MOST_RENAMED : ∃ t, mg "MOST_RENAMED" = some (.int 6 t)
section
variable {P : Program} {w : World} {K : PySem.W.Frag} {mg : Str → Option Value} {base : Heap} {C : Addr}
abbrev stPlan_fits03 : Stmt := (inClass (top 27) 10)
abbrev NPlan_fits03 : List Str := ["self", "images", "kind", "mine", "at", "image"]
theorem scPlan_fits03 : FnScope NPlan_fits03 ["self", "images", "kind"] (defScope stPlan_fits03) := ⟨rfl, rfl, rfl, by decide +kernel, rfl, by decide +kernel, by decide +kernel⟩

theorem ok_Plan_fits03 (F : MAt K C "fits" "Plan.fits" stPlan_fits03) (T : TxtRn K mg C) : MDef P w K mg base CX0 1 C "fits" ["self", "images", "kind"] (spFits03 C) := by
  refine F.ok scPlan_fits03 (fun _ _ _ _ _ _ us hl => match us, hl with | [_, _, _], _ => rfl) (fun vs H Q E h => ?_) (fun f cdv A outer s H vs Q E hr h => ?_)
  · obtain ⟨x, ks, ps, im, k, rfl, _⟩ := h
    rfl
  obtain ⟨x, ks, ps, im, k, rfl, pl, li, lk, mk, mi, q⟩ := h
  have hu := hu_of hr
  have nd := scPlan_fits03.nd
  refine ⟨_, (pss_cons (ps_if (pt_cmpR op_inS (pv 2) (pv 1) (by rfl))
      (pss_one (ps_ret pe_bl))
      pss_nil)
      (pss_cons (ps_set (i := 3) nd rfl (Or.inr rfl) (pe_dget hu (pe_flK (K := K) rfl (pv 0) rfl) (pe_ix ix_str (pe_flK (K := K) rfl (pv 0) rfl) (pe_callB c_lenS (by rfl) T.len PySem.boot_len (pa_cons (pv 1) pa_nil)) (fun _ _ => rfl)) (fun _ _ => rfl)))
      (pss_one (ps_ret (pe_callB (c_allK (K := K) rfl rfl) (by rfl) T.all (by decide +kernel) (pa_cons (pe_lc (own := [("at", 4), ("image", 5)]) (g := gTup K 2 (gCons (gName 4) (gCons (gName 5) (gNil)))) (by rfl) nd (pi_enumS (by rfl) T.enumerate (pa_cons (pv 1) pa_nil)) (blkOk_by (own := [("at", 4), ("image", 5)]) (N := NPlan_fits03) (sc := defScope stPlan_fits03) (by decide +kernel)) (fun _ _ _ _ _ => (pg_tup rfl (pgs_cons (pg_name (i := 4) nd rfl (Or.inl rfl)) (pgs_cons (pg_name (i := 5) nd rfl (Or.inl rfl)) pgs_nil)))) (fun _ _ _ _ _ => pts_nil) (fun _ _ _ _ _ => (pe_cmpR op_eq (pe_cmpR op_inS (pv 5) (pe_dget hu (pe_flK (K := K) rfl (pv 0) rfl) (pv 2) (fun _ _ => rfl)) (by rfl)) (pe_cmpR op_inS (pe_ix ix_str (pe_flK (K := K) rfl (pv 0) rfl) (pv 4) (fun _ _ => rfl)) (pv 3) (by rfl)) (nomark _)))) pa_nil)))))), ?_⟩
  refine s_start [some _, some _, some _, none, none, none] rfl ?_
  obtain ⟨dp, tp, dq, a1, a2, a3⟩ := pl.ex
  walk_at "go"
  refine if_dec (fun c0 => ?_) (fun c0 => ?_)
  · walk_at "go"
    have e : fitsP ks ps im k = false := by
      unfold fitsP
      rw [decide_eq_true c0]
      rfl
    rw [← e]
    exact q H (Same.refl _)
  walk_at "go"
  refine v_fld a1 T.Plan.cl T.nO planF_o ?_
  walk_at "go"
  refine v_fld a1 T.Plan.cl T.nK planF_k ?_
  walk_at "go"
  refine v_ixS (by omega) (at_getD3 li) ?_
  have kk : ks.getD im.length 0 ∈ ks := getD_memR li
  refine v_dget (dget_let (g := fun k => V.str (tx (crossOf ks ps k))) a3 kk) ?_
  walk_at "go"
  refine lc_enumS (l := im) (fun i => V.bl (crM ps k (im.getD i 0) == crM ps (ks.getD im.length 0) (ks.getD i 0))) (by decide) (by omega) (fun i c hc H1 s1 R r => ?_) (fun i c hc H1 s1 R r => ?_) (fun D H1 hD s1 e1 => ?_)
  · walk_at "go"
    exact r H1 (Same.refl _)
  · have hi : i < im.length := (List.getElem?_eq_some_iff.mp hc).1
    have hg : im.getD i 0 = c := by rw [List.getD_eq_getElem?_getD, hc]; rfl
    have hcm : c ∈ ks := mi c (List.mem_of_getElem? hc)
    have hgi : ks.getD i 0 ∈ ks := getD_memR (by omega)
    walk_at "go"
    refine v_fld (s1 _ _ a1) T.Plan.cl T.nO planF_o ?_
    walk_at "go"
    refine v_dget (dget_let (g := fun k => V.str (tx (crossOf ks ps k))) (s1 _ _ a3) mk) ?_
    walk_at "go"
    refine v_fld (s1 _ _ a1) T.Plan.cl T.nK planF_k ?_
    walk_at "go"
    refine v_ixS (by omega) (at_getD3 (show i < ks.length by omega)) ?_
    walk_at "go"
    rw [bl_dec3, mem_crossM hcm, mem_crossM hgi, ← hg]
    exact r H1 (Same.refl _)
  walk_at "go"
  refine v_all (bs := (List.range im.length).map fun i => crM ps k (im.getD i 0) == crM ps (ks.getD im.length 0) (ks.getD i 0)) (by rw [List.map_map]; exact e1) ?_
  have e : ((List.range im.length).map fun i => crM ps k (im.getD i 0) == crM ps (ks.getD im.length 0) (ks.getD i 0)).all id = fitsP ks ps im k := by
    unfold fitsP
    rw [decide_eq_false c0, List.all_map]
    rfl
  rw [e]
  exact q H1 s1
abbrev stPlan_rens03 : Stmt := (inClass (top 27) 9)
abbrev NPlan_rens03 : List Str := ["self", "found", "at", "images", "kind"]
theorem scPlan_rens03 : FnScope NPlan_rens03 ["self"] (defScope stPlan_rens03) := ⟨rfl, rfl, rfl, by decide +kernel, rfl, by decide +kernel, by decide +kernel⟩

theorem desc_six : ∀ m, m ≤ 6 → ∀ n, n ≤ m → descR m n ≤ 720 := by decide
theorem ok_Plan_rens03 (F : MAt K C "renamings" "Plan.renamings" stPlan_rens03) (T : TxtRn K mg C) (M_Plan_fits : MDef P w K mg base CX0 1 C "fits" ["self", "images", "kind"] (spFits03 C)) : MDef P w K mg base CX0 2 C "renamings" ["self"] (spRens03 C) := by
  refine F.ok scPlan_rens03 (fun _ _ _ _ _ _ us hl => match us, hl with | [_], _ => rfl) (fun vs H Q E h => ?_) (fun f cdv A outer s H vs Q E hr h => ?_)
  · obtain ⟨x, ks, ps, rfl, _⟩ := h
    rfl
  obtain ⟨x, ks, ps, rfl, pl, l6, knd, q⟩ := h
  have hu := hu_of hr
  have nd := scPlan_rens03.nd
  refine ⟨_, (pss_cons (ps_if (pt_cmpR op_gt (pe_callB c_lenS (by rfl) T.len PySem.boot_len (pa_cons (pe_flK (K := K) rfl (pv 0) rfl) pa_nil)) (pe_globI T.g_MOST_RENAMED) (nomark _))
      (pss_one ps_never)
      pss_nil)
      (pss_cons (ps_set (i := 1) nd rfl (Or.inl rfl) (pe_lst (pa_cons (pe_tx [] (by decide +kernel)) pa_nil)))
      (pss_cons (ps_for PassesOwn.never rfl (pi_range1 (by rfl) T.range (pa_cons (pe_callB c_lenS (by rfl) T.len PySem.boot_len (pa_cons (pe_flK (K := K) rfl (pv 0) rfl) pa_nil)) pa_nil)) (pg_name (i := 2) nd rfl (Or.inl rfl))
      (pss_one (ps_setLc2 (i := 1) (own := [("images", 3), ("kind", 4)]) (vs1 := [4]) (by rfl) nd rfl rfl (sw_true rfl rfl rfl (by decide +kernel)) (pi_listK (K := K) rfl (pv 1)) (blkOk_by (own := [("images", 3), ("kind", 4)]) (N := NPlan_rens03) (sc := defScope stPlan_rens03) (by decide +kernel)) (by decide) (fun _ _ _ _ _ => (pg_name (i := 3) nd rfl (Or.inl rfl))) (fun _ _ _ _ _ => pts_nil) (fun _ _ _ _ _ => (pi_str (pe_flK (K := K) rfl (pv 0) rfl))) (fun _ _ _ _ _ => (pg_name (i := 4) nd rfl (Or.inl rfl))) (fun _ _ _ _ _ => (pts_one (pt_val (pe_md M_Plan_fits T.Plan.cl hr pass0 (pv 0) (pa_cons (pv 3) (pa_cons (pv 4) pa_nil)))))) (fun _ _ _ _ _ => (pe_op op_addS (pv 3) (pv 4))))))
      (pss_one (ps_ret (pv 1)))))), ?_⟩
  refine s_start [some _, none, none, none, none] rfl ?_
  obtain ⟨dp, tp, dq, a1, a2, a3⟩ := pl.ex
  have lk2 : ks.length ≤ 1000000 := by omega
  walk_at "go"
  refine v_fld a1 T.Plan.cl T.nK planF_k ?_
  walk_at "go"
  refine if_dec (fun c => absurd c (by omega)) (fun _ => ?_)
  walk_at "go"
  intro D0 H1 hD0 s1 e1
  walk_at "go"
  refine v_fld (s1 _ _ a1) T.Plan.cl T.nK planF_k ?_
  walk_at "go"
  refine for_it (walk_rI (fun i => ((i : Nat) : Int)) (fun k => Int.zero_add _)) (fun i σ H' => ∃ D x2, σ = [some (.ref x), some (.ref D), x2, none, none] ∧ Same H H' ∧ H D = none ∧ H' D = some (.lst (strsG (growL ks (fitsP ks ps) i)))) ⟨D0, _, rfl, s1, hD0, e1⟩ (fun _ _ _ _ _ => trivial) ?_ ?_
  · rintro i v σ H2 H3 hi ⟨D, x2, rfl, s2, hD, e2⟩ ⟨rfl, rfl⟩
    refine g_nm ?_
    have hi : i < ks.length := by omega
    walk_at "go"
    have lg : (growL ks (fitsP ks ps) i).length ≤ 720 := Nat.le_trans (growL_len knd fitsP_ok i) (desc_six _ l6 _ (by omega))
    refine v_lc2V (J := Itl K D) (n := (growL ks (fitsP ks ps) i).length) (mm := 6) (G := fun H => SqL K H D (strsG (growL ks (fitsP ks ps) i))) (it := fun k => V.str (tx ((growL ks (fitsP ks ps) i).getD k []))) (J1 := fun _ => Its (tx ks)) (m := fun _ => ks.length) (G1 := fun _ _ => True) (it1 := fun _ l => V.str (tx [ks.getD l 0])) (b := fun k l => fitsP ks ps ((growL ks (fitsP ks ps) i).getD k []) (ks.getD l 0)) (f := fun k l => V.str (tx ((growL ks (fitsP ks ps) i).getD k [] ++ [ks.getD l 0])))
      (by decide) (fun R r => ?_) (walk_strsL K) (fun H' s' => SqL.of (s' _ _ e2)) (fun k hk H4 s4 R r => ?_) (fun k hk => walk_tx ks) (fun _ _ _ _ => trivial) (fun k hk => l6) (by omega) (fun k l hk hl H4 s4 R r => ?_) (fun k l hk hl hb H4 s4 R r => ?_) (fun D' H4 hD' s4 e4 => ?_)
    · walk_at "go"
      exact r
    · walk_at "go"
      refine v_fld (s4 _ _ (s2 _ _ a1)) T.Plan.cl T.nK planF_k ?_
      exact ⟨_, rfl, r⟩
    · have him := getDL_mem hk
      obtain ⟨_, l1, m1⟩ := growL_nd fitsP_ok him
      have pl4 := (pl.same s2).same s4
      walk_at "go"
      refine ⟨x, _, _, rfl, s4 _ _ (s2 _ _ a1), planF_fits3, ?_⟩
      walk_at "go"
      exact ⟨x, ks, ps, _, _, rfl, pl4, by omega, by omega, getD_memR hl, m1, fun H5 s5 => ⟨_, rfl, r H5 s5⟩⟩
    · have him := getDL_mem hk
      obtain ⟨_, l1, m1⟩ := growL_nd fitsP_ok him
      have ll : ((growL ks (fitsP ks ps) i).getD k [] ++ [ks.getD l 0]).length ≤ 1000000 := by rw [List.length_append, l1, List.length_singleton]; omega
      walk_at "go"
      exact r H4 (Same.refl _)
    · walk_at "go"
      refine ⟨D', _, rfl, s2.trans s4, Same.free s2 hD', ?_⟩
      rw [e4]
      congr 2
      rw [growL_succ3]
      unfold strsG
      rw [List.map_flatMap]
      rw [← flat_range (growL ks (fitsP ks ps) i) (fun im => ((ks.filter (fitsP ks ps im)).map fun k => im ++ [k]).map fun l => V.str (tx l))]
      congr 1
      funext k
      rw [List.map_map]
      exact range_map ks (fun c => fitsP ks ps ((growL ks (fitsP ks ps) i).getD k []) c) (fun c => V.str (tx ((growL ks (fitsP ks ps) i).getD k [] ++ [c])))
  · rintro σ H2 ⟨D, x2, rfl, s2, hD, e2⟩
    walk_at "go"
    exact q D H2 hD s2 e2
end
end
section
open PySem PySem.Spec L2
theorem OrdR.asc {ks v : List Nat} {ps : List (List Nat)} (p : PlOk ks ps) : (ascOf v = ks ∧ v.length = ks.length) ↔ OrdR ks v := by
  have kk : ascOf ks = ks := by
    have pm : (ascOf ks).Perm ks := (List.perm_ext_iff_of_nodup (ascOf_nodup ks) p.nd).mpr fun c => by
      rw [ascOf_mem]
      exact ⟨fun h => h.2, fun h => ⟨p.lt c h, h⟩⟩
    exact pm.eq_of_pairwise (le := (· < ·)) (fun a b _ _ h1 h2 => absurd h1 (Nat.lt_asymm h2)) (asc_pw ks) p.asc
  constructor
  · rintro ⟨ea, el⟩
    have sub : ks ⊆ v := fun c hc => by rw [← ea] at hc; exact (ascOf_mem.mp hc).2
    have sub2 : ∀ c ∈ v, c ∈ ks := fun c hc => by
      apply Classical.byContradiction
      intro h
      have := List.Nodup.length_le_of_subset p.nd (l₂ := v.erase c) fun y hy => (List.mem_erase_of_ne (fun z : y = c => h (z ▸ hy))).mpr (sub hy)
      rw [List.length_erase_of_mem hc] at this
      have := List.length_pos_of_mem hc
      omega
    have ndv : v.Nodup := by
      rw [List.nodup_iff_count]
      intro c
      apply Classical.byContradiction
      intro h
      have h2 : 1 < v.count c := by omega
      have cv : c ∈ v := List.count_pos_iff.mp (by omega)
      have ce : c ∈ v.erase c := List.count_pos_iff.mp (by rw [List.count_erase_self]; omega)
      have := List.Nodup.length_le_of_subset p.nd (l₂ := v.erase c) fun y hy => by
        by_cases e : y = c
        · rw [e]; exact ce
        · exact (List.mem_erase_of_ne e).mpr (sub hy)
      rw [List.length_erase_of_mem cv] at this
      have := List.length_pos_of_mem cv
      omega
    exact ⟨ndv, el, sub2⟩
  · intro o
    refine ⟨(ascOf_congr fun c => ⟨o.sub c, o.all p.nd⟩).trans kk, o.len⟩
/-- a value that may be a renaming -/
def RenV (H : Hp) (ks : List Nat) (ps : List (List Nat)) (v : V) (b : Bool) : Prop := (b = false ∧ OddV H v ∧ v ≠ .non) ∨ ∃ l : List Nat, v = .str (tx l) ∧ l.length ≤ 1000 ∧ b = decide (l ∈ rensL ks ps)
theorem RenV.ne {H : Hp} {ks : List Nat} {ps : List (List Nat)} {v : V} {b : Bool} (h : RenV H ks ps v b) : v ≠ .non := by
  rcases h with ⟨_, _, h⟩ | ⟨l, rfl, _⟩
  · exact h
  · exact fun z => nomatch z
theorem RenV.ext {H H1 : Hp} {ks : List Nat} {ps : List (List Nat)} {v : V} {b : Bool} (h : RenV H ks ps v b) (s : LamX.ExtN H H1) : RenV H1 ks ps v b := h.imp (fun z => ⟨z.1, z.2.1.ext s, z.2.2⟩) id
theorem beq_comm71 (a b : Bool) : id (a == b) = (b == a) := by cases a <;> cases b <;> rfl
def spFitsPl (C : Addr) : Sp := fun vs H Q _ => ∃ (x : Addr) (ks : List Nat) (ps : List (List Nat)) (v : V) (b : Bool), vs = [.ref x, v] ∧ PlanAt C H x ks ps ∧ PlOk ks ps ∧ RenV H ks ps v b ∧ ∀ H', Same H H' → Q (.bl b) H'
def spNeedRen (C IR : Addr) : Sp := fun vs H Q E => ∃ (x : Addr) (ks : List Nat) (ps : List (List Nat)) (v : V) (b : Bool), vs = [.ref x, v] ∧ PlanAt C H x ks ps ∧ PlOk ks ps ∧ RenV H ks ps v b ∧ (b = true → ∀ H', Same H H' → Q v H') ∧ (b = false → Rz E H IR "value" v)
def spRensE (C TM : Addr) : Sp := fun vs H Q E => ∃ (x : Addr) (ks : List Nat) (ps : List (List Nat)), vs = [.ref x] ∧ PlanAt C H x ks ps ∧ 6 < ks.length ∧ ks.length ≤ 1000 ∧ Rz E H TM "most" (.int 6)
structure TxtMo (K : PySem.W.Frag) (mg : Str → Option Value) (C R O Mo : Addr) : Prop extends TxtRn K mg C where
  Motion : ClsF K mg "Motion" Mo
  nMp : NoAttr K Mo "plan"
  nMh : NoAttr K Mo "home"
  nMr : NoAttr K Mo "renaming"
section
variable {P : Program} {w : World} {K : PySem.W.Frag} {mg : Str → Option Value} {base : Heap} {C R O Mo IR TM : Addr}
abbrev stPlan_rensE : Stmt := (inClass (top 27) 9)
abbrev NPlan_rensE : List Str := ["self", "found", "at", "images", "kind"]
theorem scPlan_rensE : FnScope NPlan_rensE ["self"] (defScope stPlan_rensE) := ⟨rfl, rfl, rfl, by decide +kernel, rfl, by decide +kernel, by decide +kernel⟩

theorem ok_Plan_rensE (F : MAt K C "renamings" "Plan.renamings" stPlan_rensE) (T : TxtRn K mg C) (M_Plan_fits : MDef P w K mg base CX0 1 C "fits" ["self", "images", "kind"] (spFits03 C)) (X_TooMany : XDef P w K mg base 1 "TooMany" TM 1 (fun ws => [("most", ws.getD 0 .non)])) : MDef P w K mg base (L2.CX P w) 3 C "renamings" ["self"] (spRensE C TM) := by
  refine F.okX scPlan_rensE (fun _ _ _ _ _ _ us hl => match us, hl with | [_], _ => rfl) (fun vs H Q E h => ?_) (fun f cdv A outer s H vs Q E hr h => ?_)
  · obtain ⟨x, ks, ps, rfl, _⟩ := h
    rfl
  obtain ⟨x, ks, ps, rfl, pl, h6, hk, rz⟩ := h
  have hu := hu_of hr
  have nd := scPlan_rensE.nd
  replace M_Plan_fits := M_Plan_fits.mono (show 1 ≤ 2 by decide)
  refine ⟨_, (pss_cons (ps_if (pt_cmpR op_gt (pe_callB c_lenS (by rfl) T.len PySem.boot_len (pa_cons (pe_flK (K := K) rfl (pv 0) rfl) pa_nil)) (pe_globI T.g_MOST_RENAMED) (nomark _))
      (pss_one (ps_raise rfl (takes_of rfl rfl rfl rfl) (pmk_E X_TooMany hr (pa_cons (pe_globI T.g_MOST_RENAMED) pa_nil))))
      pss_nil)
      (pss_cons (ps_set (i := 1) nd rfl (Or.inl rfl) (pe_lst (pa_cons (pe_tx [] (by decide +kernel)) pa_nil)))
      (pss_cons (ps_for PassesOwn.leaving rfl (pi_range1 (by rfl) T.range (pa_cons (pe_callB c_lenS (by rfl) T.len PySem.boot_len (pa_cons (pe_flK (K := K) rfl (pv 0) rfl) pa_nil)) pa_nil)) (pg_name (i := 2) nd rfl (Or.inl rfl))
      (pss_one (ps_setLc2 (i := 1) (own := [("images", 3), ("kind", 4)]) (vs1 := [4]) (by rfl) nd rfl rfl (sw_true rfl rfl rfl (by decide +kernel)) (pi_listK (K := K) rfl (pv 1)) (blkOk_by (own := [("images", 3), ("kind", 4)]) (N := NPlan_rensE) (sc := defScope stPlan_rensE) (by decide +kernel)) (by decide) (fun _ _ _ _ _ => (pg_name (i := 3) nd rfl (Or.inl rfl))) (fun _ _ _ _ _ => pts_nil) (fun _ _ _ _ _ => (pi_str (pe_flK (K := K) rfl (pv 0) rfl))) (fun _ _ _ _ _ => (pg_name (i := 4) nd rfl (Or.inl rfl))) (fun _ _ _ _ _ => (pts_one (pt_val (pe_md M_Plan_fits T.Plan.cl hr pass0 (pv 0) (pa_cons (pv 3) (pa_cons (pv 4) pa_nil)))))) (fun _ _ _ _ _ => (pe_op op_addS (pv 3) (pv 4))))))
      (pss_one (ps_ret (pv 1)))))), ?_⟩
  refine s_start [some _, none, none, none, none] rfl ?_
  obtain ⟨dp, tp, dq, a1, a2, a3⟩ := pl.ex
  walk_at "go"
  refine v_fld a1 T.Plan.cl T.nK planF_k ?_
  walk_at "go"
  have hk2 : ks.length ≤ 1000000 := by omega
  walk_at "go"
  refine if_dec (fun c => ?_) (fun c => absurd c (by omega))
  walk_at "go"
  refine v_mkE rfl (by decide) fun d hd => ?_
  exact rz _ d (Same.new hd) upd_same
abbrev stfits_plan : Stmt := (top 57)
abbrev Nfits_plan : List Str := ["plan", "value", "pairs", "crossing", "one", "other"]
theorem scfits_plan : FnScope Nfits_plan ["plan", "value"] (defScope stfits_plan) := ⟨rfl, rfl, rfl, by decide +kernel, rfl, by decide +kernel, by decide +kernel⟩

theorem ok_fits_plan (F : FnAt K mg "fits_plan" stfits_plan) (T : TxtRn K mg C) (D_ascending : Def P w K mg base CX0 1 "ascending" ["letters"] spAscending) : Def P w K mg base CX0 2 "fits_plan" ["plan", "value"] (spFitsPl C) := by
  refine F.ok scfits_plan (fun _ _ _ _ _ _ us hl => match us, hl with | [_, _], _ => rfl) (fun vs H Q E h => ?_) (fun f cdv A outer s H vs Q E hr h => ?_)
  · obtain ⟨x, ks, ps, v, b, rfl, _⟩ := h
    rfl
  obtain ⟨x, ks, ps, v, b, rfl, pl, ok, rv, q⟩ := h
  have hu := hu_of hr
  have nd := scfits_plan.nd
  refine ⟨_, (pss_cutS (ps_if (PW.pt (pw_or (pt_not (pt_val (pe_callB (c_isiK (K := K) rfl) (by rfl) T.isinstance (by decide +kernel) (pa_cons (pv 1) (pa_cons (pe_bltn (v := .ty "str") (u := .type "str") (by rfl) T.str (by decide +kernel) rfl) pa_nil))))) (pw_or (pt_cmpR op_ne (pe_cd D_ascending hr pass0 (pa_cons (pv 1) pa_nil)) (pe_flK (K := K) rfl (pv 0) rfl) (nomark _)) (pw_or1 (pt_cmpR op_ne (pe_callB c_lenS (by rfl) T.len PySem.boot_len (pa_cons (pv 1) pa_nil)) (pe_callB c_lenS (by rfl) T.len PySem.boot_len (pa_cons (pe_flK (K := K) rfl (pv 0) rfl) pa_nil)) (nomark _))))))
      (pss_one (ps_ret pe_bl))
      pss_nil)
      (pss_cons (ps_setLc2 (i := 2) (own := [("one", 4), ("other", 5)]) (vs1 := [5]) (by rfl) nd rfl rfl (sw_true rfl rfl rfl (by decide +kernel)) (pi_range1 (by rfl) T.range (pa_cons (pe_callB c_lenS (by rfl) T.len PySem.boot_len (pa_cons (pv 1) pa_nil)) pa_nil)) (blkOk_by (own := [("one", 4), ("other", 5)]) (N := Nfits_plan) (sc := defScope stfits_plan) (by decide +kernel)) (by decide) (fun _ _ _ _ _ => (pg_name (i := 4) nd rfl (Or.inl rfl))) (fun _ _ _ _ _ => pts_nil) (fun _ _ _ _ _ => (pi_range1 (by rfl) T.range (pa_cons (pv 4) pa_nil))) (fun _ _ _ _ _ => (pg_name (i := 5) nd rfl (Or.inl rfl))) (fun _ _ _ _ _ => pts_nil) (fun _ _ _ _ _ => (pe_tup (pa_cons (pv 4) (pa_cons (pv 5) pa_nil)))))
      (pss_cons (ps_set (i := 3) nd rfl (Or.inr rfl) (pe_flK (K := K) rfl (pv 0) rfl))
      (pss_one (ps_ret (pe_callB (c_allK (K := K) rfl rfl) (by rfl) T.all (by decide +kernel) (pa_cons (pe_lc (own := [("one", 4), ("other", 5)]) (g := gTup K 2 (gCons (gName 4) (gCons (gName 5) (gNil)))) (by rfl) nd (pi_listK (K := K) rfl (pv 2)) (blkOk_by (own := [("one", 4), ("other", 5)]) (N := Nfits_plan) (sc := defScope stfits_plan) (by decide +kernel)) (fun _ _ _ _ _ => (pg_tup rfl (pgs_cons (pg_name (i := 4) nd rfl (Or.inl rfl)) (pgs_cons (pg_name (i := 5) nd rfl (Or.inl rfl)) pgs_nil)))) (fun _ _ _ _ _ => pts_nil) (fun _ _ _ _ _ => (pe_cmpR op_eq (pe_cmpR op_inS (pe_ix ix_str (pv 1) (pv 4) (fun _ _ => rfl)) (pe_dget hu (pv 3) (pe_ix ix_str (pv 1) (pv 5) (fun _ _ => rfl)) (fun _ _ => rfl)) (by rfl)) (pe_cmpR op_inS (pe_ix ix_str (pe_flK (K := K) rfl (pv 0) rfl) (pv 4) (fun _ _ => rfl)) (pe_dget hu (pv 3) (pe_ix ix_str (pe_flK (K := K) rfl (pv 0) rfl) (pv 5) (fun _ _ => rfl)) (fun _ _ => rfl)) (by rfl)) (nomark _)))) pa_nil))))))), ?_⟩
  refine s_start [some _, some _, none, none, none, none] rfl ?_
  obtain ⟨dp, tp, dq, a1, a2, a3⟩ := pl.ex
  rcases rv with ⟨rfl, nt, _⟩ | ⟨l, rfl, ll, rfl⟩
  · refine s_cut (fun _ _ => False) ?_ fun _ _ h => h.elim
    walk_at "go"
    refine v_isiN (nt.nv (K := K)).now ?_
    walk_at "go"
    exact q H (Same.refl _)
  have key := OrdR.asc (v := l) ok
  have ll6 : l.length ≤ 1000000 := by omega
  have lk6 : ks.length ≤ 1000000 := by have := ok.len; omega
  refine s_cut (fun σ H' => σ = [some (.ref x), some (.str (tx l)), none, none, none, none] ∧ Same H H' ∧ OrdR ks l) ?_ ?_
  · walk_at "go"
    refine ⟨l, rfl, fun H1 s1 => ?_⟩
    have no : ¬ OrdR ks l → Q (.bl false) H1 := fun e => by
      have := q H1 s1
      rwa [decide_eq_false fun z => e (ren_iff.mp z).1] at this
    walk_at "go"
    refine v_fld (s1 _ _ a1) T.Plan.cl T.nK planF_k ?_
    walk_at "go"
    refine if_ndec (fun c1 => ?_) (fun c1 => ?_)
    · walk_at "go"
      exact no fun o => c1 (by rw [(key.mpr o).1])
    have ea : ascOf l = ks := by
      injection c1 with c1
      exact tx_inj.mp c1
    walk_at "go"
    refine v_fld (s1 _ _ a1) T.Plan.cl T.nK planF_k ?_
    walk_at "go"
    refine if_ndec (fun c2 => ?_) (fun c2 => ?_)
    · walk_at "go"
      exact no fun o => c2 (by rw [(key.mpr o).2])
    walk_at "go"
    refine ⟨rfl, s1, key.mp ⟨ea, ?_⟩⟩
    injection c2 with c2
    omega
  rintro σ H1 ⟨rfl, s1, o⟩
  have ol := o.len
  have l8 := ok.len
  have tn : ∀ k : Nat, ((k : Nat) : Int).toNat = k := fun k => rfl
  walk_at "go"
  refine v_lc2T (J := Itr 0 ((l.length : Nat) : Int).toNat) (n := l.length) (mm := 8) (G := fun _ => True) (it := fun k => V.int ((k : Nat) : Int)) (J1 := fun k => Itr 0 ((k : Nat) : Int).toNat) (m := fun k => k) (G1 := fun _ _ => True) (it1 := fun _ j => V.int ((j : Nat) : Int)) (f := fun k j => [V.int ((k : Nat) : Int), V.int ((j : Nat) : Int)])
    (by decide) (fun R r => ?_) (walk_rI (fun k => ((k : Nat) : Int)) (fun k => Int.zero_add _)) (fun _ _ => trivial) (fun k hk H2 s2 R r => ?_) (fun k hk => walk_rI (fun k => ((k : Nat) : Int)) (fun k => Int.zero_add _)) (fun _ _ _ _ => trivial) (fun k hk => by omega) (by omega) (fun k j hk hj H2 s2 R r => ?_) (fun k j hk hj H2 s2 R r => ?_) (fun D H2 zs hD s2 e2 f2 g2 => ?_)
  · walk_at "go"
    exact r
  · walk_at "go"
    exact r
  · walk_at "go"
    exact r H2 (Same.refl _)
  · walk_at "go"
    intro p H3 hp s3 e3
    exact r p H3 s3 e3
  · walk_at "go"
    refine v_fld ((s1.trans s2) _ _ a1) T.Plan.cl T.nO planF_o ?_
    have lz : zs.length = ((List.range l.length).flatMap (fun k => (List.range k).map fun j => ((k, j) : Nat × Nat))).length := by
      have := congrArg List.length f2
      rw [List.length_map] at this
      rw [this, List.length_flatMap, List.length_flatMap]
      congr 1
      refine List.map_congr_left fun k _ => ?_
      rw [List.length_map, List.length_map]
    have f3 : zs.map (·.1) = ((List.range l.length).flatMap (fun k => (List.range k).map fun j => ((k, j) : Nat × Nat))).map fun q => [V.int ((q.1 : Nat) : Int), V.int ((q.2 : Nat) : Int)] := by
      rw [f2, List.map_flatMap]
      congr 1
      funext k
      rw [List.map_map]
      rfl
    have hq : ∀ q ∈ (List.range l.length).flatMap (fun k => (List.range k).map fun j => ((k, j) : Nat × Nat)), q.2 < q.1 ∧ q.1 < l.length := fun q hq => by
      obtain ⟨k, hk, h⟩ := List.mem_flatMap.mp hq
      obtain ⟨j, hj, rfl⟩ := List.mem_map.mp h
      exact ⟨List.mem_range.mp hj, List.mem_range.mp hk⟩
    have hall : ∀ g : Nat × Nat → Bool, ((List.range l.length).flatMap (fun k => (List.range k).map fun j => ((k, j) : Nat × Nat))).all g = (List.range l.length).all fun i => (List.range i).all fun j => g (i, j) := fun g => by
      rw [List.all_flatMap]
      congr 1
      funext k
      rw [List.all_map]
      rfl
    have lq : ((List.range l.length).flatMap (fun k => (List.range k).map fun j => ((k, j) : Nat × Nat))).length ≤ 8 * 8 := Nat.le_trans (flatLen (c := 8) fun k hk => by rw [List.length_map, List.length_range]; have := List.mem_range.mp hk; omega) (by rw [List.length_range]; exact Nat.mul_le_mul_right _ (by omega))
    generalize hps : (List.range l.length).flatMap (fun k => (List.range k).map fun j => ((k, j) : Nat × Nat)) = prs at lz f3 hq hall lq
    have a12 := (s1.trans s2) _ _ a1
    have a32 := (s1.trans s2) _ _ a3
    walk_at "go"
    refine lc_pairsV (K := K) (xs := zs.map (·.2)) (A := fun k => V.int (((prs.getD k (0, 0)).1 : Nat) : Int)) (B := fun k => V.int (((prs.getD k (0, 0)).2 : Nat) : Int)) (fun k => V.bl (crM ps (l.getD (prs.getD k (0, 0)).1 0) (l.getD (prs.getD k (0, 0)).2 0) == crM ps (ks.getD (prs.getD k (0, 0)).1 0) (ks.getD (prs.getD k (0, 0)).2 0))) (by decide) (SqL.of e2) (fun H' s' => SqL.of (s' _ _ e2)) (by rw [List.length_map]; omega) (fun k v hv => ?_) (fun k hk H3 s3 R r => ?_) (fun k hk H3 s3 R r => ?_) (fun D' H3 hD' s3 e3 => ?_)
    · rw [List.getElem?_map] at hv
      obtain ⟨z, hz, rfl⟩ := Option.map_eq_some_iff.mp hv
      obtain ⟨p, ep, hp⟩ := g2 z (List.mem_of_getElem? hz)
      refine ⟨p, ep, ?_⟩
      have e5 := congrArg (fun x => x[k]?) f3
      simp only [List.getElem?_map, hz, Option.map_some] at e5
      have hk : k < prs.length := by
        have := (List.getElem?_eq_some_iff.mp hz).1
        omega
      rw [List.getElem?_eq_getElem hk] at e5
      rw [hp, List.getD_eq_getElem?_getD, List.getElem?_eq_getElem hk]
      exact congrArg (fun x => some (HO.tup x)) (Option.some.inj e5)
    · walk_at "go"
      exact r H3 (Same.refl _)
    · rw [List.length_map] at hk
      have hk : k < prs.length := by omega
      have hg : prs.getD k (0, 0) ∈ prs := by
        rw [List.getD_eq_getElem?_getD, List.getElem?_eq_getElem hk]
        exact List.getElem_mem hk
      obtain ⟨q1, q2⟩ := hq _ hg
      generalize prs.getD k (0, 0) = pr at q1 q2 r
      have m1 : l.getD pr.1 0 ∈ ks := o.sub _ (getD_memR (by omega))
      have m2 : l.getD pr.2 0 ∈ ks := o.sub _ (getD_memR (by omega))
      have m3 : ks.getD pr.1 0 ∈ ks := getD_memR (by omega)
      have m4 : ks.getD pr.2 0 ∈ ks := getD_memR (by omega)
      walk_at "go"
      refine v_ixS (by omega) (at_getD3 (by omega)) ?_
      walk_at "go"
      refine v_ixS (by omega) (at_getD3 (by omega)) ?_
      walk_at "go"
      refine v_dget (dget_let (g := fun k => V.str (tx (crossOf ks ps k))) (s3 _ _ a32) m2) ?_
      walk_at "go"
      refine v_fld (s3 _ _ a12) T.Plan.cl T.nK planF_k ?_
      walk_at "go"
      refine v_ixS (by omega) (at_getD3 (by omega)) ?_
      walk_at "go"
      refine v_fld (s3 _ _ a12) T.Plan.cl T.nK planF_k ?_
      walk_at "go"
      refine v_ixS (by omega) (at_getD3 (by omega)) ?_
      walk_at "go"
      refine v_dget (dget_let (g := fun k => V.str (tx (crossOf ks ps k))) (s3 _ _ a32) m4) ?_
      walk_at "go"
      rw [bl_dec3, mem_crossM m1, mem_crossM m3, crM_sym ps (l.getD pr.2 0), crM_sym ps (ks.getD pr.2 0)]
      exact r H3 (Same.refl _)
    · walk_at "go"
      rw [List.length_map] at e3
      refine v_all (bs := (List.range zs.length).map fun k => crM ps (l.getD (prs.getD k (0, 0)).1 0) (l.getD (prs.getD k (0, 0)).2 0) == crM ps (ks.getD (prs.getD k (0, 0)).1 0) (ks.getD (prs.getD k (0, 0)).2 0)) (by rw [List.map_map]; exact e3) ?_
      have eb : ((List.range zs.length).map fun k => crM ps (l.getD (prs.getD k (0, 0)).1 0) (l.getD (prs.getD k (0, 0)).2 0) == crM ps (ks.getD (prs.getD k (0, 0)).1 0) (ks.getD (prs.getD k (0, 0)).2 0)).all id = decide (l ∈ rensL ks ps) := by
        have e4 : ((List.range zs.length).map fun k => crM ps (l.getD (prs.getD k (0, 0)).1 0) (l.getD (prs.getD k (0, 0)).2 0) == crM ps (ks.getD (prs.getD k (0, 0)).1 0) (ks.getD (prs.getD k (0, 0)).2 0)) = prs.map fun pr => crM ps (l.getD pr.1 0) (l.getD pr.2 0) == crM ps (ks.getD pr.1 0) (ks.getD pr.2 0) := by
          rw [lz]
          apply List.ext_getElem
          · simp
          · intro j h1 h2
            simp only [List.length_map, List.length_range] at h1
            simp [List.getD, h1]
        rw [e4, List.all_map]
        show prs.all (fun pr => id (crM ps (l.getD pr.1 0) (l.getD pr.2 0) == crM ps (ks.getD pr.1 0) (ks.getD pr.2 0))) = _
        rw [hall, ol, Bool.eq_iff_iff, decide_eq_true_iff, ren_iff]
        have e6 : ((List.range ks.length).all fun i => (List.range i).all fun j => id (crM ps (l.getD i 0) (l.getD j 0) == crM ps (ks.getD i 0) (ks.getD j 0))) = keepsP ks ps l := by
          unfold keepsP
          congr 1
          funext i
          congr 1
          funext j
          exact beq_comm71 _ _
        rw [e6]
        exact ⟨fun z => ⟨o, z⟩, fun z => z.2⟩
      rw [eb]
      exact q H3 ((s1.trans s2).trans s3)
abbrev stneed_renaming : Stmt := (top 58)
abbrev Nneed_renaming : List Str := ["plan", "value"]
theorem scneed_renaming : FnScope Nneed_renaming ["plan", "value"] (defScope stneed_renaming) := ⟨rfl, rfl, rfl, by decide +kernel, rfl, by decide +kernel, by decide +kernel⟩

theorem ok_need_renaming (F : FnAt K mg "need_renaming" stneed_renaming) (T : TxtRn K mg C) (D_fits_plan : Def P w K mg base CX0 2 "fits_plan" ["plan", "value"] (spFitsPl C)) (X_InvalidRenaming : XDef P w K mg base 1 "InvalidRenaming" IR 1 (fun ws => [("value", ws.getD 0 .non)])) : Def P w K mg base (L2.CX P w) 4 "need_renaming" ["plan", "value"] (spNeedRen C IR) := by
  refine F.okX scneed_renaming (fun _ _ _ _ _ _ us hl => match us, hl with | [_, _], _ => rfl) (fun vs H Q E h => ?_) (fun f cdv A outer s H vs Q E hr h => ?_)
  · obtain ⟨x, ks, ps, v, b, rfl, _⟩ := h
    rfl
  obtain ⟨x, ks, ps, v, b, rfl, pl, ok, rv, q1, q2⟩ := h
  have hu := hu_of hr
  have nd := scneed_renaming.nd
  replace D_fits_plan := D_fits_plan.mono (show 2 ≤ 3 by decide)
  replace X_InvalidRenaming := X_InvalidRenaming.mono (show 1 ≤ 2 by decide)
  refine ⟨_, (pss_cons (ps_if (pt_cmpR op_isN1 (pv 1) pe_non (nomark _))
      (pss_one (ps_ret (pe_flK (K := K) rfl (pv 0) rfl)))
      pss_nil)
      (pss_cons (ps_if (pt_not (pt_val (pe_cd D_fits_plan hr pass0 (pa_cons (pv 0) (pa_cons (pv 1) pa_nil)))))
      (pss_one (ps_raise rfl (takes_of rfl rfl rfl rfl) (pmk_E X_InvalidRenaming hr (pa_cons (pv 1) pa_nil))))
      pss_nil)
      (pss_one (ps_ret (pv 1))))), ?_⟩
  refine s_start [some _, some _] rfl ?_
  walk_at "go"
  refine ⟨rfl, _, rfl, ?_⟩
  rw [decide_eq_false rv.ne]
  walk_at "go"
  refine ⟨x, ks, ps, v, b, rfl, pl, ok, rv, fun H1 s1 => ?_⟩
  walk_at "go"
  cases b with
  | true =>
    walk_at "go"
    exact q1 rfl H1 s1
  | false =>
    walk_at "go"
    refine e_mkE ?_
    walk_at "go"
    refine v_mkE (n := 1) (ws := [v]) rfl (by decide) fun d hd => ?_
    exact q2 rfl _ d (s1.trans (Same.new hd)) upd_same
def spMotion0 (C Mo IR : Addr) : Sp := fun vs H Q E => ∃ (m dm x : Addr) (ks : List Nat) (ps : List (List Nat)) (v : V) (b : Bool) (H0 : Hp), vs = [.ref m, .ref x, .str (tx []), v] ∧ H m = some (.ins Mo dm []) ∧ H0 m = none ∧ Same H0 H ∧ PlanAt C H0 x ks ps ∧ PlOk ks ps ∧ RenV H0 ks ps v b ∧ (b = true → ∀ H', Same H0 H' → Q .non H') ∧ (b = false → Rz E H0 IR "value" v)
def spMotion (C IR : Addr) : Sp := fun vs H Q E => ∃ (x : Addr) (ks : List Nat) (ps : List (List Nat)) (v : V) (b : Bool), vs = [.ref x, .str (tx []), v] ∧ PlanAt C H x ks ps ∧ PlOk ks ps ∧ RenV H ks ps v b ∧ (b = true → ∀ z H', Same H H' → Q (.ref z) H') ∧ (b = false → Rz E H IR "value" v)
theorem conv_motion (C Mo IR : Addr) : Conv Mo (spMotion0 C Mo IR) (spMotion C IR) := by
  rintro vs H Q E ⟨x, ks, ps, v, b, rfl, pl, ok, rv, q1, q2⟩ m dm hm hdm hne
  refine ⟨m, dm, x, ks, ps, v, b, H, rfl, upd_same, hm, fun b u hb => ?_, pl, ok, rv, fun hb H' s' => ⟨rfl, q1 hb m H' s'⟩, q2⟩
  rw [upd_ne (ne_of_none hb hm), upd_ne (ne_of_none hb hdm)]
  exact hb
abbrev stMotion_init : Stmt := (inClass (top 62) 0)
abbrev NMotion_init : List Str := ["self", "plan", "way", "renaming"]
theorem scMotion_init : FnScope NMotion_init ["self", "plan", "way", "renaming"] (defScope stMotion_init) := ⟨rfl, rfl, rfl, by decide +kernel, rfl, by decide +kernel, by decide +kernel⟩

theorem ok_Motion {dvs : List V} (F : MAtD K Mo "__init__" "Motion.__init__" stMotion_init dvs) (hd : dvs.length = 2) (T : TxtMo K mg C R O Mo) (C_Room : CDef P w K mg base CX0 3 "Room" R (spRoom C R)) (D_need_renaming : Def P w K mg base (L2.CX P w) 4 "need_renaming" ["plan", "value"] (spNeedRen C IR)) :
    CMk P w K mg base (L2.CX P w) 5 "Motion" Mo (spMotion C IR) ["self", "plan", "way", "renaming"] "Motion.__init__" stMotion_init dvs := by
  refine F.makeX (sp0 := spMotion0 C Mo IR) T.Motion scMotion_init (by intro z; rw [z] at hd; cases hd) (fun T kV doc pm an cdv ct us its l1 l2 => ?_) (fun vs H Q E h => ?_) (conv_motion C Mo IR) (fun f cdv A outer s H vs Q E hr h => ?_)
  · rw [hd] at l2 ⊢
    match us, l1, its, l2 with
    | [_, _, _, _], _, [_, _], _ => exact ⟨_, rfl, rfl⟩
  · obtain ⟨m, dm, x, ks, ps, v, b, H0, rfl, _⟩ := h
    rfl
  obtain ⟨m, dm, x, ks, ps, v, b, H0, rfl, hm, h0, s0, pl, ok, rv, q1, q2⟩ := h
  have hu := hu_of hr
  have nd := scMotion_init.nd
  refine ⟨_, (pss_cons (ps_flK (K := K) rfl (pv 0) (pv 1) rfl)
      (pss_cons (ps_flK (K := K) rfl (pv 0) (pe_mk C_Room hr pass0 (pa_cons (pv 1) (pa_cons (pv 2) pa_nil))) rfl)
      (pss_one (ps_flK (K := K) rfl (pv 0) (pe_cd D_need_renaming hr (passes_call (takes_of rfl rfl rfl rfl) (fun _ _ _ _ h => h)) (pa_cons (pv 1) (pa_cons (pv 3) pa_nil))) rfl)))), ?_⟩
  refine s_start [some _, some _, some _, some _] rfl ?_
  walk_at "go"
  refine v_sfld hm T.Motion.cl T.nMp (by decide) fun H1 s1 e1 => ?_
  have z1 : Same H0 H1 := fun b u hb => s1 _ _ (s0 _ _ hb) (ne_of_none hb h0)
  walk_at "go"
  refine ⟨x, ks, ps, [], rfl, pl.same z1, by simp, by simp, fun r H2 hr2 s2 _ => ?_⟩
  walk_at "go"
  have nr : r ≠ m := fun z => by rw [z, e1] at hr2; cases hr2
  refine v_sfld (s2 _ _ e1) T.Motion.cl T.nMh (by show 1 < 1000; decide) fun H3 s3 e3 => ?_
  have z3 : Same H0 H3 := fun b u hb => s3 _ _ (s2 _ _ (z1 _ _ hb)) (ne_of_none hb h0)
  walk_at "go"
  refine ⟨x, ks, ps, v, b, rfl, pl.same z3, ok, rv.ext (ext_of z3), fun hb H4 s4 => ?_, fun hb => (q2 hb).same z3⟩
  walk_at "go"
  refine v_sfld (s4 _ _ e3) T.Motion.cl T.nMr (by show 2 < 1000; decide) fun H5 s5 e5 => ?_
  exact q1 hb H5 fun b u hb => s5 _ _ (s4 _ _ (z3 _ _ hb)) (ne_of_none hb h0)
end
end
section
open PySem PySem.Spec L2
theorem take_getDL {l : List (List Nat)} {k : Nat} (hk : k < l.length) : l.take (k + 1) = l.take k ++ [l.getD k []] := by
  rw [List.take_add_one, List.getD_eq_getElem?_getD, List.getElem?_eq_getElem hk]
  rfl
def ordsL (ks : List Nat) : List (List Nat) := growL ks notF ks.length
def spOrds03 : Sp := fun vs H Q _ => ∃ ks : List Nat, vs = [.str (tx ks)] ∧ ks.Nodup ∧ ks.length ≤ 5 ∧ ∀ D H', H D = none → Same H H' → H' D = some (.lst (strsG (ordsL ks))) → Q (.ref D) H'
def spMeet03 : Sp := fun vs H Q _ => ∃ (q : Addr) (ps : List (List Nat)) (a b : Nat), vs = [.ref q, .str (tx [a]), .str (tx [b])] ∧ H q = some (.lst (strsG ps)) ∧ Q (.bl (crM ps a b)) H
def spKeeps03 : Sp := fun vs H Q _ => ∃ (q : Addr) (ks v : List Nat) (ps : List (List Nat)), vs = [.str (tx ks), .ref q, .str (tx v)] ∧ H q = some (.lst (strsG ps)) ∧ ks.length ≤ 8 ∧ v.length = ks.length ∧ Q (.bl (keepsP ks ps v)) H
section
variable {P : Program} {w : World} {K : PySem.W.Frag} {mg : Str → Option Value} {base : Heap} {C : Addr}
abbrev stords03 : Stmt := (top 69)
abbrev Nords03 : List Str := ["_law_doors", "_law_found", "_law_k", "_law_longer", "_law_row", "_law_kind"]
theorem scords03 : FnScope Nords03 ["_law_doors"] (defScope stords03) := ⟨rfl, rfl, rfl, by decide +kernel, rfl, by decide +kernel, by decide +kernel⟩

theorem ok_ords03 (F : FnAt K mg "_law_orders" stords03) (T : TxtRn K mg C) : Def P w K mg base CX0 1 "_law_orders" ["_law_doors"] spOrds03 := by
  refine F.ok scords03 (fun _ _ _ _ _ _ us hl => match us, hl with | [_], _ => rfl) (fun vs H Q E h => ?_) (fun f cdv A outer s H vs Q E hr h => ?_)
  · obtain ⟨ks, rfl, _⟩ := h
    rfl
  obtain ⟨ks, rfl, knd, l5, q⟩ := h
  have hu := hu_of hr
  have nd := scords03.nd
  refine ⟨_, (pss_cons (ps_set (i := 1) nd rfl (Or.inl rfl) (pe_lst (pa_cons (pe_tx [] (by decide +kernel)) pa_nil)))
      (pss_cons (ps_for PassesOwn.never rfl (pi_range1 (by rfl) T.range (pa_cons (pe_callB c_lenS (by rfl) T.len PySem.boot_len (pa_cons (pv 0) pa_nil)) pa_nil)) (pg_name (i := 2) nd rfl (Or.inl rfl))
      (pss_cons (ps_set (i := 3) nd rfl (Or.inl rfl) (pe_lst pa_nil))
        (pss_cons (ps_for PassesOwn.never rfl (pi_listK (K := K) rfl (pv 1)) (pg_name (i := 4) nd rfl (Or.inr rfl))
        (pss_one (ps_set (i := 3) nd rfl (Or.inl rfl) (pe_op op_cat1 (pv 3) (pe_lc (own := [("_law_kind", 5)]) (g := gName 5) (by rfl) nd (pi_str (pv 0)) (blkOk_by (own := [("_law_kind", 5)]) (N := Nords03) (sc := defScope stords03) (by decide +kernel)) (fun _ _ _ _ _ => (pg_name (i := 5) nd rfl (Or.inl rfl))) (fun _ _ _ _ _ => (pts_one (pt_cmpR op_notInS (pv 5) (pv 4) (by rfl)))) (fun _ _ _ _ _ => (pe_op op_addS (pv 4) (pv 5))))))))
        (pss_one (ps_set (i := 1) nd rfl (Or.inl rfl) (pv 3))))))
      (pss_one (ps_ret (pv 1))))), ?_⟩
  refine s_start [some _, none, none, none, none, none] rfl ?_
  have lk2 : ks.length ≤ 1000000 := by omega
  walk_at "go"
  intro D0 H1 hD0 s1 e1
  walk_at "go"
  refine for_it (walk_rI (fun i => ((i : Nat) : Int)) (fun k => Int.zero_add _)) (fun i σ H' => ∃ D x2 x3 x4, σ = [some (.str (tx ks)), some (.ref D), x2, x3, x4, none] ∧ Same H H' ∧ H D = none ∧ H' D = some (.lst (strsG (growL ks notF i)))) ⟨D0, _, _, _, rfl, s1, hD0, e1⟩ (fun _ _ _ _ _ => trivial) ?_ ?_
  · rintro i v σ H2 H3 hi ⟨D, x2, x3, x4, rfl, s2, hD, e2⟩ ⟨rfl, rfl⟩
    refine g_nm ?_
    have hi : i < ks.length := by omega
    have lg : (growL ks notF i).length ≤ 720 := Nat.le_trans (growL_len knd notF_ok i) (desc_six _ (by omega) _ (by omega))
    walk_at "go"
    intro D1 H4 hD1 s4 e4
    walk_at "go"
    refine for_it (walk_strsL K (a := D) (ls := growL ks notF i)) (fun j σ H' => ∃ D' y4, σ = [some (.str (tx ks)), some (.ref D), some (.int ((i : Nat) : Int)), some (.ref D'), y4, none] ∧ Same H3 H' ∧ H3 D' = none ∧ H' D' = some (.lst (strsG (((growL ks notF i).take j).flatMap fun im => (ks.filter (notF im)).map fun k => im ++ [k])))) ⟨D1, _, rfl, s4, hD1, e4⟩ ?_ ?_ ?_
    · rintro j σ H5 hj ⟨D', y4, rfl, s5, hD', e5⟩
      exact SqL.of (s5 _ _ e2)
    · rintro j v σ H5 H6 hj ⟨D', y4, rfl, s5, hD', e5⟩ ⟨rfl, rfl⟩
      refine g_nm ?_
      have him := getDL_mem hj
      obtain ⟨_, l1, m1⟩ := growL_nd notF_ok him
      have ll : ((growL ks notF i).getD j []).length ≤ 10 := by omega
      walk_at "go"
      refine v_lcS (l := ks) (b := fun c => notF ((growL ks notF i).getD j []) c) (f := fun c => V.str (tx ((growL ks notF i).getD j [] ++ [c]))) (by omega) (fun c hc H7 s7 R r => ?_) (fun c hc hb H7 s7 R r => ?_) (fun E H7 hE s7 e7 => ?_)
      · walk_at "go"
        exact r H7 (Same.refl _)
      · walk_at "go"
        exact r H7 (Same.refl _)
      walk_at "go"
      have e5' := s7 _ _ e5
      have lb1 : (strsG (((growL ks notF i).take j).flatMap fun im => (ks.filter (notF im)).map fun k => im ++ [k])).length ≤ 720 * 8 := by
        rw [strsG_len]
        refine Nat.le_trans (flatLen (c := 8) fun im _ => ?_) (Nat.mul_le_mul_right _ (Nat.le_trans (List.length_take_le ..) (by omega)))
        rw [List.length_map]
        have := List.length_filter_le (notF im) ks
        omega
      have lb2 : ((ks.filter fun c => notF ((growL ks notF i).getD j []) c).map fun c => V.str (tx ((growL ks notF i).getD j [] ++ [c]))).length ≤ 8 := by
        rw [List.length_map]
        have := List.length_filter_le (fun c => notF ((growL ks notF i).getD j []) c) ks
        omega
      refine v_cat e5' e7 (by omega) fun p H8 hp s8 e8 => ?_
      refine ⟨p, _, rfl, (s5.trans s7).trans s8, Same.free (s5.trans s7) hp, ?_⟩
      rw [e8, take_getDL hj, List.flatMap_append, List.flatMap_cons, List.flatMap_nil, List.append_nil, strsG_app]
      congr 2
      unfold strsG
      rw [List.map_map]
      rfl
    · rintro σ H5 ⟨D', y4, rfl, s5, hD', e5⟩
      walk_at "go"
      refine ⟨D', _, _, _, rfl, s2.trans s5, Same.free s2 hD', ?_⟩
      rw [e5, List.take_of_length_le (Nat.le_refl _), growL_succ3]
  · rintro σ H2 ⟨D, x2, x3, x4, rfl, s2, hD, e2⟩
    walk_at "go"
    exact q D H2 hD s2 e2
abbrev stmeet03 : Stmt := (top 70)
abbrev Nmeet03 : List Str := ["_law_pairs", "_law_x", "_law_y"]
theorem scmeet03 : FnScope Nmeet03 ["_law_pairs", "_law_x", "_law_y"] (defScope stmeet03) := ⟨rfl, rfl, rfl, by decide +kernel, rfl, by decide +kernel, by decide +kernel⟩

theorem ok_meet03 (F : FnAt K mg "_law_meet" stmeet03) : Def P w K mg base CX0 1 "_law_meet" ["_law_pairs", "_law_x", "_law_y"] spMeet03 := by
  refine F.ok scmeet03 (fun _ _ _ _ _ _ us hl => match us, hl with | [_, _, _], _ => rfl) (fun vs H Q E h => ?_) (fun f cdv A outer s H vs Q E hr h => ?_)
  · obtain ⟨q, ps, a, b, rfl, _⟩ := h
    rfl
  obtain ⟨q, ps, a, b, rfl, hq, k⟩ := h
  have hu := hu_of hr
  have nd := scmeet03.nd
  refine ⟨_, (pss_one (ps_ret (pe_or (pe_cmpR (op_inLK (K := K) rfl) (pe_op op_addS (pv 1) (pv 2)) (pv 0) (by rfl)) (pe_one (pe_cmpR (op_inLK (K := K) rfl) (pe_op op_addS (pv 2) (pv 1)) (pv 0) (by rfl)))))), ?_⟩
  refine s_start [some _, some _, some _] rfl ?_
  walk_at "go"
  unfold crM at k
  refine if_dec (fun c => ?_) (fun c => ?_)
  · rw [decide_eq_true (show [a, b] ∈ ps from c)] at k
    exact k
  · walk_at "go"
    rw [decide_eq_false (show ¬ [a, b] ∈ ps from c), Bool.false_or] at k
    exact k
abbrev stkeeps03 : Stmt := (top 71)
abbrev Nkeeps03 : List Str := ["_law_doors", "_law_pairs", "_law_row", "_law_i", "_law_j"]
theorem sckeeps03 : FnScope Nkeeps03 ["_law_doors", "_law_pairs", "_law_row"] (defScope stkeeps03) := ⟨rfl, rfl, rfl, by decide +kernel, rfl, by decide +kernel, by decide +kernel⟩

theorem ok_keeps03 (F : FnAt K mg "_law_keeps" stkeeps03) (T : TxtRn K mg C) (D_meet : Def P w K mg base CX0 1 "_law_meet" ["_law_pairs", "_law_x", "_law_y"] spMeet03) : Def P w K mg base CX0 2 "_law_keeps" ["_law_doors", "_law_pairs", "_law_row"] spKeeps03 := by
  refine F.ok sckeeps03 (fun _ _ _ _ _ _ us hl => match us, hl with | [_, _, _], _ => rfl) (fun vs H Q E h => ?_) (fun f cdv A outer s H vs Q E hr h => ?_)
  · obtain ⟨q, ks, v, ps, rfl, _⟩ := h
    rfl
  obtain ⟨q, ks, v, ps, rfl, hq, l8, lv, k⟩ := h
  have hu := hu_of hr
  have nd := sckeeps03.nd
  refine ⟨_, (pss_cons (ps_for PassesOwn.never rfl (pi_range1 (by rfl) T.range (pa_cons (pe_callB c_lenS (by rfl) T.len PySem.boot_len (pa_cons (pv 0) pa_nil)) pa_nil)) (pg_name (i := 3) nd rfl (Or.inl rfl))
      (pss_one (ps_for PassesOwn.never rfl (pi_range1 (by rfl) T.range (pa_cons (pv 3) pa_nil)) (pg_name (i := 4) nd rfl (Or.inl rfl))
        (pss_one (ps_if (pt_cmpR op_ne (pe_cd D_meet hr pass0 (pa_cons (pv 1) (pa_cons (pe_ix ix_str (pv 0) (pv 3) (fun _ _ => rfl)) (pa_cons (pe_ix ix_str (pv 0) (pv 4) (fun _ _ => rfl)) pa_nil)))) (pe_cd D_meet hr pass0 (pa_cons (pv 1) (pa_cons (pe_ix ix_str (pv 2) (pv 3) (fun _ _ => rfl)) (pa_cons (pe_ix ix_str (pv 2) (pv 4) (fun _ _ => rfl)) pa_nil)))) (nomark _))
          (pss_one (ps_ret pe_bl))
          pss_nil)))))
      (pss_one (ps_ret pe_bl))), ?_⟩
  refine s_start [some _, some _, some _, none, none] rfl ?_
  have lk2 : ks.length ≤ 1000000 := by omega
  walk_at "go"
  refine for_it (walk_rI (fun i => ((i : Nat) : Int)) (fun k => Int.zero_add _)) (fun i σ H' => ∃ x3 x4, σ = [some (.str (tx ks)), some (.ref q), some (.str (tx v)), x3, x4] ∧ H' = H ∧ ∀ a b, b < a → a < i → crM ps (ks.getD a 0) (ks.getD b 0) = crM ps (v.getD a 0) (v.getD b 0)) ⟨_, _, rfl, rfl, fun a b _ h => absurd h (Nat.not_lt_zero _)⟩ (fun _ _ _ _ _ => trivial) ?_ ?_
  · rintro i u σ H2 H3 hi ⟨x3, x4, rfl, rfl, g⟩ ⟨rfl, rfl⟩
    refine g_nm ?_
    have hi : i < ks.length := by omega
    walk_at "go"
    refine for_it (walk_rI (fun i => ((i : Nat) : Int)) (fun k => Int.zero_add _)) (fun j σ H' => ∃ x4, σ = [some (.str (tx ks)), some (.ref q), some (.str (tx v)), some (.int ((i : Nat) : Int)), x4] ∧ H' = H3 ∧ ∀ b, b < j → crM ps (ks.getD i 0) (ks.getD b 0) = crM ps (v.getD i 0) (v.getD b 0)) ⟨_, rfl, rfl, fun b h => absurd h (Nat.not_lt_zero _)⟩ (fun _ _ _ _ _ => trivial) ?_ ?_
    · rintro j u σ H4 H5 hj ⟨x4, rfl, rfl, gj⟩ ⟨rfl, rfl⟩
      refine g_nm ?_
      have hj : j < i := by omega
      walk_at "go"
      refine v_ixS (by omega) (at_getD3 hi) ?_
      walk_at "go"
      refine v_ixS (by omega) (at_getD3 (show j < ks.length by omega)) ?_
      walk_at "go"
      refine ⟨q, ps, _, _, rfl, hq, ?_⟩
      walk_at "go"
      refine v_ixS (by omega) (at_getD3 (show i < v.length by omega)) ?_
      walk_at "go"
      refine v_ixS (by omega) (at_getD3 (show j < v.length by omega)) ?_
      walk_at "go"
      refine ⟨q, ps, _, _, rfl, hq, ?_⟩
      walk_at "go"
      refine if_ndec (fun c => ?_) (fun c => ?_)
      · walk_at "go"
        have e : keepsP ks ps v = false := by
          cases h : keepsP ks ps v with
          | false => rfl
          | true => exact absurd (congrArg V.bl (keepsP_iff.mp h i j hj hi)) c
        rw [e] at k
        exact k
      walk_at "go"
      refine ⟨_, rfl, rfl, fun b hb => ?_⟩
      rcases Nat.lt_or_ge b j with z | z
      · exact gj b z
      · have e : b = j := by omega
        subst e
        injection c
    · rintro σ H4 ⟨x4, rfl, rfl, gj⟩
      walk_at "go"
      refine ⟨_, _, rfl, rfl, fun a b hb ha => ?_⟩
      rcases Nat.lt_or_ge a i with c | c
      · exact g a b hb c
      · have e : a = i := by omega
        subst e
        exact gj b (by omega)
  · rintro σ H2 ⟨x3, x4, rfl, rfl, g⟩
    walk_at "go"
    rw [keepsP_iff.mpr fun a b hb ha => g a b hb (by omega)] at k
    exact k
end
end
section
open PySem PySem.Spec L2
/-- what the top has left of the two errors -/
structure TxtT3 (P : Program) (K : PySem.W.Frag) (mg : Str → Option Value) (C R O Mo IR TM : Addr) (st1 st2 : Stmt) : Prop extends TxtMo K mg C R O Mo where
  eR : ExcE P K mg "InvalidRenaming" IR "InvalidRenaming.__init__" st1
  eM : ExcE P K mg "TooMany" TM "TooMany.__init__" st2
  IR_value : PySem.W.findIn K (.ref IR) "value" = some none
  TM_most : PySem.W.findIn K (.ref TM) "most" = some none
  rr : PySem.W.exmOne K (.ref IR) (.ref IR) = some true
  mr : PySem.W.exmOne K (.ref TM) (.ref IR) = some false
  mm : PySem.W.exmOne K (.ref TM) (.ref TM) = some true
def Kind3 (IR TM : Addr) (X : Addr) (f : Str) (m : List Nat) : Prop := (X = IR ∧ f = "value" ∧ m = [114, 101, 110, 97, 109, 105, 110, 103]) ∨ (X = TM ∧ f = "most" ∧ m = [109, 97, 110, 121])
def toldOf3 (IR TM : Addr) (Q : VK) (cls : Value) (d : Option Addr) (H : Hp) : Prop := ∃ (dd X : Addr) (f : Str) (m : List Nat) (v : V), d = some dd ∧ cls = .ref X ∧ Kind3 IR TM X f m ∧ H dd = some (.xd [(f, v)]) ∧ ∀ t H', Same H H' → H' t = some (.tup [.str (tx m), v]) → Q (.ref t) H'
def TT3 (IR TM : Addr) : (XK → Hp → VK → Prop) → Hp → VK → Prop := fun tl H Q => tl (toldOf3 IR TM Q) H fun _ H' => Q .non H'
theorem rz_told3 {IR TM X : Addr} {f : Str} {m : List Nat} {v : V} {H : Hp} {Q : VK} (k : Kind3 IR TM X f m) (q : ∀ t H', Same H H' → H' t = some (.tup [.str (tx m), v]) → Q (.ref t) H') : Rz (toldOf3 IR TM Q) H X f v := fun H' d s e => ⟨d, X, f, m, v, rfl, rfl, k, e, fun t H2 s2 e2 => q t H2 (s.trans s2) e2⟩
section
variable {X : Cx} {C R O Mo IR TM : Addr} {st1 st2 : Stmt}
abbrev sttold3 : Stmt := (top 72)
abbrev Ntold3 : List Str := ["_law_ask", "e"]
theorem sctold3 : FnScope Ntold3 ["_law_ask"] (defScope sttold3) := ⟨rfl, rfl, rfl, by decide +kernel, rfl, by decide +kernel, by decide +kernel⟩

theorem told_gives3 (T : TxtT3 X.prog X.K X.mg C R O Mo IR TM st1 st2) {g : Addr} {cdg : Value} {q : Str} {k : Nat} (hk : 2 ≤ k) (hr : ∀ s : Shared, Room k (X.A.deeper (PyProof.Rows.envOfC "_law_told" (defScope sttold3) s.heap.objs.size g cdg))) :
    LamX.GivesTo X Ntold3 "_law_told" (defScope sttold3) g cdg (defBody sttold3) "_law_ask" q (TT3 IR TM) := by
  intro f c' s H Q tl act hc h
  have nd := sctold3.nd
  refine ⟨_, pss_cons (ps_try_manyA (X := (cxOf CX0 X.prog X.w X.K X.mg X.base Ntold3 "_law_told" (defScope sttold3) g cdg X.A X.stack s H E0).nox) (n := "e") (i := 1)
      (tb := fun W D σ H => ∃ Ech : XK, (∀ cls d σ' H', Ech cls d H' → W cls d σ' H') ∧ σ[0]? = some (some (.ref f)) ∧ H c' = some (LamX.CodeO c' q) ∧ tl Ech H (fun v H' => D.nx σ H'))
      rfl rfl nd rfl rfl LamX.takes0 (fun W pn xe tk _ => ?_)
      (.cons (c := .ref IR) ⟨rfl, by decide, .inl T.eR.at⟩ (fun a oe cls d pn hz hf => pss_given (q := cls = .ref IR) fun hq => pss_one (ps_ret (pe_tup (pa_cons (pe_tx [114, 101, 110, 97, 109, 105, 110, 103] (by decide +kernel)) (pa_cons (pe_xf T.eR.xf T.IR_value hz hf (pv 1)) pa_nil)))))
      (.cons (c := .ref TM) ⟨rfl, by decide, .inl T.eM.at⟩ (fun a oe cls d pn hz hf => pss_given (q := cls = .ref TM) fun hq => pss_one (ps_ret (pe_tup (pa_cons (pe_tx [109, 97, 110, 121] (by decide +kernel)) (pa_cons (pe_xf T.eM.xf T.TM_most hz hf (pv 1)) pa_nil)))))
      .nil))) (pss_one (ps_ret pe_non)), ?_⟩
  · refine ⟨fun pins s' σ H' D I h' => ?_⟩
    obtain ⟨Ech, hW, h1, h2, h3⟩ := h'
    exact (pss_one (ps_expr (act W pn xe Ech _ _ tk hW))).run pins s' σ H' D I ⟨h1, h2, h3⟩
  · refine ⟨toldOf3 IR TM Q, fun cls d σ' H' ht => ?_, rfl, hc, ?_⟩
    · obtain ⟨dd, X', f', m, v, rfl, rfl, kd, ed, k1⟩ := ht
      rcases kd with ⟨rfl, rfl, rfl⟩ | ⟨rfl, rfl, rfl⟩
      · refine ⟨true, T.rr, fun _ a ha hl => ⟨rfl, ?_⟩, fun z => nomatch z⟩
        obtain ⟨y0, y1, rfl⟩ := two_of hl
        walk_at "go"
        refine e_xf2 ?_
        walk_at "go"
        refine ⟨rfl, rfl, dd, _, v, rfl, ed, rfl, ?_⟩
        walk_at "go"
        intro t H2 ht s2 e2
        exact k1 t H2 s2 e2
      · refine ⟨false, T.mr, (fun z => nomatch z), fun _ => ⟨true, T.mm, fun _ a ha hl => ⟨rfl, ?_⟩, fun z => nomatch z⟩⟩
        obtain ⟨y0, y1, rfl⟩ := two_of hl
        walk_at "go"
        refine e_xf2 ?_
        walk_at "go"
        refine ⟨rfl, rfl, dd, _, v, rfl, ed, rfl, ?_⟩
        walk_at "go"
        intro t H2 ht s2 e2
        exact k1 t H2 s2 e2
    · exact h
/-- _law_told(lambda: body) -/
theorem pe_told3 (F : FnAt X.K X.mg "_law_told" sttold3) (T : TxtT3 X.prog X.K X.mg C R O Mo IR TM st1 st2) {Ts : List (Addr × Str)} {c Pt : Addr} {k : Nat} {t : XK → TE} {params : Arguments} {body : Expr} {scope : Scope} {p lpos pos : PySem.Pos}
    (TB : LamX.TabB X.base X.mg c Pt) (hmT : (Pt, X.env.qual ++ "<lambda>") ∈ Ts) (hu : ∀ p ∈ Ts, p.1 = Pt → p.2 = X.env.qual ++ "<lambda>") (hr : Room (k + 2) X.A) (hk : 2 ≤ k) (L : LamX.LamS X.env.scope scope)
    (hbody : ∀ (A : Around) (outer : List Env) (s : Shared) (H : Hp) (E : XK) (f c' : Addr), Room k (A.deeper (LamX.lamEnv X scope s.heap.objs.size f c')) → PE (LamX.lamCx X A outer s H E scope f c') body (t E))
    (hg : Gl X "_law_told" := by rfl) (hcode : X.env.code = .ref c := by rfl) (hdef : defaultsOf params X.env = ([], []) := by rfl)
    (hbind : ∀ (q : Str) (cl : List (Str × Addr)) (pm cv ctv : Value), bindArgs (PySem.W.kla_fn "<lambda>" q params body scope cl pm cv ctv) ⟨[], []⟩ = pure [] := by intro _ _ _ _ _; rfl) :
    PE X (.Call (.Name "_law_told" p) [.Lambda params body scope lpos] [] pos) (LamX.tLam Ts (TT3 IR TM) t) := by
  obtain ⟨g, fd, hm, G⟩ := F.ex
  have hb : Binds X.K fd ["_law_ask"] [] := G.binds fun _ _ _ _ _ _ us hl => match us, hl with | [_], _ => rfl
  obtain ⟨oc, od, kV, doc, pm, an, cdv, ct, osl, rfl, lk, hcd⟩ := G.ex
  exact LamX.pe_lamcall hg hm G.kp lk hcd hb sctold3 rfl (Or.inl rfl) (told_gives3 T (k := k + 1) (by omega) fun s => hr.deeper _) TB hcode hmT hu hr L hdef hbind hbody
end
end
section
open PySem PySem.Spec L2
structure TxtL3 (P : Program) (K : PySem.W.Frag) (mg : Str → Option Value) (C R O Mo IR TM : Addr) (st1 st2 : Stmt) : Prop extends TxtT3 P K mg C R O Mo IR TM st1 st2 where
  min : mg "min" = none
  sorted : mg "sorted" = none
def spLaw3 (K : PySem.W.Frag) (Ts : List (Addr × Str)) : Sp := fun vs H Q _ => ∃ (a : Addr) (ns : List Int), vs = [.ref a] ∧ SqL K H a (ns.map V.int) ∧ ns.length ≤ 63 ∧ LamX.Tabs Ts H ∧ ∀ H', Q (.bl true) H'
theorem c_setOfSP {X : Cx} {K : PySem.W.Frag} {P : Program} {w : World} (hK : X.K = K) (hP : X.prog = P) (hw : X.w = w) (hc : X.calm = true) : CallR X (.type "set") (rSetOfS K P w) := hP ▸ hw ▸ c_setOfS hK hc
theorem c_sortedWP {X : Cx} {P : Program} {w : World} (hP : X.prog = P) (hw : X.w = w) (hc : X.calm = true) : CallR X (.builtin "sorted") (rSortedW P w) := hP ▸ hw ▸ c_sortedW hc
theorem v_neStrL3 {K : PySem.W.Frag} {H : Hp} {Q : VK} {p q : Addr} {a b : List (List Nat)} (h1 : H p = some (.lst (strsG a))) (h2 : H q = some (.lst (strsG b))) (ha : ∀ l ∈ a, ∀ c ∈ l, c < 1000) (hb : ∀ l ∈ b, ∀ c ∈ l, c < 1000) (k : Q (.bl (!decide (a = b))) H) : rNeD K (.ref p) (.ref q) H Q := by
  have h1 : H p = some (.lst (strsV a)) := h1
  have h2 : H q = some (.lst (strsV b)) := h2
  rw [strsV_map] at h1 h2
  refine ⟨.list ((a.map tx).map PyData.str), .list ((b.map tx).map PyData.str), .lst (SqL.of h1) (dp_strs _), .lst (SqL.of h2) (dp_strs _), shaped_strs _ (ok_strs ha), shaped_strs _ (ok_strs hb), ?_⟩
  have e : PyData.eqv (.list ((a.map tx).map PyData.str)) (.list ((b.map tx).map PyData.str)) = decide (a = b) := by
    show PyData.eqvAll _ _ = _
    rw [eqvAll_strs, decide_eq_decide]
    exact map_tx_inj
  rw [e]
  exact k
theorem v_eqStrL3 {K : PySem.W.Frag} {H : Hp} {Q : VK} {p q : Addr} {a b : List (List Nat)} (h1 : H p = some (.lst (strsG a))) (h2 : H q = some (.lst (strsG b))) (ha : ∀ l ∈ a, ∀ c ∈ l, c < 1000) (hb : ∀ l ∈ b, ∀ c ∈ l, c < 1000) (k : Q (.bl (decide (a = b))) H) : rEqD K (.ref p) (.ref q) H Q := by
  have h1 : H p = some (.lst (strsV a)) := h1
  have h2 : H q = some (.lst (strsV b)) := h2
  rw [strsV_map] at h1 h2
  refine ⟨.list ((a.map tx).map PyData.str), .list ((b.map tx).map PyData.str), .lst (SqL.of h1) (dp_strs _), .lst (SqL.of h2) (dp_strs _), shaped_strs _ (ok_strs ha), shaped_strs _ (ok_strs hb), ?_⟩
  have e : PyData.eqv (.list ((a.map tx).map PyData.str)) (.list ((b.map tx).map PyData.str)) = decide (a = b) := by
    show PyData.eqvAll _ _ = _
    rw [eqvAll_strs, decide_eq_decide]
    exact map_tx_inj
  rw [e]
  exact k
theorem s_hide3 {t : TS} {D0 : Ends} {σ : L2.St} {H : Hp} (h : ∀ D : Ends, (∀ σ H, D0.nx σ H → D.nx σ H) → (∀ σ H, D0.ct σ H → D.ct σ H) → t D σ H) : t D0 σ H := h D0 (fun _ _ z => z) fun _ _ z => z
theorem back_ix3 : ∀ n, n ≤ 6 → Builtin.Str.strSliceIndices none (some 1) (-1) n = ((List.range n).drop 2).reverse := by decide +kernel
theorem step_back3 : ∀ l : List Nat, l.length ≤ 6 → stepS l none (some 1) (-1) = (l.drop 2).reverse := by
  intro l h
  unfold stepS
  rw [back_ix3 _ h]
  rw [if_neg (fun z => by cases z)]
  match l, h with
  | [], _ => rfl
  | [_], _ => rfl
  | [_, _], _ => rfl
  | [_, _, _], _ => rfl
  | [_, _, _, _], _ => rfl
  | [_, _, _, _, _], _ => rfl
  | [_, _, _, _, _, _], _ => rfl
  | _ :: _ :: _ :: _ :: _ :: _ :: _ :: _, h => simp at h
theorem v_isiLst3 {K : PySem.W.Frag} {H : Hp} {Q : VK} {p : Addr} {xs : List V} (h : H p = some (.lst xs)) (q : Q (.bl true) H) : rIsi K [.ref p, .ty "list"] H Q := ⟨.ref p, .ty "list", .type "list", .type "list", true, rfl, .ty "list", .base (.lst h), kit_ty (by decide +kernel), q⟩
/-- the orders that are asked beside the first renamings -/
def someL (ls : List Nat) : List (List Nat) := [ls.reverse, ls.drop 3 ++ ls.take 3, ls.drop 1 ++ ls.take 1, ls.take 2 ++ (ls.drop 2).reverse]
theorem someL_ord {ls : List Nat} (nd : ls.Nodup) : ∀ v ∈ someL ls, OrdR ls v := by
  have key : ∀ v : List Nat, v.Perm ls → OrdR ls v := fun v p => ⟨p.nodup_iff.mpr nd, p.length_eq, fun c hc => p.mem_iff.mp hc⟩
  have tk : ∀ n, (ls.drop n ++ ls.take n).Perm ls := fun n => List.perm_append_comm.trans (by rw [List.take_append_drop])
  intro v hv
  unfold someL at hv
  simp only [List.mem_cons, List.not_mem_nil, or_false] at hv
  rcases hv with rfl | rfl | rfl | rfl
  · exact key _ (List.reverse_perm ls)
  · exact key _ (tk 3)
  · exact key _ (tk 1)
  · refine key _ ?_
    have p : (ls.take 2 ++ (ls.drop 2).reverse).Perm (ls.take 2 ++ ls.drop 2) := List.Perm.append_left _ (List.reverse_perm _)
    rwa [List.take_append_drop] at p
theorem v_notInT3 {K : PySem.W.Frag} {H : Hp} {Q : VK} {x : List Nat} {ps : List (List Nat)} {p : Addr} (h : H p = some (.lst (strsG ps))) (q : Q (.bl (!decide (x ∈ ps))) H) : rIn K true (.str (tx x)) (.ref p) H Q := by
  refine ⟨p, _, rfl, .inl (SqL.of h), rfl, flat_tx _, ?_⟩
  rw [show strsG ps = ps.map fun l => V.str (tx l) from rfl, inV_tx]
  exact q
theorem v_inT3 {K : PySem.W.Frag} {H : Hp} {Q : VK} {x : List Nat} {ps : List (List Nat)} {p : Addr} (h : H p = some (.lst (strsG ps))) (q : Q (.bl (decide (x ∈ ps))) H) : rIn K false (.str (tx x)) (.ref p) H Q := by
  refine ⟨p, _, rfl, .inl (SqL.of h), rfl, flat_tx _, ?_⟩
  rw [show strsG ps = ps.map fun l => V.str (tx l) from rfl, inV_tx]
  exact q
theorem cut_strs3 (E : List (List Nat)) (lo hi : Option Int) : ∃ F : List (List Nat), cutV (strsG E) lo hi = strsG F ∧ F.length ≤ E.length ∧ ∀ v ∈ F, v ∈ E := by
  unfold cutV strsG
  rw [← List.map_drop, ← List.map_take]
  refine ⟨_, rfl, ?_, fun v hv => List.mem_of_mem_drop (List.mem_of_mem_take hv)⟩
  rw [List.length_take, List.length_drop]
  omega
theorem shaped_one3 {l : List Nat} (h : ∀ c ∈ l, c < 1000) : SeqAt.shaped (.str (tx l)) = true := by
  have h0 : PyData.strOk (tx l) = true := ok_strs (ls := [l]) (fun m hm => by rw [List.mem_singleton.mp hm]; exact h) _ (List.mem_singleton.mpr rfl)
  have h2 : (PyData.str (tx l)).depth ≤ 64 := by simp [PyData.depth]
  have h3 : (PyData.str (tx l)).canLay0 = true := by simp only [PyData.canLay0]; exact h0
  simp [SeqAt.shaped, h2, h3]
/-- a value that is no renaming, or the kinds themselves -/
structure OddRn (K : PySem.W.Frag) (H : Hp) (ls : List Nat) (ps : List (List Nat)) (u : V) : Prop where
  dp : ∃ d, Dp K H u d ∧ SeqAt.shaped d = true ∧ PyData.eqv d (.str (tx ls)) = decide (u = .str (tx ls))
  rn : u ≠ .str (tx ls) → RenV H ls ps u false
  pl : Plainly u
theorem oddRn_str {K : PySem.W.Frag} {H : Hp} {ls l : List Nat} {ps : List (List Nat)} (h1 : ∀ c ∈ l, c < 1000) (h2 : l.length ≤ 1000) (h3 : l ≠ ls → ¬ OrdR ls l) : OddRn K H ls ps (.str (tx l)) := by
  refine ⟨⟨_, .str _, shaped_one3 h1, ?_⟩, fun ne => .inr ⟨l, rfl, h2, (decide_eq_false fun z => h3 (fun e => ne (by rw [e])) (ren_iff.mp z).1).symm⟩, .inl rfl⟩
  show (tx l == tx ls) = _
  rw [Bool.eq_iff_iff, beq_iff_eq, decide_eq_true_iff]
  constructor
  · intro e; rw [e]
  · intro e; injection e
theorem oddRn_seq {K : PySem.W.Frag} {H : Hp} {ls : List Nat} {ps : List (List Nat)} {a : Addr} (h1 : ∀ c ∈ ls, c < 1000) (h : H a = some (.lst [.str (tx ls)]) ∨ H a = some (.tup [.str (tx ls)])) : OddRn K H ls ps (.ref a) := by
  have sh := ok_strs (ls := [ls]) (fun m hm => by rw [List.mem_singleton.mp hm]; exact h1)
  have ne : ¬ (V.ref a = .str (tx ls)) := fun z => nomatch z
  refine ⟨?_, fun _ => .inl ⟨rfl, .inr (.inr (.inr ⟨a, _, rfl, h⟩)), fun z => nomatch z⟩, .inr ⟨_, rfl⟩⟩
  rcases h with h | h
  · exact ⟨_, .lst (SqL.of h) (.cons (.str _) .nil), shaped_strs [tx ls] sh, (decide_eq_false ne).symm⟩
  · exact ⟨_, .tup (SqT.of h) (.cons (.str _) .nil), shaped_strsT [tx ls] sh, (decide_eq_false ne).symm⟩
theorem not_ordZ {ls l : List Nat} {z : Nat} (h : z ∈ l) (hz : ¬ z ∈ ls) : ¬ OrdR ls l := fun o => hz (o.sub z h)
theorem LPlan.plOk {ls : List Nat} {ps : List (List Nat)} (L : LPlan ls ps) : PlOk ls ps := ⟨L.asc, L.lt, L.l8, L.prs.pin, by have := L.lp; omega⟩
section
variable {P : Program} {w : World} {K : PySem.W.Frag} {mg : Str → Option Value} {base : Heap} {C R O Mo IR TM : Addr} {st1 st2 : Stmt} {Ts : List (Addr × Str)} {c Pt : Addr}
abbrev stlaw : Stmt := (top 73)
abbrev Nlaw : List Str := ["_law_script", "_law_pen_here", "_law_lap", "_law_doors", "_law_pairs", "_law_plan_here", "_law_told_here", "_law_some", "_law_orders_here", "_law_row", "_law_due", "_law_k", "_law_one", "_law_two", "_law_both", "_law_back", "_law_odd", "_law_kind"]
theorem sclaw : FnScope Nlaw ["_law_script"] (defScope stlaw) := ⟨rfl, rfl, rfl, by decide +kernel, rfl, by decide +kernel, by decide +kernel⟩

theorem ok_law {f : Addr} {fd : FuncData} (F : FunC K "law" "law" stlaw f fd c) (F_told : FnAt K mg "_law_told" sttold3) (T : TxtL3 P K mg C R O Mo IR TM st1 st2) (TBl : LamX.TabB base mg c Pt) (hmL : (Pt, ("law" : Str) ++ ".<locals>." ++ "<lambda>") ∈ Ts) (huL : ∀ p ∈ Ts, p.1 = Pt → p.2 = ("law" : Str) ++ ".<locals>." ++ "<lambda>")
    (D_pen : Def P w K mg base CX0 1 "_law_pen" ["_law_script"] (spPen K)) (D_pick : Def P w K mg base CX0 2 "_law_pick" ["_law_pen_here", "_law_items"] spPick) (D_plan : Def P w K mg base CX0 3 "_law_plan" ["_law_pen_here", "_law_most"] spLPlan) (D_orders : Def P w K mg base CX0 1 "_law_orders" ["_law_doors"] spOrds03) (D_keeps : Def P w K mg base CX0 2 "_law_keeps" ["_law_doors", "_law_pairs", "_law_row"] spKeeps03)
    (C_Plan : CDef P w K mg base CX0 3 "Plan" C (spPlan K C)) (M_Plan_renamings : MDef P w K mg base CX0 2 C "renamings" ["self"] (spRens03 C)) (M_Plan_rensE : MDef P w K mg base (L2.CX P w) 3 C "renamings" ["self"] (spRensE C TM))
    (C_Motion : CDef P w K mg base (L2.CX P w) 5 "Motion" Mo (spMotion C IR)) (C_Motion_1_renaming : CDefN P w K mg base (L2.CX P w) 5 "Motion" Mo (spMotion C IR) 1 ["renaming"] [.pos 0, .dfl 0, .kw 0] [.str (tx []), .non]) : FnOk P w K mg base CX0 11 f fd ["_law_script"] (spLaw3 K Ts) := by
  refine F.ok sclaw (fun vs H Q E h => ?_) (fun A outer s H vs Q E hr h => ?_)
  · obtain ⟨a, ns, rfl, _⟩ := h
    rfl
  obtain ⟨sc, ns, rfl, ha, hn, t0, k⟩ := h
  have hu := hu_of hr
  have nd := sclaw.nd
  replace D_pen := D_pen.mono (show 1 ≤ 10 by decide)
  replace D_pick := D_pick.mono (show 2 ≤ 10 by decide)
  replace D_plan := D_plan.mono (show 3 ≤ 10 by decide)
  replace D_orders := D_orders.mono (show 1 ≤ 10 by decide)
  replace D_keeps := D_keeps.mono (show 2 ≤ 10 by decide)
  replace C_Plan := C_Plan.mono (show 3 ≤ 9 by decide)
  replace M_Plan_renamings := M_Plan_renamings.mono (show 2 ≤ 10 by decide)
  replace M_Plan_rensE := M_Plan_rensE.mono (show 3 ≤ 6 by decide)
  refine ⟨_, (pss_cons (ps_set (i := 1) nd rfl (Or.inl rfl) (pe_cd D_pen hr pass0 (pa_cons (pv 0) pa_nil)))
      (pss_cons (ps_for PassesOwn.never rfl (pi_range1 (by rfl) T.range (pa_cons (pe_op op_add pe_int (pe_callB (call_min2 rfl) (by rfl) T.min (by decide +kernel) (pa_cons pe_int (pa_cons (pe_callB (c_lenK (K := K) rfl) (by rfl) T.len PySem.boot_len (pa_cons (pv 0) pa_nil)) pa_nil)))) pa_nil)) (pg_name (i := 2) nd rfl (Or.inl rfl))
      (pss_cons (ps_asg (pe_cd D_plan hr pass0 (pa_cons (pv 1) (pa_cons pe_int pa_nil))) (pg_tup rfl (pgs_cons (pg_name (i := 3) nd rfl (Or.inr rfl)) (pgs_cons (pg_name (i := 4) nd rfl (Or.inl rfl)) pgs_nil))))
        (pss_cons (ps_set (i := 5) nd rfl (Or.inr rfl) (pe_mk C_Plan hr pass0 (pa_cons (pv 3) (pa_cons (pv 4) pa_nil))))
        (pss_cons (ps_if (pt_cmpR op_gt (pe_callB c_lenS (by rfl) T.len PySem.boot_len (pa_cons (pv 3) pa_nil)) pe_int (nomark _))
        (pss_cons (ps_if (pt_cut (pt_cmpR (OpR.or op_ne (op_neS hu)) (pe_told3 F_told T.toTxtT3 TBl hmL huL (hr.mono (by decide)) (by decide) (LamX.lamS_by (show LamX.lamSB (defScope stlaw) _ = true by decide +kernel)) (fun A outer s H E f c hr => (pe_md0 M_Plan_rensE T.Plan.cl hr (passes_call (takes_of rfl rfl rfl rfl) (fun _ _ _ _ h => h)) (pv 5)))) (pe_tup (pa_cons (pe_tx [109, 97, 110, 121] (by decide +kernel)) (pa_cons pe_int pa_nil))) (nomark _)))
          (pss_one (ps_ret pe_bl))
          pss_nil)
          (pss_one ps_continue))
        pss_nil)
        (pss_cons (ps_set (i := 6) nd rfl (Or.inl rfl) (pe_md0 M_Plan_renamings T.Plan.cl hr pass0 (pv 5)))
        (pss_cutS (ps_if (PW.pt (pw_or (pt_not (pt_val (pe_callB (c_isiK (K := K) rfl) (by rfl) T.isinstance (by decide +kernel) (pa_cons (pv 6) (pa_cons (pe_bltn (v := .ty "list") (u := .type "list") (by rfl) T.list (by decide +kernel) rfl) pa_nil))))) (pw_or (pt_cmpR (op_notInLK (K := K) rfl) (pv 3) (pv 6) (by rfl)) (pw_or1 (pt_cmpR (op_neDK (K := K) rfl hr.units) (pv 6) (pe_callB (c_sortedWP (P := P) (w := w) rfl rfl rfl) (by rfl) T.sorted (by decide +kernel) (pa_cons (pe_callTy (c_setOfSP (K := K) (P := P) (w := w) rfl rfl rfl rfl) (by rfl) T.set (by decide +kernel) (pa_cons (pv 6) pa_nil)) pa_nil)) (nomark _))))))
        (pss_one (ps_ret pe_bl))
        pss_nil)
        (pss_cons (ps_set (i := 7) nd rfl (Or.inl rfl) (pe_lst (pa_cons (pe_revS (pv 3)) (pa_cons (pe_op op_addS (pe_slice sl_S (pv 3) (po_some pe_int) po_none) (pe_slice sl_S (pv 3) po_none (po_some pe_int))) (pa_cons (pe_op op_addS (pe_slice sl_S (pv 3) (po_some pe_int) po_none) (pe_slice sl_S (pv 3) po_none (po_some pe_int))) (pa_cons (pe_op op_addS (pe_slice sl_S (pv 3) po_none (po_some pe_int)) (pe_slSt (pv 3) po_none (po_some pe_int) (po_some (pe_un un_neg pe_int)))) pa_nil))))))
        (pss_cons (ps_set (i := 8) nd rfl (Or.inl rfl) (pe_cut (pe_ifExp (pt_cmpR op_lt (pe_callB c_lenS (by rfl) T.len PySem.boot_len (pa_cons (pv 3) pa_nil)) pe_int (nomark _)) (pe_cd D_orders hr pass0 (pa_cons (pv 3) pa_nil)) (pe_op op_cat1 (pe_slice (sl_LK (K := K) rfl) (pv 6) po_none (po_some pe_int)) (pv 7)))))
        (pss_cons (ps_for PassesOwn.never rfl (pi_listK (K := K) rfl (pv 8)) (pg_name (i := 9) nd rfl (Or.inl rfl))
        (pss_cons (ps_set (i := 10) nd rfl (Or.inl rfl) (pe_cd D_keeps hr pass0 (pa_cons (pv 3) (pa_cons (pv 4) (pa_cons (pv 9) pa_nil)))))
          (pss_one (ps_if (pt_cmpR op_ne (pe_cmpR (op_inLK (K := K) rfl) (pv 9) (pv 6) (by rfl)) (pv 10) (nomark _))
          (pss_one (ps_ret pe_bl))
          pss_nil))))
        (pss_cons (ps_for PassesOwn.never rfl (pi_range1 (by rfl) T.range (pa_cons pe_int pa_nil)) (pg_name (i := 11) nd rfl (Or.inl rfl))
        (pss_cons (ps_asg (pe_tup (pa_cons (pe_cd D_pick hr pass0 (pa_cons (pv 1) (pa_cons (pv 6) pa_nil))) (pa_cons (pe_cd D_pick hr pass0 (pa_cons (pv 1) (pa_cons (pv 8) pa_nil))) pa_nil))) (pg_tup rfl (pgs_cons (pg_name (i := 12) nd rfl (Or.inr rfl)) (pgs_cons (pg_name (i := 13) nd rfl (Or.inr rfl)) pgs_nil))))
          (pss_cons (ps_set (i := 14) nd rfl (Or.inl rfl) (pe_joinK (K := K) rfl (pe_tx [] (by decide +kernel)) (pe_lc (own := [("_law_kind", 17)]) (g := gName 17) (by rfl) nd (pi_str (pe_cd D_pick hr pass0 (pa_cons (pv 1) (pa_cons (pv 6) pa_nil)))) (blkOk_by (own := [("_law_kind", 17)]) (N := Nlaw) (sc := defScope stlaw) (by decide +kernel)) (fun _ _ _ _ _ => (pg_name (i := 17) nd rfl (Or.inl rfl))) (fun _ _ _ _ _ => pts_nil) (fun _ _ _ _ _ => (pe_ix ix_str (pv 12) (pe_index (pv 3) (pv 17)) (fun _ _ => rfl))))))
          (pss_cons (ps_set (i := 15) nd rfl (Or.inl rfl) (pe_joinK (K := K) rfl (pe_tx [] (by decide +kernel)) (pe_lc (own := [("_law_kind", 17)]) (g := gName 17) (by rfl) nd (pi_str (pv 3)) (blkOk_by (own := [("_law_kind", 17)]) (N := Nlaw) (sc := defScope stlaw) (by decide +kernel)) (fun _ _ _ _ _ => (pg_name (i := 17) nd rfl (Or.inl rfl))) (fun _ _ _ _ _ => pts_nil) (fun _ _ _ _ _ => (pe_ix ix_str (pv 3) (pe_index (pv 12) (pv 17)) (fun _ _ => rfl))))))
          (pss_cutS (ps_if (PW.pt (pw_or (pt_cmpR (op_notInLK (K := K) rfl) (pv 14) (pv 6) (by rfl)) (pw_or1 (pt_cmpR (op_notInLK (K := K) rfl) (pv 15) (pv 6) (by rfl)))))
          (pss_one (ps_ret pe_bl))
          pss_nil)
          (pss_one (ps_if (pt_cut (pt_cmpR (OpR.or op_ne (op_neS hu)) (pe_told3 F_told T.toTxtT3 TBl hmL huL (hr.mono (by decide)) (by decide) (LamX.lamS_by (show LamX.lamSB (defScope stlaw) _ = true by decide +kernel)) (fun A outer s H E f c hr => (pe_mk C_Motion hr (passes_call (takes_of rfl rfl rfl rfl) (fun _ _ _ _ h => h)) (pa_cons (pv 5) (pa_cons (pe_tx [] (by decide +kernel)) (pa_cons (pv 13) pa_nil)))))) (pe_cut (pe_ifExp (pt_cmpR (op_inLK (K := K) rfl) (pv 13) (pv 6) (by rfl)) pe_non (pe_tup (pa_cons (pe_tx [114, 101, 110, 97, 109, 105, 110, 103] (by decide +kernel)) (pa_cons (pv 13) pa_nil))))) (nomark _)))
          (pss_one (ps_ret pe_bl))
          pss_nil)))))))
        (pss_cons (ps_set (i := 16) nd rfl (Or.inr rfl) (pe_cd D_pick hr pass0 (pa_cons (pv 1) (pa_cons (pe_lst (pa_cons pe_int (pa_cons pe_bl (pa_cons (pe_lst (pa_cons (pv 3) pa_nil)) (pa_cons (pe_op op_addS (pv 3) (pe_tx [122] (by decide +kernel))) (pa_cons (pe_op op_addS (pe_slice sl_S (pv 3) (po_some pe_int) po_none) (pe_tx [90] (by decide +kernel))) (pa_cons (pe_tup (pa_cons (pv 3) pa_nil)) (pa_cons (pe_op op_addS (pv 3) (pe_slice sl_S (pv 3) po_none (po_some pe_int))) pa_nil)))))))) pa_nil))))
        (pss_cutS (ps_if (PW.pt (pw_and (pt_cmpR (op_neDK (K := K) rfl hr.units) (pv 16) (pv 3) (nomark _)) (pw_and1 (pt_cut (pt_cmpR (OpR.or op_ne (op_neS hu)) (pe_told3 F_told T.toTxtT3 TBl hmL huL (hr.mono (by decide)) (by decide) (LamX.lamS_by (show LamX.lamSB (defScope stlaw) _ = true by decide +kernel)) (fun A outer s H E f c hr => (pe_mkN C_Motion_1_renaming hr (passes_call (takes_of rfl rfl rfl rfl) (fun _ _ _ _ h => h)) (pa_cons (pv 5) pa_nil) (pk_cons (pv 16) pk_nil)))) (pe_tup (pa_cons (pe_tx [114, 101, 110, 97, 109, 105, 110, 103] (by decide +kernel)) (pa_cons (pv 16) pa_nil))) (nomark _))))))
        (pss_one (ps_ret pe_bl))
        pss_nil)
        (pss_cons (ps_expr (pe_appK (K := K) rfl (pv 6) (pe_tx [] (by decide +kernel))))
        (pss_one (ps_if (pt_cmpR (op_eqDK (K := K) rfl hr.units) (pe_md0 M_Plan_renamings T.Plan.cl hr pass0 (pv 5)) (pv 6) (nomark _))
        (pss_one (ps_ret pe_bl))
        pss_nil)))))))))))))))
      (pss_one (ps_ret pe_bl)))), ?_⟩
  refine s_start [some _, none, none, none, none, none, none, none, none, none, none, none, none, none, none, none, none, none] rfl ?_
  walk_at "go"
  refine ⟨sc, ns, rfl, ha, hn, fun g H1 p1 s1 hg => ?_⟩
  have t1 := tabs_same t0 s1
  walk_at "go"
  refine ⟨sc, _, rfl, .inl (sqL_same ha s1), ?_⟩
  walk_at "go"
  refine ⟨_, _, rfl, ?_⟩
  walk_at "go"
  have hm : (2 + (if ((ns.map V.int).length : Int) < 4 then ((ns.map V.int).length : Int) else 4)).toNat ≤ 6 := by split <;> omega
  refine for_it (walk_rI (fun i => ((i : Nat) : Int)) (fun k => Int.zero_add _)) (fun i σ H' => ∃ x2 x3 x4 x5 x6 x7 x8 x9 x10 x11 x12 x13 x14 x15 x16, σ = [some (.ref sc), some (.ref g.p), x2, x3, x4, x5, x6, x7, x8, x9, x10, x11, x12, x13, x14, x15, x16, none] ∧ PenAt g H' (1000 * i) ∧ LamX.Tabs Ts H') ⟨_, _, _, _, _, _, _, _, _, _, _, _, _, _, _, rfl, p1, t1⟩ (fun _ _ _ _ _ => trivial) ?_ ?_
  · rintro i v σ H2 H3 hi ⟨x2, x3, x4, x5, x6, x7, x8, x9, x10, x11, x12, x13, x14, x15, x16, rfl, p3, t3⟩ ⟨rfl, rfl⟩
    refine g_nm ?_
    refine s_hide3 fun Dn hDn hCt => ?_
    walk_at "go"
    refine ⟨g, 1000 * i, rfl, p3, by omega, fun q0 q ls ps H4 hq L e0 e4 p4 k4 => ?_⟩
    refine v_gTup2 rfl e0 ?_
    have t4 := tabs_pen t3 p3 k4
    have nqp := (p3.p_ne hq).symm
    have l8 := L.l8
    have lp := L.lp
    have pin := L.prs.pin
    have eK : kindsOf ls = ls := L.kinds
    have eP : prsOf ps = ps := L.prs.told0 L.lt
    have ok := L.plOk
    have lsP : (strsG ps).length = ps.length := strsG_len ps
    clear e0 p3 t3 k4 hq t1 p1
    walk_at "go"
    refine ⟨ls, q, ps, rfl, ⟨.inl e4, by omega, pin, L.lt, L.nd, l8⟩, fun x H5 hx s5 pl _ => ?_⟩
    rw [eK, eP] at pl
    have nxp : x ≠ g.p := (p4.p_ne hx).symm
    have p5 := p4.same s5
    have t5 := tabs_same t4 s5
    have e5 := s5 _ _ e4
    clear s5 p4 t4 e4 hx
    walk_at "go"
    refine if_dec (fun c6 => ?_) (fun c6 => ?_)
    · walk_at "go"
      refine t_cut (fun b H' => b = false ∧ LamX.ExtN H5 H' ∧ LamX.Tabs Ts H') ?_ ?_
      · walk_at "go"
        refine ⟨t5, fun H6 x6 t6 => ?_⟩
        unfold TT3
        dsimp only
        walk_at "go"
        refine v_mdP (pl.ext x6) ⟨by decide +kernel, by decide +kernel, by decide +kernel⟩ ?_
        walk_at "go"
        refine ⟨x, ls, ps, rfl, pl.ext x6, by omega, by omega, rz_told3 (.inr ⟨rfl, rfl, rfl⟩) fun t H7 s7 e7 => ?_⟩
        walk_at "go"
        intro t2 H8 ht2 s8 e8
        exact ne_due (o := some ([109, 97, 110, 121], V.int 6)) ⟨.inl rfl, t, rfl, s8 _ _ e7⟩ ⟨.inl rfl, t2, rfl, e8⟩ ⟨false, rfl, rfl, x6.trans (ext_of (s7.trans s8)), tabs_same t6 (s7.trans s8)⟩
      rintro b H6 ⟨rfl, x6, t6⟩
      walk_at "go"
      exact hCt _ _ ⟨_, _, _, _, _, _, _, _, _, _, _, _, _, _, _, rfl, (p5.ext x6).mono (by omega), t6⟩
    have l6 : ls.length ≤ 6 := by omega
    walk_at "go"
    refine v_mdP pl ⟨by decide +kernel, by decide +kernel, by decide +kernel⟩ ?_
    walk_at "go"
    refine ⟨x, ls, ps, rfl, pl, l6, L.nd, fun D6 H6 hD6 s6 e6 => ?_⟩
    have nD6 : D6 ≠ g.p := (p5.p_ne hD6).symm
    have nD6c : D6 ≠ g.cl := (p5.cl_ne hD6).symm
    have p6 := p5.same s6
    have t6 := tabs_same t5 s6
    have pl6 := pl.same s6
    have e6q := s6 _ _ e5
    clear s6 p5 t5 e5 pl hD6
    have lr : (rensL ls ps).length ≤ 720 := Nat.le_trans (growL_len L.nd fitsP_ok _) (desc_six _ l6 _ (Nat.le_refl _))
    have lt : ∀ l ∈ rensL ls ps, ∀ c ∈ l, c < 1000 := fun l hl c hc => by have := LET_lt (L.lt c ((ren_iff.mp hl).1.sub c hc)); omega
    have self : ls ∈ rensL ls ps := rens_self L.nd ps
    walk_at "go"
    refine s_cut (fun σ H' => σ = [some (.ref sc), some (.ref g.p), some (.int (i : Nat)), some (.str (tx ls)), some (.ref q), some (.ref x), some (.ref D6), x7, x8, x9, x10, x11, x12, x13, x14, x15, x16, none] ∧ Same H6 H') ?_ ?_
    · walk_at "go"
      refine v_isiLst3 e6 ?_
      walk_at "go"
      refine v_notInT3 e6 ?_
      rw [decide_eq_true self]
      walk_at "go"
      refine ⟨D6, _, rensL ls ps, rfl, SqL.of e6, fun x hx => hx, by omega, fun p7 ms hp7 ndm memm => ?_⟩
      walk_at "go"
      refine ⟨p7, ms, rfl, upd_same, fun p8 S2 pm2 pw2 hp8 => ?_⟩
      have eS : S2 = rensL ls ps := sorted_selfR (growL_asc L.asc _) ndm memm pm2 pw2
      subst eS
      have s8 : Same H6 (upd (upd H6 p7 (SetW P w p7 (ms.map tx))) p8 (.lst ((rensL ls ps).map fun l => V.str (tx l)))) := (Same.new hp7).trans (Same.new hp8)
      have e8 : upd (upd H6 p7 (SetW P w p7 (ms.map tx))) p8 (.lst ((rensL ls ps).map fun l => V.str (tx l))) p8 = some (.lst (strsG (rensL ls ps))) := upd_same
      generalize upd (upd H6 p7 (SetW P w p7 (ms.map tx))) p8 (.lst ((rensL ls ps).map fun l => V.str (tx l))) = H8 at s8 e8 ⊢
      walk_at "go"
      refine v_neStrL3 (s8 _ _ e6) e8 lt lt ?_
      rw [decide_eq_true rfl]
      walk_at "go"
      exact ⟨rfl, s8⟩
    rintro σ H7 ⟨rfl, s7⟩
    have e7 := s7 _ _ e6
    have p7 := p6.same s7
    have t7 := tabs_same t6 s7
    have pl7 := pl6.same s7
    have e7q := s7 _ _ e6q
    clear s7 e6 p6 t6 pl6 e6q
    walk_at "go"
    refine v_slFrom (by omega) (by omega) ?_
    walk_at "go"
    refine v_slTo (by omega) (by omega) ?_
    refine v_addS (by rw [List.length_drop, List.length_take]; omega) ?_
    walk_at "go"
    refine v_slFrom (by omega) (by omega) ?_
    walk_at "go"
    refine v_slTo (by omega) (by omega) ?_
    refine v_addS (by rw [List.length_drop, List.length_take]; omega) ?_
    walk_at "go"
    refine v_slTo (by omega) (by omega) ?_
    refine v_slSt ?_
    walk_at "go"
    refine ⟨1, rfl, _, rfl, ?_⟩
    refine ⟨ls, -1, rfl, rfl, by decide, by rw [step_back3 ls l6, List.length_reverse, List.length_drop]; omega, ?_⟩
    rw [step_back3 ls l6]
    refine v_addS (by rw [List.length_reverse, List.length_drop, List.length_take]; omega) ?_
    walk_at "go"
    intro D8 H8 hD8 s8 e8
    have e8s : H8 D8 = some (.lst (strsG (someL ls))) := e8
    have e8r := s8 _ _ e7
    have e8q := s8 _ _ e7q
    have p8 := p7.same s8
    have t8 := tabs_same t7 s8
    have pl8 := pl7.same s8
    clear e8 s8 e7 e7q p7 t7 pl7
    have lo : (growL ls notF ls.length).length ≤ 720 := Nat.le_trans (growL_len L.nd notF_ok _) (desc_six _ l6 _ (Nat.le_refl _))
    walk_at "go"
    refine e_cut (fun v H' => ∃ D9 os, v = .ref D9 ∧ Same H8 H' ∧ H8 D9 = none ∧ H' D9 = some (.lst (strsG os)) ∧ (∀ o ∈ os, OrdR ls o) ∧ 0 < os.length ∧ os.length ≤ 800) ?_ ?_
    · walk_at "go"
      refine if_dec (fun c5 => ?_) (fun c5 => ?_)
      · walk_at "go"
        refine ⟨ls, rfl, L.nd, by omega, fun D9 H9 hD9 s9 e9 => ⟨D9, _, rfl, s9, hD9, e9, fun o ho => ord_iff.mp ho, List.length_pos_of_mem (ord_iff.mpr (ren_iff.mp self).1), ?_⟩⟩
        exact Nat.le_trans lo (by omega)
      · walk_at "go"
        obtain ⟨F9, eF, lF, mF⟩ := cut_strs3 (rensL ls ps) none (some 9)
        refine v_slL (SqL.of e8r) fun D9 H9 hD9 s9 e9 => ?_
        rw [eF] at e9
        have e9s := s9 _ _ e8s
        walk_at "go"
        refine v_cat e9 e9s (by rw [strsG_len, strsG_len]; have : (someL ls).length = 4 := rfl; omega) fun Da Ha hDa sa ea => ?_
        rw [← strsG_app] at ea
        refine ⟨Da, F9 ++ someL ls, rfl, s9.trans sa, Same.free s9 hDa, ea, fun o ho => ?_, ?_, ?_⟩
        · rcases List.mem_append.mp ho with ho | ho
          · exact (ren_iff.mp (mF o ho)).1
          · exact someL_ord L.nd o ho
        · rw [List.length_append]
          have : (someL ls).length = 4 := rfl
          omega
        · rw [List.length_append]
          have : (someL ls).length = 4 := rfl
          omega
    rintro v9 H9 ⟨D9, os, rfl, s9, hD9, e9, oso, os0, os8⟩
    have e9r := s9 _ _ e8r
    have e9q := s9 _ _ e8q
    have p9 := p8.same s9
    have t9 := tabs_same t8 s9
    have pl9 := pl8.same s9
    have nD9 : D9 ≠ g.p := (p8.p_ne hD9).symm
    have nD96 : D9 ≠ D6 := (ne_of_none e8r hD9).symm
    have lo9 : ∀ l ∈ os, ∀ c ∈ l, c < 1000 := fun l hl c hc => by have := LET_lt (L.lt c ((oso l hl).sub c hc)); omega
    clear s9 e8r e8q p8 t8 pl8 hD9 e8s hD8
    have due : ∀ o ∈ os, decide (o ∈ rensL ls ps) = keepsP ls ps o := fun o ho => by
      rw [Bool.eq_iff_iff, decide_eq_true_iff, ren_iff]
      exact ⟨fun z => z.2, fun z => ⟨oso o ho, z⟩⟩
    walk_at "go"
    refine for_it (walk_strsL K (a := D9) (ls := os)) (fun j σ H' => ∃ y9 y10, σ = [some (.ref sc), some (.ref g.p), some (.int (i : Nat)), some (.str (tx ls)), some (.ref q), some (.ref x), some (.ref D6), some (.ref D8), some (.ref D9), y9, y10, x11, x12, x13, x14, x15, x16, none] ∧ H' = H9) ⟨_, _, rfl, rfl⟩ ?_ ?_ ?_
    · rintro j σ H' hj ⟨y9, y10, rfl, rfl⟩
      exact SqL.of e9
    · rintro j v σ H' H'' hj ⟨y9, y10, rfl, rfl⟩ ⟨rfl, rfl⟩
      refine g_nm ?_
      refine s_hide fun Dm hDm => ?_
      have ho := getDL_mem hj
      generalize os.getD j [] = o at ho ⊢
      walk_at "go"
      refine ⟨q, ls, o, ps, rfl, e9q, l8, (oso o ho).len, ?_⟩
      walk_at "go"
      refine if_ndec (fun c => absurd (congrArg V.bl (due o ho)) c) (fun _ => ?_)
      walk_at "go"
      exact hDm _ _ ⟨_, _, rfl, rfl⟩
    · rintro σ H' ⟨y9, y10, rfl, rfl⟩
      walk_at "go"
      refine for_it (walk_rI (fun j => ((j : Nat) : Int)) (fun k => Int.zero_add _)) (fun j σ H' => ∃ y11 y12 y13 y14 y15, σ = [some (.ref sc), some (.ref g.p), some (.int (i : Nat)), some (.str (tx ls)), some (.ref q), some (.ref x), some (.ref D6), some (.ref D8), some (.ref D9), y9, y10, y11, y12, y13, y14, y15, x16, none] ∧ PenAt g H' (1000 * i + 100 + 3 * j) ∧ LamX.Tabs Ts H' ∧ PlanAt C H' x ls ps ∧ H' D6 = some (.lst (strsG (rensL ls ps))) ∧ H' D9 = some (.lst (strsG os)) ∧ H' q = some (.lst (strsG ps))) ⟨_, _, _, _, _, rfl, p9, t9, pl9, e9r, e9, e9q⟩ (fun _ _ _ _ _ => trivial) ?_ ?_
      · rintro j v σ H10 H11 hj ⟨y11, y12, y13, y14, y15, rfl, p11, t11, pl11, e11r, e11, e11q⟩ ⟨rfl, rfl⟩
        refine g_nm ?_
        refine s_hide fun Dm hDm => ?_
        have hj3 : j < 3 := by omega
        walk_at "go"
        refine ⟨g, _, D6, _, rfl, e11r, by rw [strsG_len]; exact List.length_pos_of_mem self, by rw [strsG_len]; omega, p11, by omega, nD6, fun v1 H12 hv1 p12 k12 => ?_⟩
        obtain ⟨one, hone, rfl⟩ := mem_strsG.mp hv1
        have t12 := tabs_pen t11 p11 k12
        have pl12 := pl11.pen p11 k12
        have e12r := k12 _ _ e11r nD6
        have e12 := k12 _ _ e11 nD9
        have e12q := k12 _ _ e11q nqp
        clear hv1 k12 p11 t11 pl11 e11r e11 e11q
        walk_at "go"
        refine ⟨g, _, D9, _, rfl, e12, by rw [strsG_len]; exact os0, by rw [strsG_len]; omega, p12, by omega, nD9, fun v2 H13 hv2 p13 k13 => ?_⟩
        obtain ⟨two, htwo, rfl⟩ := mem_strsG.mp hv2
        have t13 := tabs_pen t12 p12 k13
        have pl13 := pl12.pen p12 k13
        have e13r := k13 _ _ e12r nD6
        have e13 := k13 _ _ e12 nD9
        have e13q := k13 _ _ e12q nqp
        clear hv2 k13 p12 t12 pl12 e12r e12 e12q
        walk_at "go"
        intro tt H14 htt s14 e14
        refine v_gTup2 rfl e14 ?_
        have p14 := p13.same s14
        have t14 := tabs_same t13 s14
        have pl14 := pl13.same s14
        have e14r := s14 _ _ e13r
        have e14o := s14 _ _ e13
        have e14q := s14 _ _ e13q
        clear e14 s14 p13 t13 pl13 e13r e13 e13q htt
        walk_at "go"
        refine ⟨g, _, D6, _, rfl, e14r, by rw [strsG_len]; exact List.length_pos_of_mem self, by rw [strsG_len]; omega, p14, by omega, nD6, fun v3 H15 hv3 p15 k15 => ?_⟩
        obtain ⟨thr, hthr, rfl⟩ := mem_strsG.mp hv3
        have t15 := tabs_pen t14 p14 k15
        have pl15 := pl14.pen p14 k15
        have e15r := k15 _ _ e14r nD6
        have e15 := k15 _ _ e14o nD9
        have e15q := k15 _ _ e14q nqp
        clear hv3 k15 p14 t14 pl14 e14r e14o e14q
        have o1 := (ren_iff.mp hone).1
        have o3 := (ren_iff.mp hthr).1
        have l1 := o1.len
        have l3 := o3.len
        have ld : ls.length ≤ 1000000 := by omega
        walk_at "go"
        refine v_lcS (l := thr) (b := fun _ => true) (f := fun c => V.str (tx [one.getD (ixOf ls c) 0])) (by omega) (fun c _ Ha sa R r => ?_) (fun c hc _ Ha sa R r => ?_) (fun Da Ha hDa sa ea => ?_)
        · walk_at "go"
          exact r Ha (Same.refl _)
        · have hcl := o3.sub c hc
          walk_at "go"
          refine v_index hcl ?_
          refine v_ixS (by omega) (at_getD3 (by rw [l1]; exact (ixOf_get hcl).1)) ?_
          exact r Ha (Same.refl _)
        have ea : Ha Da = some (.lst (((behindR ls one thr).map fun c => [c]).map fun l => V.str (tx l))) := by
          rw [ea, filter_yes]
          unfold behindR
          rw [List.map_map, List.map_map]
          rfl
        have both : behindR ls one thr ∈ rensL ls ps := behind_ok L.nd hone hthr
        have lb := (ren_iff.mp both).1.len
        generalize behindR ls one thr = bt at ea both lb
        refine v_join ea (by rw [flat_ones]; omega) ?_
        rw [flat_ones]
        walk_at "go"
        refine v_lcS (l := ls) (b := fun _ => true) (f := fun c => V.str (tx [ls.getD (ixOf one c) 0])) (by omega) (fun c _ Hb sb R r => ?_) (fun c hc _ Hb sb R r => ?_) (fun Db Hb hDb sb eb => ?_)
        · walk_at "go"
          exact r Hb (Same.refl _)
        · have hco := o1.all L.nd hc
          walk_at "go"
          refine v_index hco ?_
          refine v_ixS (by omega) (at_getD3 (by rw [← l1]; exact (ixOf_get hco).1)) ?_
          exact r Hb (Same.refl _)
        have eb : Hb Db = some (.lst (((backR ls one).map fun c => [c]).map fun l => V.str (tx l))) := by
          rw [eb, filter_yes]
          unfold backR
          rw [List.map_map, List.map_map]
          rfl
        have back : backR ls one ∈ rensL ls ps := back_ok L.nd hone
        have lk := (ren_iff.mp back).1.len
        generalize backR ls one = bk at eb back lk
        refine v_join eb (by rw [flat_ones]; omega) ?_
        rw [flat_ones]
        have sab := sa.trans sb
        have pb := p15.same sab
        have tb := tabs_same t15 sab
        have plb := pl15.same sab
        have ebr := sab _ _ e15r
        have ebo := sab _ _ e15
        have ebq := sab _ _ e15q
        clear ea eb sa sb sab p15 t15 pl15 e15r e15 e15q hDa hDb
        walk_at "go"
        refine s_cut (fun σ H' => σ = [some (.ref sc), some (.ref g.p), some (.int (i : Nat)), some (.str (tx ls)), some (.ref q), some (.ref x), some (.ref D6), some (.ref D8), some (.ref D9), y9, y10, some (.int (j : Nat)), some (.str (tx one)), some (.str (tx two)), some (.str (tx bt)), some (.str (tx bk)), x16, none] ∧ Hb = H') ?_ ?_
        · walk_at "go"
          refine v_notInT3 ebr ?_
          rw [decide_eq_true both]
          walk_at "go"
          refine v_notInT3 ebr ?_
          rw [decide_eq_true back]
          walk_at "go"
          exact ⟨rfl, rfl⟩
        rintro σ H' ⟨rfl, rfl⟩
        walk_at "go"
        refine t_cut (fun b H' => b = false ∧ LamX.ExtN Hb H' ∧ LamX.Tabs Ts H') ?_ ?_
        · walk_at "go"
          refine ⟨tb, fun Hc xc tc => ?_⟩
          unfold TT3
          dsimp only
          walk_at "go"
          have ltw := (oso two htwo).len
          refine ⟨x, ls, ps, _, decide (two ∈ rensL ls ps), rfl, plb.ext xc, ok, .inr ⟨two, rfl, by omega, rfl⟩, fun hb z Hd sd => ?_, fun hb => rz_told3 (.inl ⟨rfl, rfl, rfl⟩) fun t Hd sd ed => ?_⟩
          · have xd := xc.trans (ext_of sd)
            refine e_cut (fun v H' => Same Hd H' ∧ DueIs H' v none) ?_ ?_
            · walk_at "go"
              refine v_inT3 (xd _ _ ebr fun ps z => nomatch z) ?_
              rw [hb]
              walk_at "go"
              exact ⟨Same.refl _, rfl⟩
            · rintro u He ⟨se, de⟩
              exact ne_due (o := none) rfl de ⟨false, rfl, rfl, xd.trans (ext_of se), tabs_same (tabs_same tc sd) se⟩
          · have xd := xc.trans (ext_of sd)
            refine e_cut (fun v H' => Same Hd H' ∧ DueIs H' v (some ([114, 101, 110, 97, 109, 105, 110, 103], V.str (tx two)))) ?_ ?_
            · walk_at "go"
              refine v_inT3 (xd _ _ ebr fun ps z => nomatch z) ?_
              rw [hb]
              walk_at "go"
              intro t2 He ht2 se ee
              exact ⟨se, .inl rfl, t2, rfl, ee⟩
            · rintro u He ⟨se, de⟩
              exact ne_due (o := some ([114, 101, 110, 97, 109, 105, 110, 103], V.str (tx two))) ⟨.inl rfl, t, rfl, se _ _ ed⟩ de ⟨false, rfl, rfl, xd.trans (ext_of se), tabs_same (tabs_same tc sd) se⟩
        rintro b Hc ⟨rfl, xc, tc⟩
        walk_at "go"
        exact hDm _ _ ⟨_, _, _, _, _, rfl, (pb.ext xc).mono (by omega), tc, plb.ext xc, xc _ _ ebr (fun ps z => nomatch z), xc _ _ ebo (fun ps z => nomatch z), xc _ _ ebq (fun ps z => nomatch z)⟩
      · rintro σ H10 ⟨y11, y12, y13, y14, y15, rfl, p10, t10, pl10, e10r, e10, e10q⟩
        have ld : ls.length ≤ 1000000 := by omega
        walk_at "go"
        intro La Ha hLa sa ea
        walk_at "go"
        refine v_slFrom (by omega) (by omega) ?_
        have d1 : (ls.drop (Int.toNat 1)).length ≤ 10 := by rw [List.length_drop]; omega
        walk_at "go"
        intro Lb Hb hLb sb eb
        walk_at "go"
        refine v_slTo (by omega) (by omega) ?_
        refine v_addS (by rw [List.length_take]; omega) ?_
        walk_at "go"
        intro Lc Hc hLc sc' ec
        have sac := (sa.trans sb).trans sc'
        have pc := p10.same sac
        have nLa : La ≠ g.p := (p10.p_ne hLa).symm
        have nLb : Lb ≠ g.p := ((p10.same sa).p_ne hLb).symm
        have nLc : Lc ≠ g.p := (((p10.same sa).same sb).p_ne hLc).symm
        have tc := tabs_same t10 sac
        have plc := pl10.same sac
        have ecr := sac _ _ e10r
        have eca := (sb.trans sc') _ _ ea
        have ecb := sc' _ _ eb
        clear sa sb sc' sac p10 t10 pl10 e10r e10 e10q ea eb hLa hLb hLc
        walk_at "go"
        refine ⟨g, _, Lc, _, rfl, ec, by simp, by simp, pc, by omega, nLc, fun u Hd hu' pd kd => ?_⟩
        have ltk : ∀ c ∈ ls, c < 1000 := fun c hc => by have := LET_lt (L.lt c hc); omega
        have eda := kd _ _ eca nLa
        have edb := kd _ _ ecb nLb
        have odd : OddRn K Hd ls ps u := by
          simp only [List.mem_cons, List.not_mem_nil, or_false] at hu'
          rcases hu' with rfl | rfl | rfl | rfl | rfl | rfl | rfl
          · exact ⟨⟨_, .int _, by decide +kernel, rfl⟩, fun _ => .inl ⟨rfl, .inr (.inr (.inl ⟨_, rfl⟩)), fun z => nomatch z⟩, .inl rfl⟩
          · exact ⟨⟨_, .bl _, by decide +kernel, rfl⟩, fun _ => .inl ⟨rfl, .inr (.inl ⟨_, rfl⟩), fun z => nomatch z⟩, .inl rfl⟩
          · exact oddRn_seq ltk (.inl eda)
          · refine oddRn_str (fun c hc => ?_) (by rw [List.length_append, List.length_singleton]; omega) fun _ o => ?_
            · rcases List.mem_append.mp hc with hc | hc
              · exact ltk c hc
              · rw [List.mem_singleton.mp hc]; decide
            · have := o.len
              rw [List.length_append, List.length_singleton] at this
              omega
          · refine oddRn_str (fun c hc => ?_) (by rw [List.length_append, List.length_singleton]; omega) fun _ => not_ordZ (z := 90) (List.mem_append_right _ (List.mem_singleton.mpr rfl)) fun h => ?_
            · rcases List.mem_append.mp hc with hc | hc
              · exact ltk c (List.mem_of_mem_drop hc)
              · rw [List.mem_singleton.mp hc]; decide
            · have := LET_lt (L.lt _ h)
              omega
          · exact oddRn_seq ltk (.inr edb)
          · have tl : (ls.take (Int.toNat 1)).length ≤ ls.length := by rw [List.length_take]; omega
            refine oddRn_str (fun c hc => ?_) (by rw [List.length_append]; omega) fun ne o => ?_
            · rcases List.mem_append.mp hc with hc | hc
              · exact ltk c hc
              · exact ltk c (List.mem_of_mem_take hc)
            · cases ls with
              | nil => exact ne rfl
              | cons a r =>
                have := o.len
                simp at this
        have td := tabs_pen tc pc kd
        have pld := plc.pen pc kd
        have edr := kd _ _ ecr nD6
        clear kd eda edb tc plc ecr pc eca ecb ec hu'
        walk_at "go"
        refine s_cut (fun σ H' => σ = [some (.ref sc), some (.ref g.p), some (.int (i : Nat)), some (.str (tx ls)), some (.ref q), some (.ref x), some (.ref D6), some (.ref D8), some (.ref D9), y9, y10, y11, y12, y13, y14, y15, some u, none] ∧ LamX.ExtN Hd H' ∧ LamX.Tabs Ts H') ?_ ?_
        · walk_at "go"
          obtain ⟨d, h1, h2, h3⟩ := odd.dp
          refine ⟨d, .str (tx ls), h1, .str _, h2, shaped_one3 ltk, ?_⟩
          rw [h3]
          walk_at "go"
          refine if_ndec (fun ne => ?_) (fun _ => ?_)
          rotate_left
          · walk_at "go"
            exact ⟨rfl, LamX.ExtN.refl _, td⟩
          refine t_cut (fun b H' => b = false ∧ LamX.ExtN Hd H' ∧ LamX.Tabs Ts H') ?_ ?_
          · walk_at "go"
            refine ⟨td, fun He xe te => ?_⟩
            unfold TT3
            dsimp only
            walk_at "go"
            refine e_CN ?_
            walk_at "go"
            refine ⟨rfl, rfl, ?_⟩
            refine ⟨x, ls, ps, u, false, rfl, pld.ext xe, ok, (odd.rn ne).ext xe, (fun z => nomatch z), fun _ => rz_told3 (.inl ⟨rfl, rfl, rfl⟩) fun t Hf sf ef => ?_⟩
            walk_at "go"
            intro t2 Hg ht2 sg' eg
            exact ne_due (o := some ([114, 101, 110, 97, 109, 105, 110, 103], u)) ⟨odd.pl, t, rfl, sg' _ _ ef⟩ ⟨odd.pl, t2, rfl, eg⟩ ⟨false, rfl, rfl, xe.trans (ext_of (sf.trans sg')), tabs_same te (sf.trans sg')⟩
          rintro b He ⟨rfl, xe, te⟩
          walk_at "go"
          exact ⟨rfl, xe, te⟩
        rintro σ He ⟨rfl, xe, te⟩
        have pe := pd.ext xe
        have ple := pld.ext xe
        have eer := xe _ _ edr fun ps z => nomatch z
        clear pd td pld edr odd xe
        walk_at "go"
        refine v_app eer (by rw [strsG_len]; omega) fun Hf kf ef => ?_
        have plf := ple.lst eer kf
        have tf : LamX.Tabs Ts Hf := tabs_keep te kf eer (fun ps z => nomatch z) (fun c q z => by unfold LamX.CodeO at z; cases z)
        have pf : PenAt g Hf (1000 * i + 110) := (pe.mono (by have : Int.toNat 3 = 3 := rfl; omega)).keep kf nD6.symm nD6c.symm
        have ef : Hf D6 = some (.lst (strsG (rensL ls ps ++ [[]]))) := by rw [ef, strsG_app]; rfl
        walk_at "go"
        refine v_mdP plf ⟨by decide +kernel, by decide +kernel, by decide +kernel⟩ ?_
        walk_at "go"
        refine ⟨x, ls, ps, rfl, plf, l6, L.nd, fun Dg Hg hDg sg' eg => ?_⟩
        walk_at "go"
        refine v_eqStrL3 eg (sg' _ _ ef) lt (fun l hl c hc => ?_) ?_
        · rcases List.mem_append.mp hl with hl | hl
          · exact lt l hl c hc
          · rw [List.mem_singleton.mp hl] at hc
            cases hc
        rw [decide_eq_false fun z => by have := congrArg List.length z; simp at this]
        walk_at "go"
        exact hDn _ _ ⟨_, _, _, _, _, _, _, _, _, _, _, _, _, _, _, rfl, (pf.same sg').mono (by omega), tabs_same tf sg'⟩
  · rintro σ H2 ⟨x2, x3, x4, x5, x6, x7, x8, x9, x10, x11, x12, x13, x14, x15, x16, rfl, p2, t2⟩
    walk_at "go"
    exact k H2
end
end
section
open PySem PySem.Spec L2
abbrev stIR : Stmt := (inClass (top 8) 0)
abbrev stTM : Stmt := (inClass (top 10) 0)
theorem fnok_g3 {P : Program} {w : World} {K : PySem.W.Frag} {mg : Str → Option Value} {base : Heap} {k : Nat} {f : Addr} {fd : FuncData} {ps : List Str} {sp : Sp} (F : FnOk P w K mg base CX0 k f fd ps sp) : FnOkG P w K mg base k f fd ps sp :=
  ⟨F.len, fun A outer s H args us vs Q _ hr ev bind r h => F.run A outer s H args us vs Q E0 hr ev bind r h⟩
theorem end03 {w : World} {K : PySem.W.Frag} {mg : Str → Option Value} {C R O Mo IR TM fa e0 c1 P1 : Addr} {fd : FuncData} {t1 t2 t3 t4 : Tok} {dd0 : Option Addr} {n0 : Nat} {sl0 : Array (Option Value)}
    (c_Plan : ClsF K mg "Plan" C)
    (c_Room : ClsF K mg "Room" R)
    (c_Motion : ClsF K mg "Motion" Mo)
    (e_OtherPlan : ExcF K mg "OtherPlan" O)
    (E_InvalidRenaming : ExcE PySem.Challenge.pw_crosswalls_k03_renamings_of_plans K mg "InvalidRenaming" IR "InvalidRenaming.__init__" stIR)
    (E_TooMany : ExcE PySem.Challenge.pw_crosswalls_k03_renamings_of_plans K mg "TooMany" TM "TooMany.__init__" stTM)
    (F_stepped : FnAt K mg "stepped" ststepped)
    (F_joined : FnAt K mg "joined" stjoined)
    (F_is_list : FnAt K mg "is_list" stis_list)
    (F_need_way : FnAt K mg "need_way" stneed_way)
    (F_are_letters : FnAt K mg "are_letters" stare_letters)
    (F_ascending : FnAt K mg "ascending" stascending)
    (F_checked_pairs : FnAt K mg "checked_pairs" stchecked_pairs)
    (F_need_few : FnAt K mg "need_few" stneed_few)
    (F_crossing_table : FnAt K mg "crossing_table" stcrossing_table)
    (F_fits_plan : FnAt K mg "fits_plan" stfits_plan)
    (F_need_renaming : FnAt K mg "need_renaming" stneed_renaming)
    (F_pen : FnAt K mg "_law_pen" stpen)
    (F_draw : FnAt K mg "_law_draw" stdraw)
    (F_pick : FnAt K mg "_law_pick" stpick)
    (F_lplan : FnAt K mg "_law_plan" stlplan)
    (F_ords03 : FnAt K mg "_law_orders" stords03)
    (F_meet03 : FnAt K mg "_law_meet" stmeet03)
    (F_keeps03 : FnAt K mg "_law_keeps" stkeeps03)
    (F_told3 : FnAt K mg "_law_told" sttold3)
    (F_law : FunC K "law" "law" stlaw fa fd c1)
    (F_Plan_init : MAtD K C "__init__" "Plan.__init__" stPlan_init [.ref e0])
    (F_Room_init : MAtD K R "__init__" "Room.__init__" stRoom_init [.str (tx [])])
    (F_Plan_fits03 : MAt K C "fits" "Plan.fits" stPlan_fits03)
    (F_Plan_rens03 : MAt K C "renamings" "Plan.renamings" stPlan_rens03)
    (F_Motion_init : MAtD K Mo "__init__" "Motion.__init__" stMotion_init [.str (tx []), .non])
    (z_len : mg "len" = none)
    (z_int : mg "int" = none)
    (z_list : mg "list" = none)
    (z_isinstance : mg "isinstance" = none)
    (z_str : mg "str" = none)
    (z_all : mg "all" = none)
    (z_set : mg "set" = none)
    (z_tuple : mg "tuple" = none)
    (z_range : mg "range" = none)
    (z_min : mg "min" = none)
    (z_bool : mg "bool" = none)
    (z_super : mg "super" = none)
    (z_enumerate : mg "enumerate" = none)
    (z_sorted : mg "sorted" = none)
    (n_C_kinds : NoAttr K C "kinds")
    (n_C_pairs : NoAttr K C "pairs")
    (n_C_own_crossing : NoAttr K C "own_crossing")
    (n_R_plan : NoAttr K R "plan")
    (n_R_name : NoAttr K R "name")
    (n_Mo_plan : NoAttr K Mo "plan")
    (n_Mo_home : NoAttr K Mo "home")
    (n_Mo_renaming : NoAttr K Mo "renaming")
    (g_LETTERS : mg "LETTERS" = some (.str (tx LET) t1))
    (g_MOST_KINDS : mg "MOST_KINDS" = some (.int 8 t2))
    (g_MOST_LETTERS : mg "MOST_LETTERS" = some (.int 2000 t3))
    (g_MOST_RENAMED : mg "MOST_RENAMED" = some (.int 6 t4))
    (ke0 : K.lookup e0 = some ⟨.type "tuple", dd0, .seq #[] n0, sl0⟩)
    (kIv : PySem.W.findIn K (.ref IR) "value" = some none)
    (kMm : PySem.W.findIn K (.ref TM) "most" = some none)
    (sIRIR : PySem.W.subIn K (.ref IR) (.ref IR) = some true)
    (sTMIR : PySem.W.subIn K (.ref TM) (.ref IR) = some false)
    (sTMTM : PySem.W.subIn K (.ref TM) (.ref TM) = some true) (base : Heap) (TB1 : LamX.TabB base mg c1 P1) : FnOkG PySem.Challenge.pw_crosswalls_k03_renamings_of_plans w K mg base 11 fa fd ["_law_script"] (spLaw3 K [(P1, ("law" : Str) ++ ".<locals>." ++ "<lambda>")]) := by
  have T : Txt K mg := ⟨z_len, z_int, z_list⟩
  have TP : TxtP K mg C := ⟨z_len, z_int, z_list, z_isinstance, z_str, z_all, z_set, z_tuple, ⟨_, g_LETTERS⟩, ⟨_, g_MOST_KINDS⟩, c_Plan, n_C_kinds, n_C_pairs, n_C_own_crossing⟩
  have TR : TxtR K mg C R O := ⟨TP, z_enumerate, ⟨_, g_MOST_LETTERS⟩, c_Room, n_R_plan, n_R_name, e_OtherPlan⟩
  have TH : TxtH K mg := ⟨T, z_range⟩
  have TG : TxtG K mg C := ⟨TP, z_range⟩
  have TN : TxtRn K mg C := { TG with enumerate := z_enumerate, g_MOST_RENAMED := ⟨_, g_MOST_RENAMED⟩ }
  have TM' : TxtMo K mg C R O Mo := { TN with Motion := c_Motion, nMp := n_Mo_plan, nMh := n_Mo_home, nMr := n_Mo_renaming }
  have ex : ∀ {A B : Addr} {b : Bool} {x q : Str} {s : Stmt}, ExcE PySem.Challenge.pw_crosswalls_k03_renamings_of_plans K mg x B q s → PySem.W.subIn K (.ref A) (.ref B) = some b → PySem.W.exmOne K (.ref A) (.ref B) = some b := fun E h => PySem.W.exm_ref E.ec.hs E.ec.hd E.oex.tyC h
  have T3 : TxtT3 PySem.Challenge.pw_crosswalls_k03_renamings_of_plans K mg C R O Mo IR TM stIR stTM := { TM' with eR := E_InvalidRenaming, eM := E_TooMany, IR_value := kIv, TM_most := kMm, rr := ex E_InvalidRenaming sIRIR, mr := ex E_InvalidRenaming sTMIR, mm := ex E_TooMany sTMTM }
  have TL : TxtL3 PySem.Challenge.pw_crosswalls_k03_renamings_of_plans K mg C R O Mo IR TM stIR stTM := { T3 with min := z_min, sorted := z_sorted }
  have D_draw := ok_draw (P := PySem.Challenge.pw_crosswalls_k03_renamings_of_plans) (w := w) (base := base) F_draw T
  have D_pen := ok_pen (P := PySem.Challenge.pw_crosswalls_k03_renamings_of_plans) (w := w) (base := base) F_pen T
  have D_are := ok_are_letters (P := PySem.Challenge.pw_crosswalls_k03_renamings_of_plans) (w := w) (base := base) F_are_letters TP
  have D_asc := ok_ascending (P := PySem.Challenge.pw_crosswalls_k03_renamings_of_plans) (w := w) (base := base) F_ascending TP
  have D_isl := ok_is_list (P := PySem.Challenge.pw_crosswalls_k03_renamings_of_plans) (w := w) (base := base) F_is_list TP
  have D_few := ok_need_few (P := PySem.Challenge.pw_crosswalls_k03_renamings_of_plans) (w := w) (base := base) F_need_few TP
  have D_chk := ok_checked_pairs F_checked_pairs TP D_isl D_are D_asc
  have D_tab := ok_crossing_table (P := PySem.Challenge.pw_crosswalls_k03_renamings_of_plans) (w := w) (base := base) F_crossing_table TP
  have X_Plan := ok_Plan F_Plan_init rfl TP D_are D_asc D_chk D_few D_tab
  have D_st := ok_stepped (P := PySem.Challenge.pw_crosswalls_k03_renamings_of_plans) (w := w) (base := base) F_stepped TP
  have D_jo := ok_joined F_joined D_st
  have D_nw := ok_need_way (P := PySem.Challenge.pw_crosswalls_k03_renamings_of_plans) (w := w) (base := base) F_need_way TR
  have X_Room := ok_Room F_Room_init rfl TR D_nw D_jo
  have X_IR := ok_E1 (w := w) (base := base) (k := 0) (fld := "value") (y := "value") E_InvalidRenaming z_super kIv rfl (NdefX.nscope_by (by decide +kernel)) rfl rfl rfl (fun kV doc pm an cda cc ct us hl => by
    match us, hl with
    | [_, _], _ => rfl) (fun env => rfl)
  have X_TM := ok_E1 (w := w) (base := base) (k := 0) (fld := "most") (y := "most") E_TooMany z_super kMm rfl (NdefX.nscope_by (by decide +kernel)) rfl rfl rfl (fun kV doc pm an cda cc ct us hl => by
    match us, hl with
    | [_, _], _ => rfl) (fun env => rfl)
  have M_fits := ok_Plan_fits03 (P := PySem.Challenge.pw_crosswalls_k03_renamings_of_plans) (w := w) (base := base) F_Plan_fits03 TN
  have M_rens := ok_Plan_rens03 F_Plan_rens03 TN M_fits
  have M_rensE := ok_Plan_rensE F_Plan_rens03 TN M_fits X_TM
  have D_fp := ok_fits_plan F_fits_plan TN D_asc
  have D_nr := ok_need_renaming F_need_renaming TN D_fp X_IR
  have X_Mo := ok_Motion F_Motion_init rfl TM' X_Room.cdef D_nr
  have X_Mo_1 := X_Mo.kw 1 ["renaming"] [.pos 0, .dfl 0, .kw 0] (by simp) fun T kV doc pm an cdv ct us its ws l1 l2 l3 => by
    match us, l1, its, l2, ws, l3 with
    | [_, _], _, [_, _], _, [_], _ => exact ⟨_, rfl, rfl⟩
  have D_pick := ok_pick F_pick T D_draw
  have D_plan := ok_lplan F_lplan TH D_draw D_pick
  have D_ords := ok_ords03 (P := PySem.Challenge.pw_crosswalls_k03_renamings_of_plans) (w := w) (base := base) F_ords03 TN
  have D_meet := ok_meet03 (P := PySem.Challenge.pw_crosswalls_k03_renamings_of_plans) (w := w) (base := base) F_meet03
  have D_keeps := ok_keeps03 F_keeps03 TN D_meet
  exact fnok_g3 (ok_law F_law F_told3 TL TB1 (.head _) (fun p hp _ => by rw [List.mem_singleton.mp hp]) D_pen D_pick D_plan D_ords D_keeps X_Plan.cdef M_rens M_rensE X_Mo.cdef X_Mo_1)
end
end Cw
set_option Elab.async false
set_option linter.all false
set_option maxRecDepth 100000
open PySem PySem.W PyProof.Rows
set_option maxRecDepth 100000 in
set_option maxHeartbeats 0 in
theorem PySem.Challenge.cw_crosswalls_k03_renamings_of_plans_holds : PySem.Challenge.rw_crosswalls_k03_renamings_of_plans.Holds := by
  refine Cw.headOf ?_
  k_fill
  refine Cw.end_walkG1 (l := PySem.Challenge.rw_crosswalls_k03_renamings_of_plans) (k := 11) (x := "_law_script") (t := 854) (sp := fun K => Cw.spLaw3 K [(854, ("law" : PySem.Str) ++ ".<locals>." ++ "<lambda>")]) rfl rfl ⟨rfl, by decide, by decide⟩ (fun w h Y => PySem.W.km_in_of Y) (fun w h Y => PySem.W.km_tabs_of Y 854 (by k_mem)) (fun w => by kernel_rfl) (fun _ _ a ns hl ht hS => ⟨a, ns, rfl, hS, hl, Cw.tabs_of fun p hp => by rw [List.mem_singleton.mp hp]; exact ht, fun _ => rfl⟩) ?F
  case F =>
    intro w mg fa h KX G hmg
    refine' ⟨_, _, ?e1, fun s v => ?b, fun base _ _ TB => ?h⟩
    case h =>
      refine' Cw.end03 ?c_Plan ?c_Room ?c_Motion ?e_OtherPlan ?E_InvalidRenaming ?E_TooMany ?F_stepped ?F_joined ?F_is_list ?F_need_way ?F_are_letters ?F_ascending ?F_checked_pairs ?F_need_few ?F_crossing_table ?F_fits_plan ?F_need_renaming ?F_pen ?F_draw ?F_pick ?F_lplan ?F_ords03 ?F_meet03 ?F_keeps03 ?F_told3 ?F_law ?F_Plan_init ?F_Room_init ?F_Plan_fits03 ?F_Plan_rens03 ?F_Motion_init ?z_len ?z_int ?z_list ?z_isinstance ?z_str ?z_all ?z_set ?z_tuple ?z_range ?z_min ?z_bool ?z_super ?z_enumerate ?z_sorted ?n_C_kinds ?n_C_pairs ?n_C_own_crossing ?n_R_plan ?n_R_name ?n_Mo_plan ?n_Mo_home ?n_Mo_renaming ?g_LETTERS ?g_MOST_KINDS ?g_MOST_LETTERS ?g_MOST_RENAMED ?ke0 ?kIv ?kMm ?sIRIR ?sTMIR ?sTMTM base TB
      case c_Plan => refine' Cw.cls_mk KX G ?a ?pg ?hd ?po ?sa ?mk ?kc ?ha ?hn ?ht ?hm ?ob ?ne; (case a => k_is); (case pg => k_is); (case hd => k_is); (case po => k_is); (case sa => k_is); (case mk => k_is); (case kc => k_is); (case ha => k_is); (case hn => k_is); (case ht => k_is); (case hm => k_is); (case ob => k_is); (case ne => k_is)
      case c_Room => refine' Cw.cls_mk KX G ?a ?pg ?hd ?po ?sa ?mk ?kc ?ha ?hn ?ht ?hm ?ob ?ne; (case a => k_is); (case pg => k_is); (case hd => k_is); (case po => k_is); (case sa => k_is); (case mk => k_is); (case kc => k_is); (case ha => k_is); (case hn => k_is); (case ht => k_is); (case hm => k_is); (case ob => k_is); (case ne => k_is)
      case c_Motion => refine' Cw.cls_mk KX G ?a ?pg ?hd ?po ?sa ?mk ?kc ?ha ?hn ?ht ?hm ?ob ?ne; (case a => k_is); (case pg => k_is); (case hd => k_is); (case po => k_is); (case sa => k_is); (case mk => k_is); (case kc => k_is); (case ha => k_is); (case hn => k_is); (case ht => k_is); (case hm => k_is); (case ob => k_is); (case ne => k_is)
      case e_OtherPlan => refine' Cw.exc_mk KX G ?a ?e ?k ?ty ?hg ?hk ?hs ?hd ?ha ?hn ?ht ?hm; (case a => k_is); (case k => k_is); (case ty => k_is); (case hg => k_is); (case hk => k_is); (case hs => k_is); (case hd => k_is); (case ha => k_is); (case hn => k_is); (case ht => k_is); (case hm => k_is); (case e => k_exc)
      case E_InvalidRenaming => refine' Cw.exE_mk KX G ?a ?lk ?rv ?sa ?hs ?ty ?k ?hg ?hk ?hd ?ha ?hn ?ht ?hm ?fi ?ti ?lf ?cd ?par ?par2 ?lc ?v2 ?fe ?top ?lcc ?op ?up; (case a => k_is); (case lk => k_is); (case sa => k_is); (case hs => k_is); (case ty => k_is); (case k => k_is); (case hg => k_is); (case hk => k_is); (case hd => k_is); (case ha => k_is); (case hn => k_is); (case ht => k_is); (case hm => k_is); (case fi => k_is); (case ti => k_is); (case lf => k_is); (case cd => k_is); (case lc => k_is); (case lcc => k_is); (case op => k_is); (case rv => kernel_rfl); (case par => rfl); (case par2 => rfl); (case v2 => rfl); (case fe => kernel_rfl); (case top => kernel_rfl); (case up => kernel_rfl)
      case E_TooMany => refine' Cw.exE_mk KX G ?a ?lk ?rv ?sa ?hs ?ty ?k ?hg ?hk ?hd ?ha ?hn ?ht ?hm ?fi ?ti ?lf ?cd ?par ?par2 ?lc ?v2 ?fe ?top ?lcc ?op ?up; (case a => k_is); (case lk => k_is); (case sa => k_is); (case hs => k_is); (case ty => k_is); (case k => k_is); (case hg => k_is); (case hk => k_is); (case hd => k_is); (case ha => k_is); (case hn => k_is); (case ht => k_is); (case hm => k_is); (case fi => k_is); (case ti => k_is); (case lf => k_is); (case cd => k_is); (case lc => k_is); (case lcc => k_is); (case op => k_is); (case rv => kernel_rfl); (case par => rfl); (case par2 => rfl); (case v2 => rfl); (case fe => kernel_rfl); (case top => kernel_rfl); (case up => kernel_rfl)
      case F_stepped => refine' Cw.fnAt_mk KX G ?a ?l ?c ?k; (case a => k_is); (case l => k_is); (case c => k_is); (case k => k_is)
      case F_joined => refine' Cw.fnAt_mk KX G ?a ?l ?c ?k; (case a => k_is); (case l => k_is); (case c => k_is); (case k => k_is)
      case F_is_list => refine' Cw.fnAt_mk KX G ?a ?l ?c ?k; (case a => k_is); (case l => k_is); (case c => k_is); (case k => k_is)
      case F_need_way => refine' Cw.fnAt_mk KX G ?a ?l ?c ?k; (case a => k_is); (case l => k_is); (case c => k_is); (case k => k_is)
      case F_are_letters => refine' Cw.fnAt_mk KX G ?a ?l ?c ?k; (case a => k_is); (case l => k_is); (case c => k_is); (case k => k_is)
      case F_ascending => refine' Cw.fnAt_mk KX G ?a ?l ?c ?k; (case a => k_is); (case l => k_is); (case c => k_is); (case k => k_is)
      case F_checked_pairs => refine' Cw.fnAt_mk KX G ?a ?l ?c ?k; (case a => k_is); (case l => k_is); (case c => k_is); (case k => k_is)
      case F_need_few => refine' Cw.fnAt_mk KX G ?a ?l ?c ?k; (case a => k_is); (case l => k_is); (case c => k_is); (case k => k_is)
      case F_crossing_table => refine' Cw.fnAt_mk KX G ?a ?l ?c ?k; (case a => k_is); (case l => k_is); (case c => k_is); (case k => k_is)
      case F_fits_plan => refine' Cw.fnAt_mk KX G ?a ?l ?c ?k; (case a => k_is); (case l => k_is); (case c => k_is); (case k => k_is)
      case F_need_renaming => refine' Cw.fnAt_mk KX G ?a ?l ?c ?k; (case a => k_is); (case l => k_is); (case c => k_is); (case k => k_is)
      case F_pen => refine' Cw.fnAt_mk KX G ?a ?l ?c ?k; (case a => k_is); (case l => k_is); (case c => k_is); (case k => k_is)
      case F_draw => refine' Cw.fnAt_mk KX G ?a ?l ?c ?k; (case a => k_is); (case l => k_is); (case c => k_is); (case k => k_is)
      case F_pick => refine' Cw.fnAt_mk KX G ?a ?l ?c ?k; (case a => k_is); (case l => k_is); (case c => k_is); (case k => k_is)
      case F_lplan => refine' Cw.fnAt_mk KX G ?a ?l ?c ?k; (case a => k_is); (case l => k_is); (case c => k_is); (case k => k_is)
      case F_ords03 => refine' Cw.fnAt_mk KX G ?a ?l ?c ?k; (case a => k_is); (case l => k_is); (case c => k_is); (case k => k_is)
      case F_meet03 => refine' Cw.fnAt_mk KX G ?a ?l ?c ?k; (case a => k_is); (case l => k_is); (case c => k_is); (case k => k_is)
      case F_keeps03 => refine' Cw.fnAt_mk KX G ?a ?l ?c ?k; (case a => k_is); (case l => k_is); (case c => k_is); (case k => k_is)
      case F_told3 => refine' Cw.fnAt_mk KX G ?a ?l ?c ?k; (case a => k_is); (case l => k_is); (case c => k_is); (case k => k_is)
      case F_law => refine' Cw.funC1_mk KX G hmg ?a ?l ?c ?k; (case a => k_is); (case l => k_is); (case c => k_is); (case k => k_is)
      case F_Plan_init => refine' Cw.mAtD_mk ?a ?i ?l ?c ?k ?t ?v ?d; (case a => k_is); (case i => k_is); (case l => k_is); (case c => k_is); (case k => k_is); (case t => k_is); (case v => exact .cons rfl .nil); (case d => intro z; cases z)
      case F_Room_init => refine' Cw.mAtD_mk ?a ?i ?l ?c ?k ?t ?v ?d; (case a => k_is); (case i => k_is); (case l => k_is); (case c => k_is); (case k => k_is); (case t => k_is); (case v => exact .cons ⟨_, rfl⟩ .nil); (case d => intro z; cases z)
      case F_Plan_fits03 => refine' Cw.mAt_mk ?a ?i ?l ?c ?k; (case a => k_is); (case i => k_is); (case l => k_is); (case c => k_is); (case k => k_is)
      case F_Plan_rens03 => refine' Cw.mAt_mk ?a ?i ?l ?c ?k; (case a => k_is); (case i => k_is); (case l => k_is); (case c => k_is); (case k => k_is)
      case F_Motion_init => refine' Cw.mAtD_mk ?a ?i ?l ?c ?k ?t ?v ?d; (case a => k_is); (case i => k_is); (case l => k_is); (case c => k_is); (case k => k_is); (case t => k_is); (case v => exact .cons ⟨_, rfl⟩ (.cons rfl .nil)); (case d => intro z; cases z)
      case z_len => refine' PySem.W.mg_none_of KX G ?a; (case a => k_is)
      case z_int => refine' PySem.W.mg_none_of KX G ?a; (case a => k_is)
      case z_list => refine' PySem.W.mg_none_of KX G ?a; (case a => k_is)
      case z_isinstance => refine' PySem.W.mg_none_of KX G ?a; (case a => k_is)
      case z_str => refine' PySem.W.mg_none_of KX G ?a; (case a => k_is)
      case z_all => refine' PySem.W.mg_none_of KX G ?a; (case a => k_is)
      case z_set => refine' PySem.W.mg_none_of KX G ?a; (case a => k_is)
      case z_tuple => refine' PySem.W.mg_none_of KX G ?a; (case a => k_is)
      case z_range => refine' PySem.W.mg_none_of KX G ?a; (case a => k_is)
      case z_min => refine' PySem.W.mg_none_of KX G ?a; (case a => k_is)
      case z_bool => refine' PySem.W.mg_none_of KX G ?a; (case a => k_is)
      case z_super => refine' PySem.W.mg_none_of KX G ?a; (case a => k_is)
      case z_enumerate => refine' PySem.W.mg_none_of KX G ?a; (case a => k_is)
      case z_sorted => refine' PySem.W.mg_none_of KX G ?a; (case a => k_is)
      case n_C_kinds => unfold L2.NoAttr; k_is
      case n_C_pairs => unfold L2.NoAttr; k_is
      case n_C_own_crossing => unfold L2.NoAttr; k_is
      case n_R_plan => unfold L2.NoAttr; k_is
      case n_R_name => unfold L2.NoAttr; k_is
      case n_Mo_plan => unfold L2.NoAttr; k_is
      case n_Mo_home => unfold L2.NoAttr; k_is
      case n_Mo_renaming => unfold L2.NoAttr; k_is
      case g_LETTERS => refine' Cw.glob_mk KX G ?a; (case a => k_is)
      case g_MOST_KINDS => refine' Cw.glob_mk KX G ?a; (case a => k_is)
      case g_MOST_LETTERS => refine' Cw.glob_mk KX G ?a; (case a => k_is)
      case g_MOST_RENAMED => refine' Cw.glob_mk KX G ?a; (case a => k_is)
      case ke0 => first | k_is | k_exc | kernel_rfl
      case kIv => first | k_is | k_exc | kernel_rfl
      case kMm => first | k_is | k_exc | kernel_rfl
      case sIRIR => first | k_is | k_exc | kernel_rfl
      case sTMIR => first | k_is | k_exc | kernel_rfl
      case sTMTM => first | k_is | k_exc | kernel_rfl
    case b => exact .of_eq rfl
    case e1 => kernel_rfl
