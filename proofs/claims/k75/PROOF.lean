import PyProof.Rows.All
import Wide.All
import OpenK.AllK
import Wide.FinOn
import HandS.ForMost
import HandS.ForExc
import HandS.Wide
import HandS.Style
import HandS.Flow
import HandS.IsInst
import HandS.OwnEq
import PyProof.Rows.SetFrom
import PyProof.StrWalks
import PyProof.InstNe
import HandS.Exc
import HandS.Defaults
import HandS.Walk
import PyProof.Rows.StrRev
import HandS.Steps
import PySem.Challenge.RW_crosswalls_k75_closed_floors_met_and_joi
import KE.GoesMore
import HandS.TupLe
import HandS.ExcOwn
import HandS.ExcIs
import PyProof.ExcBaseAll.ValueError
import HandS.Iter
import HandS.Conv
import HandS.More
import HandS.WordsExc
import HandS.MakeKw
import HandS.MakeKwOnly
import PyProof.JoinWalk
import PyProof.CollectIter
import PyProof.DictWalks
import PyProof.FactsAll.dict_keyiterator_1
import PyProof.Rows.StrJoin2
import KE.KDictList
import HandS.TryOnly
import HandS.DeepEq
import PyProof.NeKinds
import HandS.Replace
import HandS.DictComp
import KE.GoesEnum
import HandS.Codes
import PyProof.FString5
import PyProof.ListStr
import HandS.SortInts
import HandS.SortKw
import HandS.Set
import HandS.SetFor
import KE.KOpsOwn
import PyProof.CallStr
import HandS.List
import HandS.RaiseMore
import HandS.Dict
import PyProof.DictUpdate
import HandS.Zip
import KE.KDictDisplayH
import HandS.SetKeys
import HandS.Text
import HandS.Deep
import HandS.Lambda
import HandS.Ends
import PyProof.ReprRoads
import HandS.EndTab
import KE.KStateDown
import HandS.Head0
import HandS.Head1
import HandS.Head2
import KE.KNestM
import HandS.Property
import HandS.ClsMeth
set_option Elab.async false
set_option maxRecDepth 100000
set_option maxHeartbeats 4000000
/-! Own words over the hand layer: defs by name, texts as lists of codes. -/
namespace Cw
open PySem PySem.Spec PyProof.Rows L2

/-! ### defs by their module name -/
/-- a def of the module stands as the text has it -/
structure FnAt (K : PySem.W.Frag) (mg : Str → Option Value) (x : Str) (st : Stmt) : Prop where
  ex : ∃ f fd, mg x = some (.ref f) ∧ Fun K x x st f fd
/-- how a def's arguments bind where all are given, and where it stands -/
structure Bd (K : PySem.W.Frag) (f : Addr) (fd : FuncData) (ps : List Str) : Prop where
  b : Binds K fd ps []
  lk : ∃ oc od osl, K.lookup f = some ⟨oc, od, .func fd, osl⟩
theorem funLk {K : PySem.W.Frag} {x qual : Str} {st : Stmt} {f : Addr} {fd : FuncData} (F : Fun K x qual st f fd) : ∃ oc od osl, K.lookup f = some ⟨oc, od, .func fd, osl⟩ := by
  obtain ⟨oc, od, kV, doc, pm, an, cdv, ct, osl, rfl, lk, _⟩ := F.ex
  exact ⟨oc, od, osl, lk⟩
/-- a def of the module keeps a promise -/
structure Def (P : Program) (w : World) (K : PySem.W.Frag) (mg : Str → Option Value) (base : Heap) (CX : CXT) (k : Nat) (x : Str) (ps : List Str) (sp : Sp) : Prop where
  ex : ∃ f fd, mg x = some (.ref f) ∧ PySem.W.keepIn K (.ref f) = true ∧ Bd K f fd ps ∧ FnOk P w K mg base CX k f fd ps sp
section
variable {P : Program} {w : World} {K : PySem.W.Frag} {mg : Str → Option Value} {base : Heap} {CX : CXT} {k : Nat} {x : Str} {ps N : List Str} {sp : Sp} {st : Stmt}
theorem Def.mono {j : Nat} (D : Def P w K mg base CX j x ps sp) (h : j ≤ k) : Def P w K mg base CX k x ps sp := by
  obtain ⟨f, fd, a, b, c, d⟩ := D.ex
  exact ⟨f, fd, a, b, c, d.mono h⟩
theorem Def.imp {sp' : Sp} (D : Def P w K mg base CX k x ps sp) (h : ∀ vs H Q E, sp' vs H Q E → sp vs H Q E) : Def P w K mg base CX k x ps sp' := by
  obtain ⟨f, fd, a, b, c, d⟩ := D.ex
  exact ⟨f, fd, a, b, c, d.imp h⟩
/-- a def that lets no exception out -/
theorem FnAt.ok (F : FnAt K mg x st) (S : FnScope N ps (defScope st))
    (hb : ∀ (kV doc pm : Value) (an : Option Addr) (cdv ct : Value) (us : List Value), us.length = ps.length → bindArgs (PySem.W.fnOf x x (defArgs st) (defBody st) (defScope st) .none kV doc pm an cdv ct) ⟨us, []⟩ = pure (ps.zip us))
    (len : ∀ vs H Q E, sp vs H Q E → vs.length = ps.length)
    (hbody : ∀ (f : Addr) (cdv : Value) (A : Around) (outer : List Env) (s : Shared) (H : Hp) (vs : List V) (Q : VK) (E : XK), Room k (A.deeper (envOfC x (defScope st) s.heap.objs.size f cdv)) → sp vs H Q E →
      ∃ t, PSs (cxOf CX0 P w K mg base N x (defScope st) f cdv A outer s H E).nox (defBody st) t ∧ t { nx := fun _ H' => Q .non H', rt := Q } (start N vs) H) : Def P w K mg base CX0 (k + 1) x ps sp := by
  obtain ⟨f, fd, hm, F⟩ := F.ex
  exact ⟨f, fd, hm, F.kp, ⟨F.binds hb, funLk F⟩, F.ok S len fun cdv A outer s H vs Q E hr h => hbody f cdv A outer s H vs Q E hr h⟩
/-- a def that may raise -/
theorem FnAt.okX (F : FnAt K mg x st) (S : FnScope N ps (defScope st))
    (hb : ∀ (kV doc pm : Value) (an : Option Addr) (cdv ct : Value) (us : List Value), us.length = ps.length → bindArgs (PySem.W.fnOf x x (defArgs st) (defBody st) (defScope st) .none kV doc pm an cdv ct) ⟨us, []⟩ = pure (ps.zip us))
    (len : ∀ vs H Q E, sp vs H Q E → vs.length = ps.length)
    (hbody : ∀ (f : Addr) (cdv : Value) (A : Around) (outer : List Env) (s : Shared) (H : Hp) (vs : List V) (Q : VK) (E : XK), Room k (A.deeper (envOfC x (defScope st) s.heap.objs.size f cdv)) → sp vs H Q E →
      ∃ t, PSs (cxOf (L2.CX P w) P w K mg base N x (defScope st) f cdv A outer s H E) (defBody st) t ∧ t { nx := fun _ H' => Q .non H', rt := Q } (start N vs) H) : Def P w K mg base (L2.CX P w) (k + 1) x ps sp := by
  obtain ⟨f, fd, hm, F⟩ := F.ex
  exact ⟨f, fd, hm, F.kp, ⟨F.binds hb, funLk F⟩, F.okX S len fun cdv A outer s H vs Q E hr h => hbody f cdv A outer s H vs Q E hr h⟩
end
section
variable {X : Cx} {CX : CXT} {k : Nat} {ps : List Str} {sp : Sp} {E : XK} {x : Str} {p pos : PySem.Pos} {e : Expr} {es : List Expr} {t : TA}
/-- f(e, ..) of a def that is known by its name -/
theorem pe_cd (D : Def X.prog X.w X.K X.mg X.base CX k x ps sp) (hr : Room k X.A) (hx : Passes CX X E) (ha : PA X (e :: es) t) (hg : Gl X x := by rfl) (hdb : (x == ("__debug__" : Str)) = false := by decide)
    (he : starEach (e :: es) X.env = (false, eval e X.env) :: starEach es X.env := by rfl) (hpl : (backTo pos (starEach es X.env)).any (·.1) = false := by rfl) : PE X (.Call (.Name x p) (e :: es) [] pos) (tCall sp [] E t) := by
  obtain ⟨f, fd, a, b, c, d⟩ := D.ex
  exact pe_call d hr hg a b c.b .nil hx ha hdb he hpl
end
/-! ### heaps -/
/-- all but the object at p is kept -/
def Keep (p : Addr) (H H' : Hp) : Prop := ∀ b o, H b = some o → b ≠ p → H' b = some o
theorem Keep.refl (p : Addr) (H : Hp) : Keep p H H := fun _ _ h _ => h
theorem Keep.trans {p : Addr} {H H1 H2 : Hp} (a : Keep p H H1) (b : Keep p H1 H2) : Keep p H H2 := fun c o h n => b c o (a c o h n) n
theorem Keep.of {p : Addr} {H H' : Hp} (a : Same H H') : Keep p H H' := fun c o h _ => a c o h
theorem Same.at {H H' : Hp} {a : Addr} {o : HO} (S : Same H H') (h : H a = some o) : H' a = some o := S a o h
theorem Keep.at {p : Addr} {H H' : Hp} {a : Addr} {o : HO} (S : Keep p H H') (h : H a = some o) (n : a ≠ p) : H' a = some o := S a o h n
theorem Same.new {H : Hp} {p : Addr} {o : HO} (h : H p = none) : Same H (upd H p o) := fun a u e => by
  rw [upd_ne (ne_of_none e h)]
  exact e
theorem Keep.put {p : Addr} {H : Hp} {o : HO} : Keep p H (upd H p o) := fun a u e n => by
  rw [upd_ne n]
  exact e
end Cw
set_option Elab.async false
set_option linter.all false
set_option maxRecDepth 100000
set_option maxHeartbeats 4000000
namespace Cw
open PySem PySem.Spec L2
/-! ### texts as lists of codes -/
abbrev tx (l : List Nat) : Str := ⟨l.toArray⟩
theorem tx_len (l : List Nat) : (tx l).length = l.length := by
  show (l.toArray).size = l.length
  simp
theorem tx_app (a b : List Nat) : tx a ++ tx b = tx (a ++ b) := by
  show (⟨a.toArray ++ b.toArray⟩ : Str) = ⟨(a ++ b).toArray⟩
  simp
theorem tx_eq {z : Str} : z = tx z.cps.toList := by
  cases z
  simp [tx]
theorem tx_inj {a b : List Nat} : tx a = tx b ↔ a = b := by
  constructor
  · intro h
    have := congrArg (fun z : Str => z.cps.toList) h
    simpa using this
  · intro h
    rw [h]
theorem dec_tx {a b : List Nat} : decide (V.str (tx a) = V.str (tx b)) = decide (a = b) := by
  rw [Bool.eq_iff_iff, decide_eq_true_iff, decide_eq_true_iff]
  constructor
  · intro h
    injection h with h
    exact tx_inj.mp h
  · intro h
    rw [h]

/-! ### stepping: expressions -/
section
variable {σ : St} {H : Hp} {Q : VK} {i : Nat} {v x y : V} {ta tb te : TE} {r : R2} {D : Ends} {K : PySem.W.Frag}
theorem e_c (q : Q v H) : tC v σ H Q := q
theorem e_op (q : ta σ H fun x H1 => tb σ H1 fun y H2 => r x y H2 Q) : tOp r ta tb σ H Q := q
theorem e_un {r : V → Hp → VK → Prop} (q : ta σ H fun x H1 => r x H1 Q) : tUn r ta σ H Q := q
theorem v_I0 {g : Int → Int → V} {a b : Int} (q : Q (g a b) H) : rI0 g (.int a) (.int b) H Q := ⟨a, b, rfl, rfl, q⟩
theorem v_I {C : Int → Int → Prop} {g : Int → Int → V} {a b : Int} (c : C a b) (q : Q (g a b) H) : rI C g (.int a) (.int b) H Q := ⟨a, b, rfl, rfl, c, q⟩
theorem v_eq (c : scal x y = true) (q : Q (.bl (decide (x = y))) H) : rEq x y H Q := ⟨c, q⟩
theorem v_ne (c : scal x y = true) (q : Q (.bl (!decide (x = y))) H) : rNe x y H Q := ⟨c, q⟩
theorem v_bl {P : Bool → Prop} {b : Bool} (q : P b) : ∃ k, V.bl b = V.bl k ∧ P k := ⟨b, rfl, q⟩
theorem v_int {P : Int → Prop} {b : Int} (q : P b) : ∃ k, V.int b = V.int k ∧ P k := ⟨b, rfl, q⟩
theorem v_str {P : Str → Prop} {b : Str} (q : P b) : ∃ k, V.str b = V.str k ∧ P k := ⟨b, rfl, q⟩
theorem e_andV (q : ta σ H fun x H1 => ∃ c, x = .bl c ∧ if c = true then tb σ H1 Q else Q (.bl false) H1) : tAndV ta tb σ H Q := q
theorem e_orV (q : ta σ H fun x H1 => ∃ c, x = .bl c ∧ if c = true then Q (.bl true) H1 else tb σ H1 Q) : tOrV ta tb σ H Q := q
theorem e_notV (q : ta σ H fun x H1 => ∃ c, x = .bl c ∧ Q (.bl (!c)) H1) : tNotV ta σ H Q := q
theorem e_if {t : TT} (q : t σ H fun c H1 => if c = true then ta σ H1 Q else tb σ H1 Q) : tIf t ta tb σ H Q := q
theorem e_nil {Q : List V → Hp → Prop} (q : Q [] H) : tNil σ H Q := q
theorem e_cons {tr : TA} {Q : List V → Hp → Prop} (q : ta σ H fun x H1 => tr σ H1 fun xs H2 => Q (x :: xs) H2) : tCons ta tr σ H Q := q
theorem e_cb {r : List V → Hp → VK → Prop} {t : TA} (q : t σ H fun vs H1 => r vs H1 Q) : tCB r t σ H Q := q
theorem e_call {sp : Sp} {E : XK} {t : TA} (q : t σ H fun vs H1 => sp vs H1 Q E) : tCall sp [] E t σ H Q := by
  show t σ H fun vs H1 => sp (vs ++ []) H1 Q E
  simpa using q
theorem e_fld {f : Str} (q : ta σ H fun x H1 => ∃ a C dx fs v, x = .ref a ∧ H1 a = some (.ins C dx fs) ∧ Cls K C ∧ NoAttr K C f ∧ fs.lookup f = some v ∧ Q v H1) : tFld K ta f σ H Q := q
theorem e_dget (q : ta σ H fun x H1 => tb σ H1 fun y H2 => ∃ a v, x = .ref a ∧ DGet H2 a y (some v) ∧ Q v H2) : tDGet ta tb σ H Q := q
theorem v_dget {P : V → Prop} {a : Addr} (h : DGet H a y (some v)) (q : P v) : ∃ a' v, V.ref a = .ref a' ∧ DGet H a' y (some v) ∧ P v := ⟨a, v, rfl, h, q⟩
theorem e_lst {t : TA} (q : t σ H fun xs H1 => xs.length ≤ sizeLine ∧ ∀ p H2, H1 p = none → H2 = upd H1 p (.lst xs) → Q (.ref p) H2) : tLst t σ H Q := by
  have e : (fun (xs : List V) (H1 : Hp) => xs.length ≤ sizeLine ∧ ∀ p H2, H1 p = none → H2 = upd H1 p (.lst xs) → Q (.ref p) H2) = (fun xs H1 => xs.length ≤ sizeLine ∧ ∀ p, H1 p = none → Q (.ref p) (upd H1 p (.lst xs))) := by
    funext xs H1
    exact propext ⟨fun h => ⟨h.1, fun p hp => h.2 p _ hp rfl⟩, fun h => ⟨h.1, fun p H2 hp e => e ▸ h.2 p hp⟩⟩
  rw [e] at q
  exact q
theorem e_tup {t : TA} (q : t σ H fun xs H1 => xs.length ≤ sizeLine ∧ ∀ p H2, H1 p = none → H2 = upd H1 p (.tup xs) → Q (.ref p) H2) : tTup t σ H Q := by
  have e : (fun (xs : List V) (H1 : Hp) => xs.length ≤ sizeLine ∧ ∀ p H2, H1 p = none → H2 = upd H1 p (.tup xs) → Q (.ref p) H2) = (fun xs H1 => xs.length ≤ sizeLine ∧ ∀ p, H1 p = none → Q (.ref p) (upd H1 p (.tup xs))) := by
    funext xs H1
    exact propext ⟨fun h => ⟨h.1, fun p hp => h.2 p _ hp rfl⟩, fun h => ⟨h.1, fun p H2 hp e => e ▸ h.2 p hp⟩⟩
  rw [e] at q
  exact q
theorem e_dnew (q : ∀ p H', H p = none → Same H H' → H' p = some (.dK []) → Q (.ref p) H') : tDNewK σ H Q := fun p h => q p _ h (Same.new h) upd_same
theorem szl {n : Nat} (h : n ≤ 1000000) : n ≤ sizeLine := Nat.le_trans h (by decide)
theorem szlt {n : Nat} (h : n < 1000000) : n < sizeLine := Nat.lt_of_lt_of_le h (by decide)
theorem v_lst {xs : List V} {P : Addr → Hp → Prop} (h : xs.length ≤ 1000000) (q : ∀ p H', H p = none → Same H H' → H' p = some (.lst xs) → P p H') : xs.length ≤ sizeLine ∧ ∀ p H2, H p = none → H2 = upd H p (.lst xs) → P p H2 := ⟨szl h, fun p H2 hp e => q p H2 hp (e ▸ Same.new hp) (e ▸ upd_same)⟩
theorem v_tup {xs : List V} {P : Addr → Hp → Prop} (h : xs.length ≤ 1000000) (q : ∀ p H', H p = none → Same H H' → H' p = some (.tup xs) → P p H') : xs.length ≤ sizeLine ∧ ∀ p H2, H p = none → H2 = upd H p (.tup xs) → P p H2 := ⟨szl h, fun p H2 hp e => q p H2 hp (e ▸ Same.new hp) (e ▸ upd_same)⟩
theorem v_ixL {p : Addr} {xs : List V} {a : Int} (h : H p = some (.lst xs)) (c : atI xs a = some v) (q : Q v H) : rIxL K (.ref p) (.int a) H Q := ⟨p, xs, a, v, rfl, rfl, SqL.of h, c, q⟩
theorem v_ixS {l : List Nat} {a : Int} {c : Nat} (h : l.length ≤ 1000000) (e : atI l a = some c) (q : Q (.str (tx [c])) H) : rIxS (.str (tx l)) (.int a) H Q := ⟨tx l, a, c, rfl, rfl, by rw [tx_len]; exact szl h, by simpa using e, q⟩
end
/-! ### named relations of built-in calls -/
def rInt : List V → Hp → VK → Prop := fun xs H Q => (∃ i, xs = [.int i] ∧ Q (.int i) H) ∨ ∃ k, xs = [.bl k] ∧ Q (.int (if k then 1 else 0)) H
theorem c_int {X : Cx} : CallR X (.type "int") rInt := call_int1
def rLen (K : PySem.W.Frag) : List V → Hp → VK → Prop := fun xs H Q => ∃ p ys, xs = [.ref p] ∧ (SqL K H p ys ∨ SqT K H p ys) ∧ Q (.int ys.length) H
theorem c_len {X : Cx} : CallR X (.builtin "len") (rLen X.K) := call_len_seq
def rLenS : List V → Hp → VK → Prop := fun xs H Q => ∃ x, xs = [.str x] ∧ x.length ≤ sizeLine ∧ Q (.int x.length) H
theorem c_lenS {X : Cx} : CallR X (.builtin "len") rLenS := call_len_str
section
variable {σ : St} {H : Hp} {Q : VK} {i : Nat} {v x y : V} {K : PySem.W.Frag}
theorem v_inti {a : Int} (q : Q (.int a) H) : rInt [.int a] H Q := .inl ⟨a, rfl, q⟩
theorem v_intb {k : Bool} (q : Q (.int (if k then 1 else 0)) H) : rInt [.bl k] H Q := .inr ⟨k, rfl, q⟩
theorem v_len {p : Addr} {ys : List V} (h : H p = some (.lst ys)) (q : Q (.int ys.length) H) : rLen K [.ref p] H Q := ⟨p, ys, rfl, .inl (SqL.of h), q⟩
theorem v_lenS {l : List Nat} (h : l.length ≤ 1000000) (q : Q (.int l.length) H) : rLenS [.str (tx l)] H Q := ⟨tx l, rfl, by rw [tx_len]; exact szl h, by rw [tx_len]; exact q⟩
end
/-! ### stepping: statements -/
section
variable {σ : St} {H : Hp} {i : Nat} {v : V} {te : TE} {tt u : TT} {t1 t2 : TS} {D : Ends}
theorem s_start {N : List Str} {vs : List V} {t : TS} (s0 : St) (h : start N vs = s0) (q : t D s0 H) : t D (start N vs) H := by rw [h]; exact q
theorem s_seq (q : t1 { D with nx := t2 D } σ H) : tSeq t1 t2 D σ H := q
theorem s_next (q : D.nx σ H) : tNext D σ H := q
theorem s_set (q : te σ H fun v H1 => D.nx (σ.set i (some v)) H1) : tAsg te (gName i) D σ H := q
theorem s_drop (q : te σ H fun _ H1 => D.nx σ H1) : tDrop te D σ H := q
theorem s_ret (q : te σ H D.rt) : tRet te D σ H := q
theorem s_if (q : tt σ H fun b H1 => if b = true then t1 D σ H1 else t2 D σ H1) : tIfS tt t1 t2 D σ H := q
theorem t_test {Q : Bool → Hp → Prop} (q : te σ H fun x H' => ∃ k, x = .bl k ∧ Q k H') : tTest te σ H Q := q
theorem t_B {Q : Bool → Hp → Prop} (q : te σ H fun x H' => ∃ k, x = .bl k ∧ Q k H') : tB te σ H Q := q
theorem t_and {Q : Bool → Hp → Prop} (q : tt σ H fun c H1 => if c = true then u σ H1 Q else Q false H1) : tAnd tt u σ H Q := q
theorem t_or {Q : Bool → Hp → Prop} (q : tt σ H fun c H1 => if c = true then Q true H1 else u σ H1 Q) : tOr tt u σ H Q := q
theorem t_not {Q : Bool → Hp → Prop} (q : tt σ H fun c H1 => Q (!c) H1) : tNot tt σ H Q := q
theorem s_dput {td ty tv : TE} (q : tv σ H fun v H1 => td σ H1 fun x H2 => ty σ H2 fun y H3 => ∃ a H4, x = .ref a ∧ DPut H3 a y v H4 ∧ D.nx σ H4) : sDPut td ty tv D σ H := q
theorem if_dec {c A B : Prop} [Decidable c] (h1 : c → A) (h2 : ¬ c → B) : if decide c = true then A else B := by
  by_cases h : c
  · rw [decide_eq_true h, if_pos rfl]; exact h1 h
  · rw [decide_eq_false h, if_neg Bool.false_ne_true]; exact h2 h
theorem if_ndec {c A B : Prop} [Decidable c] (h1 : ¬ c → A) (h2 : c → B) : if (!decide c) = true then A else B := by
  by_cases h : c
  · rw [decide_eq_true h]; exact iteF (h2 h)
  · rw [decide_eq_false h]; exact iteT (h1 h)
theorem if_bool {b : Bool} {A B : Prop} (h1 : b = true → A) (h2 : b = false → B) : if b = true then A else B := by
  cases b with
  | true => exact iteT (h1 rfl)
  | false => exact iteF (h2 rfl)
end

/-! ### cuts: what follows is shown once -/
section
variable {X : Cx} {σ : St} {H : Hp} {D : Ends} {t u : TS}
def tCutE (te : TE) : TE := fun σ H Q => ∃ Mid : V → Hp → Prop, te σ H Mid ∧ ∀ v H', Mid v H' → Q v H'
theorem pe_cut {e : Expr} {te : TE} (h : PE X e te) : PE X e (tCutE te) := by
  refine ⟨fun pins s σ H Q I q => ?_⟩
  obtain ⟨Mid, hm, hu⟩ := q
  exact thn (h.run pins s σ H Mid I hm) fun u s1 ⟨x, H1, I1, r1, q1⟩ => ⟨x, H1, I1, r1, hu x H1 q1⟩
theorem e_cut {te : TE} {Q : VK} (Mid : V → Hp → Prop) (h : te σ H Mid) (q : ∀ v H', Mid v H' → Q v H') : tCutE te σ H Q := ⟨Mid, h, q⟩
def tCutS (t u : TS) : TS := fun D σ H => ∃ Mid : St → Hp → Prop, t { D with nx := Mid } σ H ∧ ∀ σ' H', Mid σ' H' → u D σ' H'
theorem pss_cutS {st : Stmt} {rest : List Stmt} (h1 : PS X st t) (h2 : PSs X rest u) : PSs X (st :: rest) (tCutS t u) := by
  refine ⟨fun pins s σ H D I h => ?_⟩
  obtain ⟨Mid, hm, hu⟩ := h
  refine wpAny_execs_cons (thn (h1.run pins s σ H { D with nx := Mid } I hm) fun f s1 q => ?_)
  cases f with
  | next =>
    obtain ⟨σ', H', I', q⟩ := q
    exact h2.run pins s1 σ' H' D I' (hu σ' H' q)
  | ret v => exact q
  | brk => exact q
  | cont => exact q
theorem s_cut (Mid : St → Hp → Prop) (h : t { D with nx := Mid } σ H) (q : ∀ σ' H', Mid σ' H' → u D σ' H') : tCutS t u D σ H := ⟨Mid, h, q⟩
end
section
variable {σ : St} {H : Hp} {v y : V}
theorem v_put {P : Hp → Prop} {a : Addr} {o : HO} (h : DPut H a y v (upd H a o)) (q : ∀ H', Keep a H H' → H' a = some o → P H') : ∃ a' H4, V.ref a = .ref a' ∧ DPut H a' y v H4 ∧ P H4 := ⟨a, _, rfl, h, q _ Keep.put upd_same⟩
end
/-! ### data -/
theorem dp_ints {K : PySem.W.Frag} {H : Hp} : ∀ ns : List Int, DpAll K H (ns.map V.int) (ns.map PyData.int)
  | [] => .nil
  | n :: r => .cons (.int n) (dp_ints r)
theorem dp_strs {K : PySem.W.Frag} {H : Hp} : ∀ ns : List Str, DpAll K H (ns.map V.str) (ns.map PyData.str)
  | [] => .nil
  | n :: r => .cons (.str n) (dp_strs r)
theorem lay_ints : ∀ ns : List Int, PyData.canLayAll0 (ns.map PyData.int) = true
  | [] => rfl
  | n :: r => lay_ints r
theorem lay_strs : ∀ ns : List Str, (∀ x ∈ ns, PyData.strOk x = true) → PyData.canLayAll0 (ns.map PyData.str) = true
  | [], _ => rfl
  | n :: r, h => by
    show (PyData.strOk n && PyData.canLayAll0 (r.map PyData.str)) = true
    rw [h n (List.mem_cons_self ..), lay_strs r fun x hx => h x (List.mem_cons_of_mem _ hx)]
    rfl
theorem dep_ints : ∀ ns : List Int, PyData.depthAll (ns.map PyData.int) ≤ 1
  | [] => by decide
  | n :: r => Nat.max_le.mpr ⟨by show PyData.depth (.int n) ≤ 1; simp [PyData.depth], dep_ints r⟩
theorem dep_strs : ∀ ns : List Str, PyData.depthAll (ns.map PyData.str) ≤ 1
  | [] => by decide
  | n :: r => Nat.max_le.mpr ⟨by show PyData.depth (.str n) ≤ 1; simp [PyData.depth], dep_strs r⟩
theorem shaped_ints (ns : List Int) : SeqAt.shaped (.list (ns.map PyData.int)) = true := by
  have h := dep_ints ns
  have h2 : (PyData.list (ns.map PyData.int)).depth ≤ 64 := by simp only [PyData.depth]; omega
  have h3 : (PyData.list (ns.map PyData.int)).canLay0 = true := by simp only [PyData.canLay0]; exact lay_ints ns
  simp [SeqAt.shaped, h2, h3]
theorem shaped_strsT (ns : List Str) (h0 : ∀ x ∈ ns, PyData.strOk x = true) : SeqAt.shaped (.tuple (ns.map PyData.str)) = true := by
  have h := dep_strs ns
  have h2 : (PyData.tuple (ns.map PyData.str)).depth ≤ 64 := by simp only [PyData.depth]; omega
  have h3 : (PyData.tuple (ns.map PyData.str)).canLay0 = true := by simp only [PyData.canLay0]; exact lay_strs ns h0
  simp [SeqAt.shaped, h2, h3]
theorem shaped_nil : SeqAt.shaped (.list []) = true := shaped_ints []
theorem eqv_nil {ds : List PyData} : PyData.eqv (.list ds) (.list []) = ds.isEmpty := by
  cases ds <;> simp [PyData.eqv, PyData.eqvAll]
theorem eqvAll_strs : ∀ (a b : List Str), PyData.eqvAll (a.map PyData.str) (b.map PyData.str) = decide (a = b)
  | [], [] => by simp [PyData.eqvAll]
  | [], _ :: _ => by simp [PyData.eqvAll]
  | _ :: _, [] => by simp [PyData.eqvAll]
  | x :: a, y :: b => by
    simp only [List.map_cons, PyData.eqvAll, PyData.eqv, eqvAll_strs a b]
    by_cases e : x = y
    · subst e; simp
    · simp [e]
section
variable {H : Hp} {Q : VK} {K : PySem.W.Frag} {p q : Addr}
theorem v_neNilI {ns : List Int} (h : H p = some (.lst (ns.map V.int))) (hq : H q = some (.lst [])) (k : Q (.bl (!ns.isEmpty)) H) : rNeD K (.ref p) (.ref q) H Q := by
  refine ⟨.list (ns.map PyData.int), .list [], .lst (SqL.of h) (dp_ints ns), .lst (SqL.of hq) .nil, shaped_ints ns, shaped_nil, ?_⟩
  rw [eqv_nil, List.isEmpty_map]
  exact k
end
theorem ok_tx {l : List Nat} (h : ∀ c ∈ l, c < 1000) : PyData.strOk (tx l) = true := by
  show (l.toArray).all (fun c => decide (c < 0x110000)) = true
  rw [List.all_toArray, List.all_eq_true]
  intro c hc
  have := h c hc
  simp
  omega
theorem wdiv {i m : Int} (h : 0 < m) (h2 : m < 1000000) : CDivW i m := wide_div (b := 20) h (by omega) (by decide) (by decide)
end Cw
set_option Elab.async false
set_option linter.all false
set_option maxRecDepth 100000
set_option maxHeartbeats 4000000
/-! set(text), len(set(..)): a set of texts out of anything that is walked. -/
namespace Cw
open PySem PySem.Spec L2
/-- the different ones, in the order in which they are met -/
def metAdd (l : List Str) (z : Str) : List Str := if z ∈ l then l else l ++ [z]
def metOf (l : List Str) : List Str := l.foldl metAdd []
theorem metAdd_mem {l : List Str} {z y : Str} : y ∈ metAdd l z ↔ y ∈ l ∨ y = z := by
  unfold metAdd
  by_cases h : z ∈ l
  · rw [if_pos h]
    exact ⟨Or.inl, fun k => k.elim id fun e => e ▸ h⟩
  · rw [if_neg h, List.mem_append, List.mem_singleton]
theorem metOf_snoc (l : List Str) (z : Str) : metOf (l ++ [z]) = metAdd (metOf l) z := by
  unfold metOf
  rw [List.foldl_append]
  rfl
theorem metAdd_len (l : List Str) (z : Str) : (metAdd l z).length = if z ∈ l then l.length else l.length + 1 := by
  unfold metAdd
  split <;> simp
theorem metFold_len : ∀ (l acc : List Str), (l.foldl metAdd acc).length ≤ acc.length + l.length
  | [], acc => Nat.le_refl _
  | z :: r, acc => by
    have h1 := metFold_len r (metAdd acc z)
    have h2 := metAdd_len acc z
    rw [List.foldl_cons, List.length_cons]
    split at h2 <;> omega
theorem metOf_len (l : List Str) : (metOf l).length ≤ l.length := by
  have h := metFold_len l []
  simp only [List.length_nil, Nat.zero_add] at h
  exact h
theorem metFold_nodup : ∀ (l acc : List Str), (acc ++ l).Nodup → l.foldl metAdd acc = acc ++ l
  | [], acc, _ => by simp
  | z :: r, acc, h => by
    have hz : ¬ z ∈ acc := fun m => by
      have := (List.nodup_append.mp h).2.2 z m z (List.mem_cons_self ..)
      exact this rfl
    have e : metAdd acc z = acc ++ [z] := by unfold metAdd; rw [if_neg hz]
    rw [List.foldl_cons, e, metFold_nodup r (acc ++ [z]) (by simpa using h)]
    simp
theorem metOf_nodup {l : List Str} (h : l.Nodup) : metOf l = l := by
  unfold metOf
  rw [metFold_nodup l [] (by simpa using h)]
  rfl
/-- fewer, where one comes twice -/
theorem metFold_lt : ∀ (l acc : List Str), acc.Nodup → (¬ l.Nodup ∨ ∃ z, z ∈ l ∧ z ∈ acc) → (l.foldl metAdd acc).length < acc.length + l.length
  | [], acc, _, h => by
    rcases h with h | ⟨z, h, _⟩
    · exact absurd List.nodup_nil h
    · cases h
  | z :: r, acc, ha, h => by
    rw [List.foldl_cons, List.length_cons]
    have hl := metAdd_len acc z
    by_cases hz : z ∈ acc
    · rw [if_pos hz] at hl
      have h1 := metFold_len r (metAdd acc z)
      omega
    · rw [if_neg hz] at hl
      have e : metAdd acc z = acc ++ [z] := by unfold metAdd; rw [if_neg hz]
      have nd : (metAdd acc z).Nodup := by
        rw [e]
        exact nd_snoc ha hz
      have k : ¬ r.Nodup ∨ ∃ y, y ∈ r ∧ y ∈ metAdd acc z := by
        rcases h with h | ⟨y, h1, h2⟩
        · rw [List.nodup_cons] at h
          by_cases hr : z ∈ r
          · exact Or.inr ⟨z, hr, by rw [e]; simp⟩
          · exact Or.inl fun n => h ⟨hr, n⟩
        · rcases List.mem_cons.mp h1 with q | q
          · exact absurd (q ▸ h2) hz
          · exact Or.inr ⟨y, q, by rw [e]; simp [h2]⟩
      have h1 := metFold_lt r (metAdd acc z) nd k
      omega
theorem metOf_lt {l : List Str} (h : ¬ l.Nodup) : (metOf l).length < l.length := by
  have k := metFold_lt l [] List.nodup_nil (Or.inl h)
  simp only [List.length_nil, Nat.zero_add] at k
  exact k
/-- the set at a holds just the texts of l -/
abbrev SetIs (P : Program) (w : World) (h : Heap) (a : Addr) (l : List Str) : Prop := h.SetOf (PySem.strKind P w) a (fun z => decide (z ∈ l)) l.length
theorem SetIs.at {P : Program} {w : World} {h h' : Heap} {a : Addr} {l : List Str} (R : SetIs P w h a l) (k : ∀ o, h.get? a = some o → h'.get? a = some o) : SetIs P w h' a l := by
  obtain ⟨o, es, ep, t, ho, r⟩ := R
  exact ⟨o, es, ep, t, k o ho, r⟩
section
variable {P : Program} {w : World} {A : Around} {R : Result → Shared → Prop} {J : Addr} {fp wr : List Addr} {n : Nat} {Y : Nat → Value → Prop} {St : Nat → Heap → Prop}
theorem set_loop (W : Walks P w A.in1 J fp wr n Y St) (S : Addr) (hS : S ∉ fp) (xs : List Str) (hn : xs.length = n) (hy : ∀ i v, Y i v → ∃ x t, xs[i]? = some x ∧ v = .str x t) (hb : n + 1 < scanBound) :
    ∀ (k i : Nat) (s : Shared), n - i = k → i ≤ n → St i s.heap → SetIs P w s.heap S (metOf (xs.take i)) →
      (∀ h' tk, (∀ b o, b ∉ S :: wr → s.heap.get? b = some o → h'.get? b = some o) → SetIs P w h' S (metOf xs) → R (.ok (.ret .none)) { s with heap := h', toks := tk }) →
      codeAny (model P w) A (.builtin "set.update.loop" ⟨[.ref S, .ref J], []⟩) R s := by
  have hw : S ∉ wr := fun h => hS (W.sub _ h)
  intro k
  induction k with
  | zero =>
    intro i s hk hi st hset q
    have e : i = n := by omega
    subst e
    refine codeAny_builtin PyProof.Rows.F.entry_set_update_loop ?_
    rw [Around.under_plainId PyProof.Rows.F.plain_set_update_loop _]
    show wpAny _ A.in1 (pyNext (.ref J) >>= _) _ _ s
    refine wpAny_bind (W.done s _ _ st fun h' tk kp => ?_)
    show wpAny _ A.in1 (ret Value.none) _ _ _
    refine wpAny_pure (q h' tk (fun b o nb eb => kp b o (fun z => nb (List.mem_cons_of_mem _ z)) eb) ?_)
    rw [List.take_of_length_le (by omega)] at hset
    exact hset.at fun o eo => kp S o hw eo
  | succ k ih =>
    intro i s hk hi st hset q
    have hlt : i < n := by omega
    refine codeAny_builtin PyProof.Rows.F.entry_set_update_loop ?_
    rw [Around.under_plainId PyProof.Rows.F.plain_set_update_loop _]
    show wpAny _ A.in1 (pyNext (.ref J) >>= _) _ _ s
    refine wpAny_bind (W.item i s _ _ hlt st fun v h1 tk hv st1 kp => ?_)
    obtain ⟨x, t, hx, rfl⟩ := hy i v hv
    have hset1 := hset.at (h' := h1) fun o eo => kp S o hw eo
    show wpAny _ A.in1 (holding [Value.str x t] (setAdd S (.str x t)) >>= _) _ _ _
    refine wpAny_bind (wpAny_holding ?_)
    unfold setAdd
    refine wpAny_holding (wpAny_bind ((PySem.strKind P w).pyHash (k := x) (strKind_is _ _ _ _) ?_))
    have hroom : (metOf (xs.take i)).length + 1 < scanBound := by
      have h2 := metOf_len (xs.take i)
      rw [List.length_take] at h2
      omega
    refine wpAny_setAddHashed_of (knd := PySem.strKind P w) (s := { heap := h1, gens := s.gens, drawn := s.drawn, toks := tk + 1, os := s.os }) (strKind_is _ _ _ _) rfl hset1 hroom fun h2 sb hset2 => ?_
    have e1 : xs.take (i + 1) = xs.take i ++ [x] := by
      rw [List.take_add_one, hx]
      rfl
    have hset3 : SetIs P w h2 S (metOf (xs.take (i + 1))) := by
      refine PyProof.Rows.SetOf_congr hset2 (fun z => ?_) ?_
      · rw [e1, metOf_snoc, Bool.eq_iff_iff]
        simp only [Bool.or_eq_true, decide_eq_true_eq]
        exact metAdd_mem.symm
      · rw [e1, metOf_snoc, metAdd_len]
        simp only [decide_eq_true_eq]
    refine wpAny_pure ⟨plainId_quiet PyProof.Rows.F.plain_set_update_loop _, ih (i + 1) _ (by omega) hlt (W.frame _ _ _ st1 fun b hb o eo => ?_) hset3 fun h3 tk3 kp3 hs3 => ?_⟩
    · rw [sb.2 b fun z => hS (z ▸ hb)]
      exact eo
    · refine q h3 tk3 (fun b o nb eb => kp3 b o nb ?_) hs3
      show h2.get? b = some o
      rw [sb.2 b fun z => nb (z ▸ List.mem_cons_self ..)]
      exact kp b o (fun z => nb (List.mem_cons_of_mem _ z)) eb
end

/-! ### the call -/
abbrev freshSet (b : Bool) : Obj := { cls := .type "set", dict := none, data := .set #[] 0 (.fresh 0 0 b) }
section
variable {P : Program} {w : World} {A : Around} {E : Value → Shared → Prop} {s : Shared}
theorem set_of_text {x : Str} {t : Tok} {Q : Value → Shared → Prop} (hh : A.handled = none) (hb : x.cps.size + 1 < scanBound)
    (h : ∀ (h' : Heap) (tk : Nat), SetIs P w h' s.heap.objs.size (metOf (x.cps.toList.map fun c => (⟨#[c]⟩ : Str))) → (∀ b o, b < s.heap.objs.size → s.heap.get? b = some o → h'.get? b = some o) → Q (.ref s.heap.objs.size) { s with heap := h', toks := tk }) :
    wpAny (model P w) A (call (.type "set") [.str x t]) Q E s := by
  obtain ⟨c, tl, hmro⟩ := PySem.F.called_set.mro
  have hmade := PySem.F.called_set.made
  have hsub := PySem.F.called_set.sub
  refine wpAny_call (codeAny_of_tree ?_)
  show wpAny _ _ (callAny (.type "set") _) _ _ _
  refine wpAny_pure ⟨Code.quiet_builtin _ (by decide +kernel), codeAny_builtin PySem.F.entry_type_call ?_⟩
  rw [Around.under_plain (weight_type_call_type "set" [.str x t] []) rfl]
  have h1 := PySem.F.called_set.notType
  have h2 := PySem.F.called_set.canCreate
  have hct := PySem.F.typeCall_set_1 (.str x t)
  repeat (any_goals (first | assumption | wp_step))
  refine codeAny_mono (code_set_new_1 (.str x t) (E := E) (Q₁ := fun obj s1 => ∃ b : Bool, obj = .ref s.heap.objs.size ∧ s1 = { s with heap := s.heap.push (freshSet b) }) fun b => ⟨b, rfl, rfl⟩) fun r s1 hr => ?_
  cases r with
  | error e => exact hr
  | ok fl =>
    cases fl with
    | ret obj =>
      obtain ⟨b, rfl, rfl⟩ := hr
      have hS : (s.heap.push (freshSet b)).get? s.heap.objs.size = some (freshSet b) := Heap.get?_push_size _ rfl
      have hT : Shared.TypeIs { s with heap := s.heap.push (freshSet b) } (.ref s.heap.objs.size) "set" := ⟨_, hS, rfl⟩
      have hli := PySem.F.called_set.init.lookup
      have hbi := PySem.F.called_set.init.bind (.ref s.heap.objs.size)
      repeat (any_goals (first | assumption | wp_step))
      refine codeAny_mono (codeAny_call_builtin (R := wants (fun r s2 => r = .none ∧ ∃ h' tk, s2 = { s with heap := h', toks := tk } ∧ SetIs P w h' s.heap.objs.size (metOf (x.cps.toList.map fun c => (⟨#[c]⟩ : Str))) ∧
          (∀ b o, b < s.heap.objs.size → s.heap.get? b = some o → h'.get? b = some o)) E) PySem.F.called_set.init.plain PySem.F.entry_set_init (check_set_init_1 hT ?_)) fun r2 s2 hr2 => ?_
      · have k1 := F.sub_str_set
        have k2 := F.sub_str_frozenset
        have k3 : (Value.type "str" == Value.type "dict") = false := by decide
        unfold Builtin.«set.__init__» noKeywords Builtin.Frozenset.updateFrom
        generalize hPI : pyIter = PI
        wp_walk
        subst hPI
        refine wpAny_pyIter_str fun ob St hw st => ?_
        refine wpAny_bind (wpAny_runValue ?_)
        have hh3 : A.in1.in1.in1.handled = none := by simp [hh]
        have hne : s.heap.objs.size ∉ [(s.heap.push (freshSet b)).objs.size] := by
          rw [Heap.size_push, List.mem_singleton]
          exact Nat.ne_of_lt (Nat.lt_succ_self _)
        refine set_loop (hw _ hh3) s.heap.objs.size hne (x.cps.toList.map fun c => (⟨#[c]⟩ : Str)) (by simp) (fun i v hv => ?_) hb _ 0 _ rfl (Nat.zero_le _) st ?_ fun h' tk kp hs => ?_
        · obtain ⟨c, u, hc, rfl⟩ := hv
          exact ⟨⟨#[c]⟩, u, by simp [hc], rfl⟩
        · have hg : ((s.heap.push (freshSet b)).push ob).get? s.heap.objs.size = some (freshSet b) := Heap.get?_push_of_some _ hS
          exact PyProof.Rows.SetOf_congr ((PyProof.Rows.setObjOf_fresh (knd := PySem.strKind P w) b).setOf hg (by unfold scanBound; omega)) (fun z => by simp [metOf]) rfl
        · refine wpAny_pure ?_
          show wpAny _ _ (ret Value.none) _ _ _
          refine wpAny_pure ⟨rfl, h', tk, rfl, hs, fun a o ha eo => kp a o ?_ (Heap.get?_push_of_some _ (Heap.get?_push_of_some _ eo))⟩
          rw [Heap.size_push]
          simp only [List.mem_cons, List.not_mem_nil, or_false, not_or]
          exact ⟨Nat.ne_of_lt ha, Nat.ne_of_lt (Nat.lt_succ_of_lt ha)⟩
      · cases r2 with
        | error e => exact hr2
        | ok fl2 =>
          cases fl2 with
          | ret r =>
            obtain ⟨rfl, h', tk, rfl, hs', hk'⟩ := hr2
            repeat (any_goals (first | assumption | wp_step))
            exact h _ _ hs' hk'
          | _ => exact hr2.elim
    | _ => exact hr.elim
end
/-! ### over the layer -/
/-- a set of texts -/
def SetT (P : Program) (w : World) (a : Addr) (l : List Str) : HO := .ext fun h => SetIs P w h a l
theorem setT_new {P : Program} {w : World} {H : Hp} {h : Heap} {a : Addr} {l : List Str} (R : SetIs P w h a l) : ObjOk P w H h a (SetT P w a l) := by
  have ⟨o, _, _, _, ho, _⟩ := R
  exact ⟨R, ⟨o, ho⟩, fun h1 h2 q k => SetIs.at q k⟩
def rSetTx (P : Program) (w : World) : List V → Hp → VK → Prop := fun xs H Q => ∃ l : List Nat, xs = [.str (tx l)] ∧ l.length + 1 < scanBound ∧ ∀ p, H p = none → Q (.ref p) (upd H p (SetT P w p (metOf (l.map fun c => tx [c]))))
def rLenSet (P : Program) (w : World) : List V → Hp → VK → Prop := fun xs H Q => ∃ (p : Addr) (l : List Str), xs = [.ref p] ∧ H p = some (SetT P w p l) ∧ Q (.int l.length) H
section
variable {X : Cx}
theorem c_setS (hc : X.calm = true) : CallR X (.type "set") (rSetTx X.prog X.w) := by
  intro pins s σ H xs us Q I r h
  obtain ⟨l, rfl, hl, q⟩ := h
  obtain ⟨u, rfl, t, rfl⟩ := vals1 r
  refine set_of_text (I.ok.hd hc) (by simpa using hl) fun h' tk hs hk => ?_
  have hp : H s.heap.objs.size = none := I.hok.fresh (Nat.le_refl _)
  refine ⟨.ref s.heap.objs.size, upd H s.heap.objs.size (SetT X.prog X.w s.heap.objs.size (metOf (l.map fun c => tx [c]))), I.laid (h' := h') (t' := tk) (fun b o e => hk b o (Heap.lt_size e) e) (Nat.le_refl _) (setT_new ?_), rfl, q _ hp⟩
  simpa using hs
theorem c_lenSet : CallR X (.builtin "len") (rLenSet X.prog X.w) := by
  intro pins s σ H xs us Q I r h
  obtain ⟨p, l, rfl, hp, q⟩ := h
  obtain ⟨u, rfl, ru⟩ := vals1 r
  cases ru
  have hs : SetIs X.prog X.w s.heap p l := (I.hok p _ hp).1
  obtain ⟨o, es, ep, t, ho, hex, hd, h1, h2, h3, hf, hn⟩ := hs
  refine call_len_set ho hex hd hf ?_ ⟨.int l.length, H, I.tok _, ⟨_, by rw [hn]⟩, q⟩
  have : es.size < scanBound := h3
  unfold scanBound at this
  omega
end
theorem v_setS {P : Program} {w : World} {H : Hp} {Q : VK} {l : List Nat} (h : l.length < 1000) (q : ∀ p H', H p = none → Same H H' → H' p = some (SetT P w p (metOf (l.map fun c => tx [c]))) → Q (.ref p) H') : rSetTx P w [.str (tx l)] H Q :=
  ⟨l, rfl, by unfold scanBound; omega, fun p hp => q p _ hp (Same.new hp) upd_same⟩
theorem v_lenSet {P : Program} {w : World} {H : Hp} {Q : VK} {p : Addr} {l : List Str} (h : H p = some (SetT P w p l)) (q : Q (.int l.length) H) : rLenSet P w [.ref p] H Q := ⟨p, l, rfl, h, q⟩
end Cw
set_option Elab.async false
set_option linter.all false
set_option maxRecDepth 100000
set_option maxHeartbeats 4000000
/-! operators of classes of one's own -/
namespace PySem.W
open PySem PySem.Calls PyProof.Rows Builtin
section
variable {prog : Program} {w : World} {A : Around} {E : Value → Shared → Prop} {s : Shared} {K : Frag} {x C L f : Addr} {h0 : Heap} {m : Str → Option Value} {ox : Obj} {od : Option Obj} {b tb : Value}
theorem ifBound_obj {M : Model} {args : List Value} {name : Str} {id : String} {Q : Option Value → Shared → Prop} (X : K.In s.heap) (I : InstAt s.heap x ox C od) (hs : findIn K (.ref C) name = some (some (.builtin id)))
    (hbd : ∀ v, bindSpecial (.builtin id) v = pure (.builtin id, [v])) (h : wpAny M A (call (.builtin id) (.ref x :: args)) (fun v => Q (some v)) E s) : wpAny M A (callSpecialIfBound? (.ref x) name args) Q E s := by
  simp only [callSpecialIfBound?, bindSpecialIfBound?]
  refine wpAny_holding (wpAny_bind (wpAny_bind (wpAny_bind (I.type.here ((looks_findIn X hs).here ?_)))))
  have e := hbd (.ref x)
  simp only [e]
  have k : wpAny M A (call (.builtin id) ([.ref x] ++ args) >>= fun v => pure (some v)) Q E s := wpAny_bind (wpAny_mono h (fun _ _ z => wpAny_pure z) fun _ _ z => z)
  refine wpAny_bind (wpAny_askSetting (wpAny_ite ?_))
  split
  · exact wpAny_bind (wpAny_pure (wpAny_pure k))
  · exact wpAny_tryCatch (wpAny_bind (wpAny_pure (wpAny_pure k)))
theorem check_obj {M : Model} {id owner n : String} {rest : List Value} {Q : Unit → Shared → Prop} (X : K.In s.heap) (I : InstAt s.heap x ox C od) (hk : builtinKind id = some .slot) (hs : splitId id = some (owner, n))
    (ha : argsOk id ⟨.ref x :: rest, []⟩) (ho : subIn K (.ref C) (.type owner) = some true) (q : Q () s) : wpAny M A (checkBuiltinCall id ⟨.ref x :: rest, []⟩) Q E s := by
  simp only [checkBuiltinCall, hk, hs]
  unfold isInstance
  refine wpAny_bind (wpAny_bind (I.type.here ((looks_subIn X ho).here ?_)))
  rw [if_neg (by simp)]
  cases hsig : Manifest.signature? id with
  | none => exact wpAny_pure q
  | some sig =>
    simp only [argsOk, hsig] at ha
    have h2 : Bind.checkArgs id sig ⟨.ref x :: rest, []⟩ = pure () := ha
    show wpAny M A (Bind.checkArgs id sig ⟨.ref x :: rest, []⟩) Q E _
    rw [h2]
    exact wpAny_pure q
theorem neBody (X : K.In s.heap) (I : InstAt s.heap x ox C od) (hu : A.units < cLine) (hs : findIn K (.ref C) "__eq__" = some (some (.ref f))) (hf : isFn K (.ref f) = true) {Q : Fin → Shared → Prop}
    (h : wpAny (model prog w) A (call (.ref f) [.ref x, b]) (fun v s' => ∃ r, v = .bool r ∧ Q (.done (.ret (.bool (!r)))) s') E s) : wpAny (model prog w) A (Builtin.«object.__ne__» ⟨[.ref x, b], []⟩) Q E s := by
  unfold Builtin.«object.__ne__»
  refine wpAny_bind (m := slotArgs "__ne__" 1 _) (wpAny_pure ?_)
  refine wpAny_bind (wpAny_cRoomFor hu ?_)
  refine wpAny_bind (m := callSpecialIfBound? (.ref x) (Str.ofString "__eq__") [b]) (ifBound_K X I hs hf (wpAny_mono h (fun v s' z => ?_) fun _ _ z => z))
  obtain ⟨r, rfl, z⟩ := z
  exact wpAny_bind (wpAny_truthy_bool (wpAny_pure z))
/-- != of an object whose class has its own == and no != -/
theorem ne_own {Q : Value → Shared → Prop} (hu : A.units + 1 < cLine) (F : Fr h0 L s.heap m) (X0 : K.In h0) (I : InstAt s.heap x ox C od) (hb : Looks (model prog w) s.heap (typeOf b) tb) (hn : notFirst K C tb = true)
    (hne : findIn K (.ref C) "__ne__" = some (some (.builtin "object.__ne__"))) (ho : subIn K (.ref C) (.type "object") = some true) (hs : findIn K (.ref C) "__eq__" = some (some (.ref f))) (hf : isFn K (.ref f) = true)
    (h : wpAny (model prog w) A.in1 (call (.ref f) [.ref x, b]) (fun v s' => ∃ r, v = .bool r ∧ Q (.bool (!r)) s') E s) : wpAny (model prog w) A (richCompare .NotEq (.ref x) b) Q E s := by
  have X := X0.keeps F.keep
  have pl : plainId "object.__ne__" = true := by decide +kernel
  have one : wpAny (model prog w) A (tryCompare (.ref x) (cmpInfo .NotEq).2.1 b) (fun r s' => ∃ v, r = some v ∧ Q v s') E s := by
    unfold tryCompare
    refine wpAny_bind (ifBound_obj X I (id := "object.__ne__") hne (fun v => ?_) ?_)
    · exact (PySem.F.slot_tuple_iterator_ne).bind v
    · refine wpAny_call (codeAny_call_builtin pl PySem.F.cmpEntry_ne (check_obj X I PySem.F.cmpKind_ne PySem.F.cmpSplit_ne (PySem.F.cmpArgs_ne _ _) ho ?_))
      refine neBody (A := A.in1) X I hu hs hf (wpAny_mono h (fun v s' z => ?_) fun _ _ z => z)
      obtain ⟨r, rfl, z⟩ := z
      exact ⟨r, rfl, wpAny_pure ⟨_, rfl, z⟩⟩
  unfold richCompare
  simp only [oneThing_ref]
  refine wpAny_holding (wpAny_bind (wpAny_cRoomFor (Nat.lt_of_succ_lt hu) ?_))
  refine wpAny_bind (I.type.here (wpAny_bind (hb.here ?_)))
  have k : ∀ z : Bool, z = false → wpAny (model prog w) A (tryCompare (.ref x) (cmpInfo .NotEq).2.1 b) (fun r s' => ∃ v, r = some v ∧ Q v s') E s := fun _ _ => one
  split
  · rename_i q
    have e : subIn K tb (.ref C) = some false := by
      rcases Bool.or_eq_true_iff.mp hn with e | e
      · rw [beq_iff_eq.mp e] at q; simp at q
      · exact beq_iff_eq.mp e
    refine wpAny_bind ((looks_subIn X e).here ?_)
    simp only [Bool.false_eq_true, if_false]
    refine wpAny_bind (wpAny_mono one (fun r s' z => ?_) fun _ _ e => e)
    obtain ⟨v, rfl, z⟩ := z
    exact wpAny_pure z
  · refine wpAny_bind (wpAny_pure ?_)
    simp only [Bool.false_eq_true, if_false]
    refine wpAny_bind (wpAny_mono one (fun r s' z => ?_) fun _ _ e => e)
    obtain ⟨v, rfl, z⟩ := z
    exact wpAny_pure z
end
end PySem.W
set_option Elab.async false
set_option linter.all false
set_option maxRecDepth 100000
set_option maxHeartbeats 4000000
namespace Cw
open PySem PySem.Spec L2
/-! ### methods -/
structure MAt (K : PySem.W.Frag) (C : Addr) (m qual : Str) (st : Stmt) : Prop where
  ex : ∃ f fd, PySem.W.findIn K (.ref C) m = some (some (.ref f)) ∧ PySem.W.isFn K (.ref f) = true ∧ Fun K m qual st f fd
structure MDef (P : Program) (w : World) (K : PySem.W.Frag) (mg : Str → Option Value) (base : Heap) (CX : CXT) (k : Nat) (C : Addr) (m : Str) (ps : List Str) (sp : Sp) : Prop where
  ex : ∃ f fd, PySem.W.findIn K (.ref C) m = some (some (.ref f)) ∧ PySem.W.isFn K (.ref f) = true ∧ PySem.W.keepIn K (.ref f) = true ∧ Bd K f fd ps ∧ FnOk P w K mg base CX k f fd ps sp
section
variable {P : Program} {w : World} {K : PySem.W.Frag} {mg : Str → Option Value} {base : Heap} {CX : CXT} {k : Nat} {C : Addr} {m qual : Str} {ps N : List Str} {sp : Sp} {st : Stmt}
theorem MDef.mono {j : Nat} (D : MDef P w K mg base CX j C m ps sp) (h : j ≤ k) : MDef P w K mg base CX k C m ps sp := by
  obtain ⟨f, fd, a, b, c, d, e⟩ := D.ex
  exact ⟨f, fd, a, b, c, d, e.mono h⟩
theorem MDef.imp {sp' : Sp} (D : MDef P w K mg base CX k C m ps sp) (h : ∀ vs H Q E, sp' vs H Q E → sp vs H Q E) : MDef P w K mg base CX k C m ps sp' := by
  obtain ⟨f, fd, a, b, c, d, e⟩ := D.ex
  exact ⟨f, fd, a, b, c, d, e.imp h⟩
theorem MAt.ok (F : MAt K C m qual st) (S : FnScope N ps (defScope st))
    (hb : ∀ (kV doc pm : Value) (an : Option Addr) (cdv ct : Value) (us : List Value), us.length = ps.length → bindArgs (PySem.W.fnOf m qual (defArgs st) (defBody st) (defScope st) .none kV doc pm an cdv ct) ⟨us, []⟩ = pure (ps.zip us))
    (len : ∀ vs H Q E, sp vs H Q E → vs.length = ps.length)
    (hbody : ∀ (f : Addr) (cdv : Value) (A : Around) (outer : List Env) (s : Shared) (H : Hp) (vs : List V) (Q : VK) (E : XK), Room k (A.deeper (PyProof.Rows.envOfC qual (defScope st) s.heap.objs.size f cdv)) → sp vs H Q E →
      ∃ t, PSs (cxOf CX0 P w K mg base N qual (defScope st) f cdv A outer s H E).nox (defBody st) t ∧ t { nx := fun _ H' => Q .non H', rt := Q } (start N vs) H) : MDef P w K mg base CX0 (k + 1) C m ps sp := by
  obtain ⟨f, fd, h1, h2, F⟩ := F.ex
  exact ⟨f, fd, h1, h2, F.kp, ⟨F.binds hb, funLk F⟩, F.ok S len fun cdv A outer s H vs Q E hr h => hbody f cdv A outer s H vs Q E hr h⟩
theorem MAt.okX (F : MAt K C m qual st) (S : FnScope N ps (defScope st))
    (hb : ∀ (kV doc pm : Value) (an : Option Addr) (cdv ct : Value) (us : List Value), us.length = ps.length → bindArgs (PySem.W.fnOf m qual (defArgs st) (defBody st) (defScope st) .none kV doc pm an cdv ct) ⟨us, []⟩ = pure (ps.zip us))
    (len : ∀ vs H Q E, sp vs H Q E → vs.length = ps.length)
    (hbody : ∀ (f : Addr) (cdv : Value) (A : Around) (outer : List Env) (s : Shared) (H : Hp) (vs : List V) (Q : VK) (E : XK), Room k (A.deeper (PyProof.Rows.envOfC qual (defScope st) s.heap.objs.size f cdv)) → sp vs H Q E →
      ∃ t, PSs (cxOf (L2.CX P w) P w K mg base N qual (defScope st) f cdv A outer s H E) (defBody st) t ∧ t { nx := fun _ H' => Q .non H', rt := Q } (start N vs) H) : MDef P w K mg base (L2.CX P w) (k + 1) C m ps sp := by
  obtain ⟨f, fd, h1, h2, F⟩ := F.ex
  exact ⟨f, fd, h1, h2, F.kp, ⟨F.binds hb, funLk F⟩, F.okX S len fun cdv A outer s H vs Q E hr h => hbody f cdv A outer s H vs Q E hr h⟩
end
section
variable {X : Cx} {CX : CXT} {k : Nat} {C : Addr} {m : Str} {ps : List Str} {sp : Sp} {E : XK} {pos apos : PySem.Pos} {o e : Expr} {es : List Expr} {ta : TE} {t : TA}
/-- two instances of the class at C, by its own operator -/
def rM2 (C : Addr) (sp : Sp) (E : XK) : R2 := fun x y H Q => ∃ a b dx dy fs gs, x = .ref a ∧ y = .ref b ∧ H a = some (.ins C dx fs) ∧ H b = some (.ins C dy gs) ∧ sp [.ref a, .ref b] H Q E
def rM2n (C : Addr) (sp : Sp) (E : XK) : R2 := fun x y H Q => ∃ a b dx dy fs gs, x = .ref a ∧ y = .ref b ∧ H a = some (.ins C dx fs) ∧ H b = some (.ins C dy gs) ∧ sp [.ref a, .ref b] H (fun v H' => ∃ r, v = .bl r ∧ Q (.bl (!r)) H') E
theorem op_cmpM {op : CmpOp} (hop : ∀ u v, compareOp op u v = richCompare op u v) (D : MDef X.prog X.w X.K X.mg X.base CX k C (cmpInfo op).2.1 ps sp) (hr : Room k X.A) (hx : Passes CX X E) : OpR X (compareOp op) (rM2 C sp E) := by
  obtain ⟨f, fd, h1, h2, kp, ⟨hb, _⟩, F⟩ := D.ex
  intro pins s σ H x y v u Q I rx ry h
  obtain ⟨a, b, dx, dy, fs, gs, rfl, rfl, ha, hb', hq⟩ := h
  cases rx
  cases ry
  obtain ⟨mA, J, _⟩ := ins_get I.hok ha
  obtain ⟨mB, J', _⟩ := ins_get I.hok hb'
  obtain ⟨od, J, _⟩ := J.look
  obtain ⟨od', J', _⟩ := J'.look
  obtain ⟨mm, hF⟩ := I.fr
  rw [hop]
  refine PySem.W.cmp_K (op := op) (tb := .ref C) hr.units0 hF I.ok.mod.kin J J'.type (by simp [PySem.W.notFirst]) h1 h2 ?_
  have z := run_fn (us := [.ref a, .ref b]) (vs := [.ref a, .ref b]) (dvs := []) F hr hb .nil hx I (.cons rfl (.cons rfl .nil)) hq
  refine wpAny_mono z (fun v s' q => ?_) fun _ _ q => q
  obtain ⟨y, H', I', r, q⟩ := q
  have k : EP X pins σ Q v s' := ⟨y, H', I', r, q⟩
  cases v <;> first | exact k | (exfalso; cases y <;> first | (obtain ⟨_, r⟩ := r; cases r) | cases r)
theorem op_neM (D : MDef X.prog X.w X.K X.mg X.base CX k C "__eq__" ps sp) (hne : PySem.W.findIn X.K (.ref C) "__ne__" = some (some (.builtin "object.__ne__"))) (ho : PySem.W.subIn X.K (.ref C) (.type "object") = some true)
    (hr : Room (k + 1) X.A) (hx : Passes CX X E) : OpR X (compareOp .NotEq) (rM2n C sp E) := by
  obtain ⟨f, fd, h1, h2, kp, ⟨hb, _⟩, F⟩ := D.ex
  intro pins s σ H x y v u Q I rx ry h
  obtain ⟨a, b, dx, dy, fs, gs, rfl, rfl, ha, hb', hq⟩ := h
  cases rx
  cases ry
  obtain ⟨mA, J, _⟩ := ins_get I.hok ha
  obtain ⟨mB, J', _⟩ := ins_get I.hok hb'
  obtain ⟨od, J, _⟩ := J.look
  obtain ⟨od', J', _⟩ := J'.look
  obtain ⟨mm, hF⟩ := I.fr
  show wpAny (model X.prog X.w) X.A (richCompare .NotEq _ _) _ _ _
  refine PySem.W.ne_own (tb := .ref C) (hu_of hr) hF I.ok.mod.kin J J'.type (by simp [PySem.W.notFirst]) hne ho h1 h2 ?_
  have hl := F.len _ _ _ _ hq
  have r2 : Vals [V.ref a, V.ref b] [Value.ref a, Value.ref b] := .cons rfl (.cons rfl .nil)
  refine wpAny_call (codeAny_mono (F.run X.A.in1 X.stack s H ⟨[.ref a, .ref b], []⟩ [.ref a, .ref b] [.ref a, .ref b] _ E hr.in1 I.env0.in1 (by
    have := hb s [.ref a, .ref b] I.kIn (by simpa using hl)
    simpa using this) r2 hq) fun r s' hq => ?_)
  cases r with
  | error e => exact hx pins σ H s e s' I hq
  | ok fl =>
    cases fl with
    | ret w =>
      obtain ⟨z, H', I', rz, r, ez, q⟩ := I.after hq
      subst ez
      cases rz
      exact ⟨r, rfl, ⟨.bl (!r), H', I', rfl, q⟩⟩
    | next => exact False.elim hq
    | brk => exact False.elim hq
    | cont => exact False.elim hq
/-- len(o) -/
def rLenM (C : Addr) (sp : Sp) (E : XK) : List V → Hp → VK → Prop := fun xs H Q => ∃ a dx fs, xs = [.ref a] ∧ H a = some (.ins C dx fs) ∧ sp [.ref a] H (fun v H' => ∃ n : Nat, v = .int n ∧ n < 1000000 ∧ Q (.int n) H') E
end
section
variable {C : Addr} {sp : Sp} {E : XK} {H : Hp} {Q : VK} {a b dx dy : Addr} {fs gs : List (Str × V)}
theorem v_M2 (ha : H a = some (.ins C dx fs)) (hb : H b = some (.ins C dy gs)) (q : sp [.ref a, .ref b] H Q E) : rM2 C sp E (.ref a) (.ref b) H Q := ⟨a, b, dx, dy, fs, gs, rfl, rfl, ha, hb, q⟩
theorem v_M2n (ha : H a = some (.ins C dx fs)) (hb : H b = some (.ins C dy gs)) (q : sp [.ref a, .ref b] H (fun v H' => ∃ r, v = .bl r ∧ Q (.bl (!r)) H') E) : rM2n C sp E (.ref a) (.ref b) H Q := ⟨a, b, dx, dy, fs, gs, rfl, rfl, ha, hb, q⟩
theorem v_lenM (ha : H a = some (.ins C dx fs)) (q : sp [.ref a] H (fun v H' => ∃ n : Nat, v = .int n ∧ n < 1000000 ∧ Q (.int n) H') E) : rLenM C sp E [.ref a] H Q := ⟨a, dx, fs, rfl, ha, q⟩
end
end Cw
set_option Elab.async false
set_option linter.all false
set_option maxRecDepth 100000
set_option maxHeartbeats 4000000
namespace Cw
open PySem PySem.Spec L2
/-! ### texts as lists of codes: operators -/
def rTAdd : R2 := fun x y H Q => ∃ a b : List Nat, x = .str (tx a) ∧ y = .str (tx b) ∧ a.length + b.length ≤ 1000000 ∧ Q (.str (tx (a ++ b))) H
def rTLt : R2 := fun x y H Q => ∃ a b : List Nat, x = .str (tx a) ∧ y = .str (tx b) ∧ Q (.bl (decide (a < b))) H
section
variable {X : Cx}
theorem op_addS : OpR X (binaryOp .Add) rTAdd := by
  intro pins s σ H x y v u Q I rx ry h
  obtain ⟨a, b, rfl, rfl, hl, q⟩ := h
  refine op_add_str pins s σ H _ _ v u Q I rx ry ⟨tx a, tx b, rfl, rfl, ?_, ?_⟩
  · rw [tx_len, tx_len]; exact szl hl
  · rw [tx_app]; exact q
/-- text[::-1] -/
def tRevS (te : TE) : TE := fun σ H Q => te σ H fun x H1 => ∃ l : List Nat, x = .str (tx l) ∧ l.length ≤ 1000000 ∧ Q (.str (tx l.reverse)) H1
theorem pe_revS {e : Expr} {te : TE} {k : Nat} {p1 p2 p3 pos : PySem.Pos} (he : PE X e te) : PE X (.Subscript e (.Slice none none (some (.UnaryOp .USub (.Constant (.int 1) k p1) p2)) p3) pos) (tRevS te) := by
  refine ⟨fun pins s σ H Q I h => ?_⟩
  refine PyProof.Rows.Subscript_ (thn (he.run pins s σ H _ I h) fun v s1 ⟨x, H1, I1, r1, l, ex, hl, q⟩ => ?_)
  subst ex
  obtain ⟨t, rfl⟩ := r1
  have hst : PO X (some (.UnaryOp .USub (.Constant (.int 1) k p1) p2)) (tPart (tUn (rU fun i => .int (-i)) (tC (.int 1)))) := po_some (pe_un un_neg pe_int)
  refine wpAny_Slice (thn (po_none.run pins s1 σ H1 (fun o H2 => o = none ∧ H2 = H1) I1 ⟨rfl, rfl⟩) fun vl s2 ⟨o1, H2, I2, w1, e1, e2⟩ => ?_)
  subst e1 e2
  refine thn (po_none.run pins s2 σ H2 (fun o H3 => o = none ∧ H3 = H2) I2 ⟨rfl, rfl⟩) fun vu s3 ⟨o2, H3, I3, w2, e3, e4⟩ => ?_
  subst e3 e4
  refine thn (hst.run pins s3 σ H3 (fun o H4 => o = some (-1) ∧ H4 = H3) I3 ⟨1, rfl, -1, rfl, rfl, rfl⟩) fun vs s4 ⟨o3, H4, I4, w3, e5, e6⟩ => ?_
  subst e5 e6
  obtain ⟨l1, rfl, m1⟩ := IsPart.raw w1
  obtain ⟨l2, rfl, m2⟩ := IsPart.raw w2
  obtain ⟨l3, rfl, m3⟩ := IsPart.raw w3
  have I5 : Inv X pins σ H4 { s4 with heap := s4.heap.push { cls := .type "slice", data := .fields #[partValue l1, partValue l2, partValue l3] } } := I4.kept (t' := s4.toks) fun b ob q => Heap.get?_push_of_some _ q
  show wpAny (model X.prog X.w) X.A (PyProof.Rows.subscriptTail e (.Slice none none (some (.UnaryOp .USub (.Constant (.int 1) k p1) p2)) p3) (.str (tx l) t) (.ref s4.heap.objs.size)) (EP X pins σ Q) X.xe _
  refine PyProof.Rows.tail_any (ops := [.str (tx l) t, .ref s4.heap.objs.size]) (typeIs_str _ _ _) F.slot_str_getitem.lookup ?_ (by with_unfolding_all rfl)
  refine wpAny_getItem_str_slice (l := l1) (u := l2) (st := l3) ⟨_, Heap.get?_push_size _ rfl, rfl, rfl⟩ (by rw [m3]; rfl) ?_
  unfold sliceMade slicePicked
  rw [m1, m2, m3]
  have e : (⟨((Builtin.Str.strSliceIndices none none ((some (-1 : Int)).getD 1) (tx l).length).filterMap ((tx l).cps[·]?)).toArray⟩ : Str) = tx l.reverse := by
    show (⟨((Builtin.Str.strSliceIndices none none (-1) (tx l).length).filterMap ((tx l).cps[·]?)).toArray⟩ : Str) = tx l.reverse
    rw [PyProof.Rows.picked_rev, tx_len, PySem.W.krv_range]
    have k2 := PySem.W.krv_all (tx l).cps
    rw [show (tx l).cps.size = l.length from tx_len l] at k2
    rw [List.filterMap_reverse, k2]
  rw [e]
  rw [if_neg (by simp)]
  refine ⟨?_, .str (tx l.reverse), H4, I5.tok _, ⟨_, rfl⟩, q⟩
  rw [tx_len, List.length_reverse]
  exact szl hl
end
section
variable {σ : St} {H : Hp} {Q : VK}
theorem v_addS {a b : List Nat} (h : a.length + b.length ≤ 1000000) (q : Q (.str (tx (a ++ b))) H) : rTAdd (.str (tx a)) (.str (tx b)) H Q := ⟨a, b, rfl, rfl, h, q⟩
theorem v_ltS {a b : List Nat} (q : Q (.bl (decide (a < b))) H) : rTLt (.str (tx a)) (.str (tx b)) H Q := ⟨a, b, rfl, rfl, q⟩
theorem e_revS {te : TE} (q : te σ H fun x H1 => ∃ l : List Nat, x = .str (tx l) ∧ l.length ≤ 1000000 ∧ Q (.str (tx l.reverse)) H1) : tRevS te σ H Q := q
theorem v_revS {l : List Nat} {P : List Nat → Prop} (h : l.length ≤ 1000000) (q : P l) : ∃ l' : List Nat, V.str (tx l) = .str (tx l') ∧ l'.length ≤ 1000000 ∧ P l' := ⟨l, rfl, h, q⟩
end
end Cw
set_option Elab.async false
set_option linter.all false
set_option maxRecDepth 100000
set_option maxHeartbeats 4000000
namespace Cw
open PySem PySem.Spec L2
/-! ### constants and globals -/
section
variable {X : Cx} {x : Str} {pos : PySem.Pos} {j : Nat}
theorem pe_tx {kd : _} (l : List Nat) (h : x = tx l) : PE X (.Constant (.str x) kd pos) (tC (.str (tx l))) := by
  rw [h]
  exact pe_str
theorem pe_globS {z : Str} (h : ∃ t, X.mg x = some (.str z t)) (hg : Gl X x := by rfl) (hd : (x == ("__debug__" : Str)) = false := by decide) : PE X (.Name x pos) (tC (.str z)) := by
  obtain ⟨t, h⟩ := h
  exact pe_glob hg h ⟨t, rfl⟩ hd
theorem pe_globI {z : Int} (h : ∃ t, X.mg x = some (.int z t)) (hg : Gl X x := by rfl) (hd : (x == ("__debug__" : Str)) = false := by decide) : PE X (.Name x pos) (tC (.int z)) := by
  obtain ⟨t, h⟩ := h
  exact pe_glob hg h ⟨t, rfl⟩ hd
/-- a class of one's own as a value -/
theorem pe_globC {C : Addr} (h : X.mg x = some (.ref C)) (hg : Gl X x := by rfl) (hd : (x == ("__debug__" : Str)) = false := by decide) : PE X (.Name x pos) (tC (.ref C)) := pe_glob hg h rfl hd
end
/-! ### slices of texts -/
section
variable {σ : St} {H : Hp} {Q : VK} {te : TE} {tl th : TO} {K : PySem.W.Frag}
theorem e_sl {r : V → Option Int → Option Int → Hp → VK → Prop} (q : te σ H fun x H1 => tl σ H1 fun l H2 => th σ H2 fun u H3 => r x l u H3 Q) : tSl r te tl th σ H Q := q
theorem e_nopart {Q : Option Int → Hp → Prop} (q : Q none H) : tNoPart σ H Q := q
theorem e_part {Q : Option Int → Hp → Prop} (q : te σ H fun x H1 => ∃ i, x = .int i ∧ Q (some i) H1) : tPart te σ H Q := q
end
/-! ### join -/
def rJoinT (K : PySem.W.Frag) : V → List V → Hp → VK → Prop := fun x xs H Q => ∃ (p : Addr) (ls : List (List Nat)), x = .str (tx []) ∧ xs = [.ref p] ∧ (SqL K H p (ls.map fun l => V.str (tx l)) ∨ SqT K H p (ls.map fun l => V.str (tx l))) ∧ ls.flatten.length ≤ 1000000 ∧ Q (.str (tx ls.flatten)) H
theorem join_empty (ls : List (List Nat)) : Txt.join (tx []) (ls.map tx) = tx ls.flatten := by
  have e : ∀ ls : List (List Nat), TL.joinL [] ls = ls.flatten := by
    intro ls
    induction ls with
    | nil => rfl
    | cons p r ih =>
      cases r with
      | nil => simp [TL.joinL]
      | cons q r =>
        show p ++ ([] ++ TL.joinL [] (q :: r)) = _
        rw [ih]
        simp
  have h := TL.tl_join (tx []) (ls.map tx)
  have h2 : (Str.join (tx []) (ls.map tx)).cps.toList = ls.flatten := by
    refine Eq.trans h ?_
    show TL.joinL [] ((ls.map tx).map TL.tl) = _
    rw [List.map_map, e]
    congr 1
    have : (TL.tl ∘ tx) = id := by
      funext l
      show (tx l).cps.toList = l
      simp
    rw [this, List.map_id]
  have g : Txt.join (tx []) (ls.map tx) = Str.join (tx []) (ls.map tx) := by
    show Builtin.Str.glued _ _ = _
    rw [StrLaws.glued_eq_join]
  rw [g, tx_eq (z := Str.join (tx []) (ls.map tx)), h2]
section
variable {X : Cx} {o e : Expr} {to te : TE}
theorem mt_joinT : MtR X "str.join" (rJoinT X.K) := by
  intro pins s σ H x xs v us Q I rx rs h
  obtain ⟨p, ls, rfl, rfl, hp, hl, q⟩ := h
  refine mt_join pins s σ H _ _ v us Q I rx rs ⟨tx [], p, ls.map tx, rfl, rfl, ?_, ?_, ?_⟩
  · simpa [List.map_map, Function.comp_def] using hp
  · have e : ((ls.map tx).map (·.length)).sum = ls.flatten.length := by
      rw [List.map_map, List.length_flatten]
      exact congrArg List.sum (List.map_congr_left fun l _ => tx_len l)
    rw [e]
    have e0 : (tx []).length = 0 := rfl
    rw [e0]
    omega
  · rw [join_empty]
    exact q
theorem pe_joinT {apos pos : PySem.Pos} (ho : PE X o to) (he : PE X e te) (hs : starEach [e] X.env = [(false, eval e X.env)] := by rfl) (hbase : attributeBase o "join" X.env (eval o X.env) = eval o X.env := by rfl) (hline : (apos.endLine == pos.line) = true := by rfl) :
    PE X (.Call (.Attribute o "join" apos) [e] [] pos) (tM1 (rJoinT X.K) to te) := pe_m1 F.slot_str_join F.type_str_join mt_joinT ho he hs hbase hline
end
section
variable {σ : St} {H : Hp} {Q : VK} {to te : TE} {K : PySem.W.Frag}
theorem e_m1 {r : V → List V → Hp → VK → Prop} (q : to σ H fun x H1 => (∃ a, x = .str a) ∧ te σ H1 fun y H2 => r x [y] H2 Q) : tM1 r to te σ H Q := q
theorem v_isS {a : Str} {P : Prop} (q : P) : (∃ b, V.str a = .str b) ∧ P := ⟨⟨a, rfl⟩, q⟩
theorem v_join {p : Addr} {ls : List (List Nat)} (h : H p = some (.lst (ls.map fun l => V.str (tx l)))) (hl : ls.flatten.length ≤ 1000000) (q : Q (.str (tx ls.flatten)) H) : rJoinT K (.str (tx [])) [.ref p] H Q := ⟨p, ls, rfl, rfl, .inl (SqL.of h), hl, q⟩
/-! ### membership -/
theorem v_inS {c : Nat} {l : List Nat} (q : Q (.bl (decide (c ∈ l))) H) : rInS (.str (tx [c])) (.str (tx l)) H Q := ⟨c, tx l, rfl, rfl, by simpa using q⟩
theorem v_notInS {c : Nat} {l : List Nat} (q : Q (.bl (!decide (c ∈ l))) H) : rNotInS (.str (tx [c])) (.str (tx l)) H Q := ⟨c, tx l, rfl, rfl, by simpa using q⟩
theorem inV_tx {x : List Nat} : ∀ {ls : List (List Nat)}, inV (.str (tx x)) (ls.map fun l => V.str (tx l)) = decide (x ∈ ls)
  | [] => by simp [inV]
  | l :: r => by
    have ih := inV_tx (x := x) (ls := r)
    unfold inV at ih ⊢
    rw [List.map_cons, List.any_cons, ih]
    by_cases e : l = x
    · subst e
      simp [eqV]
    · have e2 : ¬ tx l = tx x := fun z => e (tx_inj.mp z)
      have e3 : ¬ x = l := fun z => e z.symm
      simp [eqV, e2, e3]
theorem flat_tx (ls : List (List Nat)) : (ls.map fun l => V.str (tx l)).all flatV = true := by
  rw [List.all_map]
  exact List.all_eq_true.mpr fun _ _ => rfl
theorem v_inL {x : List Nat} {ls : List (List Nat)} {p : Addr} (h : H p = some (.lst (ls.map fun l => V.str (tx l)))) (q : Q (.bl (decide (x ∈ ls))) H) : rIn K false (.str (tx x)) (.ref p) H Q :=
  ⟨p, _, rfl, .inl (SqL.of h), rfl, flat_tx ls, by rw [inV_tx]; exact q⟩
theorem v_inT {x : List Nat} {ls : List (List Nat)} {p : Addr} (h : SqT K H p (ls.map fun l => V.str (tx l))) (q : Q (.bl (decide (x ∈ ls))) H) : rIn K false (.str (tx x)) (.ref p) H Q :=
  ⟨p, _, rfl, .inr h, rfl, flat_tx ls, by rw [inV_tx]; exact q⟩
end
/-! ### comprehensions -/
theorem wipe1 {σ : St} {i : Nat} {x : Option V} : wipe ((wipe σ [i]).set i x) [i] = wipe σ [i] := by
  show (((σ.set i none).set i x).set i none) = σ.set i none
  rw [List.set_set, List.set_set]
section
variable {σ : St} {H : Hp} {Q : VK} {wi : TI} {g : TG} {tt : TT} {te t0 : TE} {i : Nat} {K : PySem.W.Frag}
/-- what a comprehension's new list is, item by item: Y tells the turn's items -/
theorem lc_gen {P : Addr → Hp → Prop} {J : It} {n : Nat} {G : Hp → Prop} {it : Nat → V} {b : Nat → Bool} {f : Nat → V} (w : Walk J n G (fun k H x H' => H' = H ∧ x = it k)) (hG : ∀ H', Same H H' → G H') (hn : n ≤ 1000000)
    (ht : ∀ k, k < n → ∀ H1, Same H H1 → ∀ R : Bool → Hp → Prop, (∀ H2, Same H1 H2 → R (b k) H2) → tt ((wipe σ [i]).set i (some (it k))) H1 R)
    (he : ∀ k, k < n → b k = true → ∀ H1, Same H H1 → ∀ R : VK, (∀ H2, Same H1 H2 → R (f k) H2) → te ((wipe σ [i]).set i (some (it k))) H1 R)
    (q : ∀ D H', H D = none → Same H H' → H' D = some (.lst (((List.range n).filter b).map f)) → P D H') :
    ∀ D, H D = none → ∃ W : Nat → Nat → Hp → Prop, (∃ m, W 0 m (upd H D (.lst []))) ∧ ∀ k m H, W k m H →
      (J.stop k H ∧ P D H) ∨ (J.go k H ∧ ∃ Nx : Hp → Prop, (∀ H', Nx H' → ∃ m', m' < m ∧ W (k + 1) m' H') ∧ ∀ x H', J.yld k H x H' → (gName i) x (wipe σ [i]) H' fun s2 H2 => wipe s2 [i] = wipe σ [i] ∧ tt s2 H2 fun c H3 =>
        if c = true then te s2 H3 fun y H4 => ∃ acc, H4 D = some (.lst acc) ∧ acc.length < sizeLine ∧ Nx (upd H4 D (.lst (acc ++ [y]))) else Nx H3) := by
  intro D hD
  refine lc_it w (vs := [i]) (σ := σ) (g := gName i) (tt := tt) (te := te) (Qd := fun H' => P D H') (fun k H' => Same H H' ∧ H' D = some (.lst (((List.range k).filter b).map f)))
    ⟨Same.new hD, upd_same⟩ (fun k H' _ p => hG H' p.1) (fun k x H1 H2 hk p y => ?_) (fun H' p => q D H' hD p.1 p.2)
  obtain ⟨p1, p2⟩ := p
  obtain ⟨rfl, rfl⟩ := y
  refine ⟨wipe1, ht k hk _ p1 _ fun H3 s3 => ?_⟩
  have e1 : (List.range (k + 1)).filter b = (List.range k).filter b ++ (if b k = true then [k] else []) := by
    rw [List.range_succ, List.filter_append]
    congr 1
    by_cases c : b k = true
    · simp [c]
    · simp [c]
  by_cases c : b k = true
  · rw [if_pos c]
    refine he k hk c _ (p1.trans s3) _ fun H4 s4 => ?_
    refine ⟨_, s4 _ _ (s3 _ _ p2), ?_, fun a o ha => ?_, ?_⟩
    · rw [List.length_map]
      have h1 := List.length_filter_le b (List.range k)
      rw [List.length_range] at h1
      exact szlt (by omega)
    · rw [upd_ne (ne_of_none ha hD)]
      exact s4 _ _ (s3 _ _ (p1 _ _ ha))
    · rw [upd_same, e1, if_pos c, List.map_append]
      rfl
  · rw [if_neg c]
    refine ⟨p1.trans s3, ?_⟩
    rw [e1, if_neg c, List.append_nil]
    exact s3 _ _ p2
theorem e_lc {vs : List Nat} (q : wi σ H fun J H1 => ∀ D, H1 D = none → ∃ W : Nat → Nat → Hp → Prop, (∃ m, W 0 m (upd H1 D (.lst []))) ∧ ∀ i m H, W i m H →
    (J.stop i H ∧ Q (.ref D) H) ∨ (J.go i H ∧ ∃ Nx : Hp → Prop, (∀ H', Nx H' → ∃ m', m' < m ∧ W (i + 1) m' H') ∧ ∀ x H', J.yld i H x H' → g x (wipe σ vs) H' fun s2 H2 => wipe s2 vs = wipe σ vs ∧ tt s2 H2 fun b H3 =>
      if b = true then te s2 H3 fun y H4 => ∃ acc, H4 D = some (.lst acc) ∧ acc.length < sizeLine ∧ Nx (upd H4 D (.lst (acc ++ [y]))) else Nx H3)) : tLc wi g tt te vs σ H Q := q
theorem range_map {α : Type} (l : List Nat) (b : Nat → Bool) (f : Nat → α) : ((List.range l.length).filter fun k => b (l.getD k 0)).map (fun k => f (l.getD k 0)) = (l.filter b).map f := by
  have e : l = (List.range l.length).map fun k => l.getD k 0 := by
    apply List.ext_getElem
    · simp
    · intro j h1 h2
      simp [List.getD, h1]
  conv => rhs; rw [e, List.filter_map, List.map_map]
  rfl
/-- [e for c in text if t] -/
theorem v_lcS {P : Addr → Hp → Prop} {l : List Nat} {b : Nat → Bool} {f : Nat → V} (hn : l.length ≤ 1000000)
    (ht : ∀ c, c ∈ l → ∀ H1, Same H H1 → ∀ R : Bool → Hp → Prop, (∀ H2, Same H1 H2 → R (b c) H2) → tt ((wipe σ [i]).set i (some (.str (tx [c])))) H1 R)
    (he : ∀ c, c ∈ l → b c = true → ∀ H1, Same H H1 → ∀ R : VK, (∀ H2, Same H1 H2 → R (f c) H2) → te ((wipe σ [i]).set i (some (.str (tx [c])))) H1 R)
    (q : ∀ D H', H D = none → Same H H' → H' D = some (.lst ((l.filter b).map f)) → P D H') :
    ∀ D, H D = none → ∃ W : Nat → Nat → Hp → Prop, (∃ m, W 0 m (upd H D (.lst []))) ∧ ∀ k m H, W k m H →
      ((Its (tx l)).stop k H ∧ P D H) ∨ ((Its (tx l)).go k H ∧ ∃ Nx : Hp → Prop, (∀ H', Nx H' → ∃ m', m' < m ∧ W (k + 1) m' H') ∧ ∀ x H', (Its (tx l)).yld k H x H' → (gName i) x (wipe σ [i]) H' fun s2 H2 => wipe s2 [i] = wipe σ [i] ∧ tt s2 H2 fun c H3 =>
        if c = true then te s2 H3 fun y H4 => ∃ acc, H4 D = some (.lst acc) ∧ acc.length < sizeLine ∧ Nx (upd H4 D (.lst (acc ++ [y]))) else Nx H3) := by
  have mem : ∀ k, k < l.length → l.getD k 0 ∈ l := fun k hk => by
    rw [List.getD_eq_getElem?_getD, List.getElem?_eq_getElem hk]
    exact List.getElem_mem hk
  have w : Walk (Its (tx l)) l.length (fun _ => True) (fun k H x H' => H' = H ∧ x = .str (tx [l.getD k 0])) := by
    refine ⟨fun k H hk _ => by show k < (tx l).cps.size; simpa using hk, fun H _ => by show (tx l).cps.size ≤ l.length; simp, fun k H x H' hk _ y => ?_⟩
    obtain ⟨e, c, hc, rfl⟩ := y
    refine ⟨e, ?_⟩
    have hc : l[k]? = some c := by simpa using hc
    rw [List.getD_eq_getElem?_getD, hc]
    rfl
  refine lc_gen (b := fun k => b (l.getD k 0)) (f := fun k => f (l.getD k 0)) w (fun _ _ => trivial) hn (fun k hk H1 s1 R r => ht _ (mem k hk) H1 s1 R r) (fun k hk c H1 s1 R r => he _ (mem k hk) c H1 s1 R r) (fun D H' hD s' e => q D H' hD s' ?_)
  rw [e, range_map]
end
end Cw
set_option Elab.async false
set_option linter.all false
set_option maxRecDepth 100000
set_option maxHeartbeats 4000000
namespace Cw
open PySem PySem.Spec L2
/-! ### a comprehension of two fors over texts -/
theorem lc_in {J : It} {n : Nat} {G : Hp → Prop} {Y : Nat → Hp → V → Hp → Prop} (w : Walk J n G Y) {g : TG} {tt : TT} {te : TE} {vs : List Nat} {σ : St} {H1 : Hp} {D : Addr} {Qd : Hp → Prop} (Pv : Nat → Hp → Prop) (h0 : Pv 0 H1) (hG : ∀ i H, i ≤ n → Pv i H → G H)
    (hs : ∀ i x H H', i < n → Pv i H → Y i H x H' → g x (wipe σ vs) H' fun s2 H2 => wipe s2 vs = wipe σ vs ∧ tt s2 H2 fun b H3 =>
      if b = true then te s2 H3 fun y H4 => ∃ acc, H4 D = some (.lst acc) ∧ acc.length < sizeLine ∧ Pv (i + 1) (upd H4 D (.lst (acc ++ [y]))) else Pv (i + 1) H3) (hd : ∀ H, Pv n H → Qd H) :
    ∃ W : Nat → Nat → Hp → Prop, (∃ m, W 0 m H1) ∧ ∀ i m H, W i m H →
      (J.stop i H ∧ Qd H) ∨ (J.go i H ∧ ∃ Nx : Hp → Prop, (∀ H', Nx H' → ∃ m', m' < m ∧ W (i + 1) m' H') ∧ ∀ x H', J.yld i H x H' → g x (wipe σ vs) H' fun s2 H2 => wipe s2 vs = wipe σ vs ∧ tt s2 H2 fun b H3 =>
        if b = true then te s2 H3 fun y H4 => ∃ acc, H4 D = some (.lst acc) ∧ acc.length < sizeLine ∧ Nx (upd H4 D (.lst (acc ++ [y]))) else Nx H3) := by
  refine ⟨fun i m H => m = n - i ∧ i ≤ n ∧ Pv i H, ⟨n, rfl, Nat.zero_le _, h0⟩, ?_⟩
  rintro i m H ⟨rfl, hi, p⟩
  by_cases c : i < n
  · exact Or.inr ⟨w.goes i H c (hG i H hi p), Pv (i + 1), fun H' p' => ⟨_, by omega, rfl, c, p'⟩, fun x H' y => hs i x H H' c p (w.yields i H x H' c (hG i H hi p) y)⟩
  · have e : i = n := by omega
    rw [e] at p ⊢
    exact Or.inl ⟨w.stops H (hG n H (Nat.le_refl _) p), hd H p⟩
theorem walk_tx (l : List Nat) : Walk (Its (tx l)) l.length (fun _ => True) (fun k H x H' => H' = H ∧ x = .str (tx [l.getD k 0])) := by
  refine ⟨fun k H hk _ => by show k < (tx l).cps.size; simpa using hk, fun H _ => by show (tx l).cps.size ≤ l.length; simp, fun k H x H' hk _ y => ?_⟩
  obtain ⟨e, c, hc, rfl⟩ := y
  refine ⟨e, ?_⟩
  have hc : l[k]? = some c := by simpa using hc
  rw [List.getD_eq_getElem?_getD, hc]
  rfl
theorem getD_mem {l : List Nat} {k : Nat} (hk : k < l.length) : l.getD k 0 ∈ l := by
  rw [List.getD_eq_getElem?_getD, List.getElem?_eq_getElem hk]
  exact List.getElem_mem hk
theorem take_getD {l : List Nat} {k : Nat} (hk : k < l.length) : l.take (k + 1) = l.take k ++ [l.getD k 0] := by
  rw [List.take_add_one, List.getD_eq_getElem?_getD, List.getElem?_eq_getElem hk]
  rfl
section
variable {σ : St} {H : Hp} {Q : VK} {tt1 : TT} {te t1 : TE} {i j : Nat}
theorem v_lc2S {la lb : List Nat} {b : Nat → Nat → Bool} {f : Nat → Nat → V} (hij : i ≠ j) (hsz : la.length * lb.length < 1000000)
    (h1 : ∀ c, c ∈ la → ∀ H1, Same H H1 → ∀ R : VK, R (.str (tx lb)) H1 → t1 (((σ.set j none).set i none).set i (some (.str (tx [c])))) H1 R)
    (ht : ∀ c d, c ∈ la → d ∈ lb → ∀ H1, Same H H1 → ∀ R : Bool → Hp → Prop, (∀ H2, Same H1 H2 → R (b c d) H2) → tt1 (((((σ.set j none).set i none).set i (some (.str (tx [c])))).set j none).set j (some (.str (tx [d])))) H1 R)
    (he : ∀ c d, c ∈ la → d ∈ lb → b c d = true → ∀ H1, Same H H1 → ∀ R : VK, (∀ H2, Same H1 H2 → R (f c d) H2) → te (((((σ.set j none).set i none).set i (some (.str (tx [c])))).set j none).set j (some (.str (tx [d])))) H1 R)
    (q : ∀ D H', H D = none → Same H H' → H' D = some (.lst (la.flatMap fun c => (lb.filter (b c)).map (f c))) → Q (.ref D) H') :
    tLc2 (iStr (tC (.str (tx la)))) (gName i) tYes (iStr t1) (gName j) tt1 te [i, j] [j] σ H Q := by
  refine ⟨tx la, rfl, fun D hD => ?_⟩
  have len : ∀ l : List Nat, (l.flatMap fun c => (lb.filter (b c)).map (f c)).length ≤ l.length * lb.length := by
    intro l
    induction l with
    | nil => simp
    | cons c r ih =>
      rw [List.flatMap_cons, List.length_append, List.length_map, List.length_cons, Nat.succ_mul]
      have := List.length_filter_le (b c) lb
      omega
  refine ⟨fun k m H' => m = la.length - k ∧ k ≤ la.length ∧ Same H H' ∧ H' D = some (.lst ((la.take k).flatMap fun c => (lb.filter (b c)).map (f c))), ⟨_, rfl, Nat.zero_le _, Same.new hD, upd_same⟩, ?_⟩
  rintro k m H1 ⟨rfl, hk, s1, e1⟩
  have w := walk_tx la
  by_cases c : k < la.length
  · refine Or.inr ⟨w.goes k H1 c trivial, fun H' => Same H H' ∧ H' D = some (.lst ((la.take (k + 1)).flatMap fun c => (lb.filter (b c)).map (f c))), fun H' p => ⟨_, by omega, rfl, c, p.1, p.2⟩, fun x H2 y => ?_⟩
    obtain ⟨rfl, rfl⟩ := w.yields k H1 x H2 c trivial y
    have hm := getD_mem c
    refine ⟨?_, ?_⟩
    · show ((((σ.set j none).set i none).set i _).set j none).set i none = (σ.set j none).set i none
      rw [List.set_comm _ _ hij.symm, List.set_set, List.set_set, List.set_comm _ _ hij, List.set_set]
    · unfold tYes
      refine iteT ?_
      refine h1 _ hm _ s1 _ ⟨tx lb, rfl, ?_⟩
      refine lc_in (walk_tx lb) (fun z H' => Same H H' ∧ H' D = some (.lst (((la.take k).flatMap fun c => (lb.filter (b c)).map (f c)) ++ ((lb.take z).filter (b (la.getD k 0))).map (f (la.getD k 0))))) ⟨s1, by simpa using e1⟩ (fun _ _ _ _ => trivial) ?_ ?_
      · rintro z x H3 H4 hz ⟨s3, e3⟩ ⟨rfl, rfl⟩
        have hm2 := getD_mem hz
        have et := take_getD hz
        refine ⟨?_, ht _ _ hm hm2 _ s3 _ fun H5 s5 => ?_⟩
        · exact wipe1
        · show (if b (la.getD k 0) (lb.getD z 0) = true then _ else _)
          by_cases cb : b (la.getD k 0) (lb.getD z 0) = true
          · rw [if_pos cb]
            refine he _ _ hm hm2 cb _ (s3.trans s5) _ fun H6 s6 => ⟨_, s6 _ _ (s5 _ _ e3), ?_, fun a o ha => ?_, ?_⟩
            · have n1 := len (la.take k)
              have n2 : ((lb.take z).filter (b (la.getD k 0))).length ≤ z := by
                have := List.length_filter_le (b (la.getD k 0)) (lb.take z)
                rw [List.length_take] at this
                omega
              rw [List.length_append, List.length_map]
              rw [List.length_take, Nat.min_eq_left (by omega)] at n1
              have n3 : k * lb.length + lb.length ≤ la.length * lb.length := by
                rw [← Nat.succ_mul]
                exact Nat.mul_le_mul_right _ c
              exact szlt (by omega)
            · rw [upd_ne (ne_of_none ha hD)]
              exact s6 _ _ (s5 _ _ (s3 _ _ ha))
            · rw [upd_same, et, List.filter_append, List.map_append, List.append_assoc, List.filter_cons, if_pos cb]
              rfl
          · rw [if_neg cb]
            refine ⟨s3.trans s5, ?_⟩
            rw [s5 _ _ e3, et, List.filter_append, List.filter_cons, if_neg cb, List.filter_nil, List.append_nil]
      · rintro H' ⟨s', e'⟩
        refine ⟨s', ?_⟩
        rw [e', take_getD c, List.flatMap_append, List.take_of_length_le (Nat.le_refl _)]
        simp
  · have e : k = la.length := by omega
    subst e
    refine Or.inl ⟨w.stops H1 trivial, q D H1 hD s1 ?_⟩
    rw [e1, List.take_of_length_le (Nat.le_refl _)]
end
end Cw
set_option Elab.async false
set_option linter.all false
set_option maxRecDepth 100000
set_option maxHeartbeats 4000000
/-! plain words about plans -/
namespace Cw
open PySem L2
def LET : List Nat := [97, 98, 99, 100, 101, 102, 103, 104, 105, 106, 107, 108, 109, 110, 111, 112, 113, 114, 115, 116, 117, 118, 119, 120, 121, 122]
def ascOf (l : List Nat) : List Nat := LET.filter fun c => decide (c ∈ l)
def pairsOf (found : List (List Nat)) : List (List Nat) := LET.flatMap fun a => (LET.filter fun b => decide ([a, b] ∈ found)).map fun b => [a, b]
def crossOf (ks : List Nat) (ps : List (List Nat)) (k : Nat) : List Nat := ks.filter fun o => decide ([k, o] ∈ ps) || decide ([o, k] ∈ ps)
/-- the pairs that a plan may be told by: two different kinds each -/
def PairsIn (ks : List Nat) (ps : List (List Nat)) : Prop := ∀ p ∈ ps, ∃ a b, p = [a, b] ∧ a ≠ b ∧ a ∈ ks ∧ b ∈ ks
def crossKV (ks : List Nat) (ps : List (List Nat)) (l : List Nat) : List (Key × V) := l.map fun k => (Sum.inr (tx [k]), V.str (tx (crossOf ks ps k)))
/-- a list of texts as values -/
abbrev strsV (ls : List (List Nat)) : List V := ls.map fun l => V.str (tx l)
theorem LET_lt {c : Nat} (h : c ∈ LET) : 97 ≤ c ∧ c < 123 := by
  unfold LET at h
  simp only [List.mem_cons, List.not_mem_nil, or_false] at h
  omega
theorem ascOf_mem {l : List Nat} {c : Nat} : c ∈ ascOf l ↔ c ∈ LET ∧ c ∈ l := by
  unfold ascOf
  rw [List.mem_filter, decide_eq_true_iff]
theorem ascOf_len (l : List Nat) : (ascOf l).length ≤ 26 := List.length_filter_le _ _
theorem LET_nodup : LET.Nodup := by decide
theorem ascOf_nodup (l : List Nat) : (ascOf l).Nodup := LET_nodup.filter _
theorem pairsOf_mem {f : List (List Nat)} {p : List Nat} : p ∈ pairsOf f ↔ ∃ a b, p = [a, b] ∧ a ∈ LET ∧ b ∈ LET ∧ [a, b] ∈ f := by
  unfold pairsOf
  simp only [List.mem_flatMap, List.mem_map, List.mem_filter, decide_eq_true_iff]
  constructor
  · rintro ⟨a, ha, b, ⟨hb, hf⟩, rfl⟩
    exact ⟨a, b, rfl, ha, hb, hf⟩
  · rintro ⟨a, b, rfl, ha, hb, hf⟩
    exact ⟨a, ha, b, ⟨hb, hf⟩, rfl⟩
theorem pairsOf_len (f : List (List Nat)) : (pairsOf f).length ≤ 676 := by
  have h : ∀ l : List Nat, (l.flatMap fun a => (LET.filter fun b => decide ([a, b] ∈ f)).map fun b => [a, b]).length ≤ l.length * 26 := by
    intro l
    induction l with
    | nil => simp
    | cons c r ih =>
      rw [List.flatMap_cons, List.length_append, List.length_map, List.length_cons, Nat.succ_mul]
      have := List.length_filter_le (fun b => decide ([c, b] ∈ f)) LET
      have e : LET.length = 26 := rfl
      omega
  exact h LET
theorem pairsOf_congr {f g : List (List Nat)} (h : ∀ a b, a ∈ LET → b ∈ LET → ([a, b] ∈ f ↔ [a, b] ∈ g)) : pairsOf f = pairsOf g := by
  unfold pairsOf
  have h2 : ∀ l : List Nat, (∀ a ∈ l, a ∈ LET) → (l.flatMap fun a => (LET.filter fun b => decide ([a, b] ∈ f)).map fun b => [a, b]) = (l.flatMap fun a => (LET.filter fun b => decide ([a, b] ∈ g)).map fun b => [a, b]) := by
    intro l
    induction l with
    | nil => intro _; rfl
    | cons c r ih =>
      intro hm
      rw [List.flatMap_cons, List.flatMap_cons, ih fun a ha => hm a (List.mem_cons_of_mem _ ha)]
      congr 2
      refine List.filter_congr fun b hb => ?_
      exact decide_eq_decide.mpr (h c b (hm c (List.mem_cons_self ..)) hb)
  exact h2 LET fun a ha => ha
theorem filter_yes {α : Type} (l : List α) : l.filter (fun _ => true) = l := List.filter_eq_self.mpr fun _ _ => rfl
theorem flat_ones (l : List Nat) : (l.map fun c => [c]).flatten = l := by
  induction l with
  | nil => rfl
  | cons c r ih => rw [List.map_cons, List.flatten_cons, ih]; rfl
theorem strs_ones (l : List Nat) : (l.map fun c => V.str (tx [c])) = strsV (l.map fun c => [c]) := by
  unfold strsV
  rw [List.map_map]
  rfl
theorem nodup_ones {l : List Nat} : (l.map fun c => tx [c]).Nodup ↔ l.Nodup := by
  induction l with
  | nil => simp
  | cons c r ih =>
    rw [List.map_cons, List.nodup_cons, List.nodup_cons, ih]
    refine and_congr_left fun _ => not_congr ?_
    rw [List.mem_map]
    constructor
    · rintro ⟨d, hd, e⟩
      have : [d] = [c] := tx_inj.mp e
      injection this with e _
      exact e ▸ hd
    · intro h
      exact ⟨c, h, rfl⟩
theorem metOf_ones (l : List Nat) : ((metOf (l.map fun c => tx [c])).length = l.length) ↔ l.Nodup := by
  by_cases h : l.Nodup
  · rw [metOf_nodup (nodup_ones.mpr h), List.length_map]
    exact ⟨fun _ => h, fun _ => rfl⟩
  · have := metOf_lt (fun n => h (nodup_ones.mp n))
    rw [List.length_map] at this
    exact ⟨fun e => by omega, fun n => absurd n h⟩
theorem crossOf_len (ks : List Nat) (ps : List (List Nat)) (k : Nat) : (crossOf ks ps k).length ≤ ks.length := List.length_filter_le _ _
section
variable {σ : L2.St} {H : Hp} {Q : VK} {te : TE} {K : PySem.W.Frag}
theorem e_iStr {R : It → Hp → Prop} (q : te σ H fun v H1 => ∃ x, v = .str x ∧ R (Its x) H1) : iStr te σ H R := q
theorem e_iL {R : It → Hp → Prop} (q : te σ H fun x H1 => ∃ a, x = .ref a ∧ (∃ xs, SqL K H1 a xs) ∧ R (Itl K a) H1) : iList K te σ H R := q
theorem v_iL {P : Addr → Prop} {a : Addr} {xs : List V} (h : H a = some (.lst xs)) (q : P a) : ∃ a', V.ref a = .ref a' ∧ (∃ xs, SqL K H a' xs) ∧ P a' := ⟨a, rfl, ⟨xs, SqL.of h⟩, q⟩
theorem e_iR1 {ta : TA} {R : It → Hp → Prop} (q : ta σ H fun vs H1 => ∃ j : Int, vs = [.int j] ∧ -(2 ^ 62) ≤ j ∧ j < 2 ^ 62 ∧ R (Itr 0 j.toNat) H1) : iRng1 ta σ H R := q
theorem v_iR1 {P : Int → Prop} {j : Int} (h1 : -1000000 ≤ j) (h2 : j < 1000000) (q : P j) : ∃ j' : Int, [V.int j] = [.int j'] ∧ -(2 ^ 62) ≤ j' ∧ j' < 2 ^ 62 ∧ P j' := ⟨j, rfl, by omega, by omega, q⟩
theorem e_iR2 {ta : TA} {R : It → Hp → Prop} (q : ta σ H fun vs H1 => ∃ i j : Int, vs = [.int i, .int j] ∧ (-(2 ^ 62) ≤ i ∧ i < 2 ^ 62 ∧ -(2 ^ 62) ≤ j ∧ j < 2 ^ 62) ∧ R (Itr i (j - i).toNat) H1) : iRng2 ta σ H R := q
theorem v_iR2 {P : Int → Int → Prop} {i j : Int} (h1 : -1000000 ≤ i ∧ i < 1000000 ∧ -1000000 ≤ j ∧ j < 1000000) (q : P i j) : ∃ i' j' : Int, [V.int i, V.int j] = [.int i', .int j'] ∧ (-(2 ^ 62) ≤ i' ∧ i' < 2 ^ 62 ∧ -(2 ^ 62) ≤ j' ∧ j' < 2 ^ 62) ∧ P i' j' := ⟨i, j, rfl, by omega, q⟩
theorem e_for {wi : TI} {g : TG} {tb : TS} {D : Ends} (q : wi σ H fun J H1 => ∃ W : Nat → Nat → L2.St → Hp → Prop, (∃ m, W 0 m σ H1) ∧ ∀ i m σ H, W i m σ H →
    (J.stop i H ∧ D.nx σ H) ∨ (J.go i H ∧ ∃ N : L2.St → Hp → Prop, (∀ σ' H', N σ' H' → ∃ m', m' < m ∧ W (i + 1) m' σ' H') ∧ ∀ x H', J.yld i H x H' → g x σ H' fun s2 H2 => tb { D with nx := N, ct := N, bk := D.nx } s2 H2)) : tFor wi g tb D σ H := q
theorem iteNT {A B : Prop} (h : B) : if (!true) = true then A else B := by
  rw [if_neg (by decide)]
  exact h
theorem iteNF {A B : Prop} (h : A) : if (!false) = true then A else B := by
  rw [if_pos (by decide)]
  exact h
theorem e_yes {Q : Bool → Hp → Prop} (q : Q true H) : tYes σ H Q := q
theorem v_isiS {x : Str} (q : Q (.bl true) H) : rIsi K [.str x, .ty "str"] H Q := ⟨.str x, .ty "str", .type "str", .type "str", true, rfl, .ty "str", .base (.str x), kit_ty (by decide +kernel), q⟩
theorem v_all {p : Addr} {bs : List Bool} (h : H p = some (.lst (bs.map V.bl))) (q : Q (.bl (bs.all id)) H) : rAll K [.ref p] H Q := ⟨p, bs, rfl, SqL.of h, q⟩
theorem v_fld {P : V → Prop} {a C dx : Addr} {fs : List (Str × V)} {f : Str} {v : V} (h : H a = some (.ins C dx fs)) (c : Cls K C) (n : NoAttr K C f) (l : fs.lookup f = some v) (q : P v) : ∃ a' C dx fs v, V.ref a = .ref a' ∧ H a' = some (.ins C dx fs) ∧ Cls K C ∧ NoAttr K C f ∧ fs.lookup f = some v ∧ P v := ⟨a, C, dx, fs, v, rfl, h, c, n, l, q⟩
theorem e_sfld {ta tv : TE} {f : Str} {D : Ends} (q : tv σ H fun y H1 => ta σ H1 fun x H2 => ∃ a C dx fs, x = .ref a ∧ H2 a = some (.ins C dx fs) ∧ Cls K C ∧ NoAttr K C f ∧ fs.length < 1000 ∧ D.nx σ (upd H2 a (.ins C dx (putF f y fs)))) : sFld K ta tv f D σ H := q
theorem v_sfld {P : Hp → Prop} {a C dx : Addr} {fs : List (Str × V)} {f : Str} {y : V} (h : H a = some (.ins C dx fs)) (c : Cls K C) (n : NoAttr K C f) (l : fs.length < 1000) (q : ∀ H', Keep a H H' → H' a = some (.ins C dx (putF f y fs)) → P H') :
    ∃ a' C dx fs, V.ref a = .ref a' ∧ H a' = some (.ins C dx fs) ∧ Cls K C ∧ NoAttr K C f ∧ fs.length < 1000 ∧ P (upd H a' (.ins C dx (putF f y fs))) := ⟨a, C, dx, fs, rfl, h, c, n, l, q _ Keep.put upd_same⟩
/-- a class of the text -/
structure ClsF (K : PySem.W.Frag) (mg : Str → Option Value) (x : Str) (C : Addr) : Prop where
  «at» : mg x = some (.ref C)
  cl : Cls K C
  mks : PySem.W.makesIn K C = true
  kp : PySem.W.keepIn K (.ref C) = true
  ha : PySem.W.findIn K (.ref C) "__class__" = some (some (.builtin "object.__class__"))
  hn : PySem.W.specialIn K (.builtin "object.__class__") "__get__" = some (some (.builtin "getset_descriptor.__get__"))
  ht : PySem.W.takesIn K (.builtin "object.__class__") = some true
  hm : PySem.W.mroIn K C (.type "object") = some true
  ob : PySem.W.subIn K (.ref C) (.type "object") = some true
  ne : PySem.W.findIn K (.ref C) "__ne__" = some (some (.builtin "object.__ne__"))
theorem kit_same {C : Addr} : PySem.W.kitOne K (.ref C) (.ref C) = some true := by
  unfold PySem.W.kitOne
  rw [if_pos (by simp)]
theorem v_isiC {mg : Str → Option Value} {x : Str} {a C dx : Addr} {fs : List (Str × V)} (F : ClsF K mg x C) (h : H a = some (.ins C dx fs)) (q : Q (.bl true) H) : rIsi K [.ref a, .ref C] H Q :=
  ⟨.ref a, .ref C, .ref C, .ref C, true, rfl, .own C, .base (.ins h F.cl F.ha F.hn F.ht F.hm), kit_same, q⟩
theorem v_isiL {p t : Addr} {xs : List V} (h : H p = some (.lst xs)) (ht : H t = some (.tup [.ty "list", .ty "tuple"])) (q : Q (.bl true) H) : rIsiT K [.ref p, .ref t] H Q :=
  ⟨.ref p, t, _, .type "list", [.type "list", .type "tuple"], true, rfl, ht, .cons (.ty _) (.cons (.ty _) .nil), .base (.lst h), kitAny_cons (b := true) (kit_ty (by decide +kernel)) (fun z => nomatch z) (fun _ => rfl), q⟩
end
def rTuple (K : PySem.W.Frag) : List V → Hp → VK → Prop := fun xs H Q => ∃ p ys, xs = [.ref p] ∧ ((SqL K H p ys ∧ ∀ l, H l = none → Q (.ref l) (upd H l (.tup ys))) ∨ (SqT K H p ys ∧ Q (.ref p) H))
theorem c_tuple {X : Cx} : CallR X (.type "tuple") (rTuple X.K) := call_tuple_of
theorem v_tuple {K : PySem.W.Frag} {H : Hp} {Q : VK} {p : Addr} {ys : List V} (h : H p = some (.lst ys)) (q : ∀ l H', H l = none → Same H H' → H' l = some (.tup ys) → Q (.ref l) H') : rTuple K [.ref p] H Q :=
  ⟨p, ys, rfl, .inl ⟨SqL.of h, fun l hl => q l _ hl (Same.new hl) upd_same⟩⟩
def rList (K : PySem.W.Frag) : List V → Hp → VK → Prop := fun xs H Q => ∃ p ys, xs = [.ref p] ∧ (SqL K H p ys ∨ SqT K H p ys) ∧ ∀ l, H l = none → Q (.ref l) (upd H l (.lst ys))
theorem c_list {X : Cx} : CallR X (.type "list") (rList X.K) := call_list_of
theorem v_list {K : PySem.W.Frag} {H : Hp} {Q : VK} {p : Addr} {ys : List V} (h : SqL K H p ys) (q : ∀ l H', H l = none → Same H H' → H' l = some (.lst ys) → Q (.ref l) H') : rList K [.ref p] H Q :=
  ⟨p, ys, rfl, .inl h, fun l hl => q l _ hl (Same.new hl) upd_same⟩
section
variable {σ : L2.St} {H : Hp} {Q : VK} {K : PySem.W.Frag}
theorem e_bm {T : String} {r : V → List V → Hp → VK → Prop} {to : TE} {t : TA} (q : to σ H fun x H1 => tyV K T x H1 ∧ t σ H1 fun xs H2 => r x xs H2 Q) : tBM K T r to t σ H Q := q
theorem e_bm0 {T : String} {r : V → List V → Hp → VK → Prop} {to : TE} (q : to σ H fun x H1 => tyV K T x H1 ∧ r x [] H1 Q) : tBM0 K T r to σ H Q := q
theorem v_tyL {P : Prop} {p : Addr} {xs : List V} (h : H p = some (.lst xs)) (q : P) : tyV K "list" (.ref p) H ∧ P := ⟨.inl ⟨rfl, _, SqL.of h⟩, q⟩
theorem v_app {p : Addr} {xs : List V} {y : V} (h : H p = some (.lst xs)) (hl : xs.length < 1000000) (q : ∀ H', Keep p H H' → H' p = some (.lst (xs ++ [y])) → Q .non H') : rAppend (.ref p) [y] H Q :=
  ⟨p, xs, y, rfl, rfl, h, szlt hl, q _ Keep.put upd_same⟩
end
/-! ### rules with the written part named (in a comprehension's block too) -/
section
variable {X : Cx} {K : PySem.W.Frag}
theorem op_inLK (h : X.K = K) : OpR X (compareOp .In) (rIn K false) := h ▸ op_in_seq
theorem op_notInLK (h : X.K = K) : OpR X (compareOp .NotIn) (rIn K true) := h ▸ op_notIn_seq
theorem ix_LK (h : X.K = K) : IxR X (rIxL K) := h ▸ ix_list
theorem ix_TK (h : X.K = K) : IxR X (rIxT K) := h ▸ ix_tup
theorem pe_flK {e : Expr} {f : Str} {pos : PySem.Pos} {ta : TE} (h : X.K = K) (he : PE X e ta) (hb : attributeBase e f X.env (eval e X.env) = eval e X.env) : PE X (.Attribute e f pos) (tFld K ta f) := h ▸ pe_fld he hb
theorem ps_flK {o value : Expr} {f : Str} {pos pos' : PySem.Pos} {ta tv : TE} (h : X.K = K) (ha : PE X o ta) (hv : PE X value tv) (hs : swapsWith value (some (.Attribute o f pos')) pos.line X.env = pure false) : PS X (.Assign [.Attribute o f pos'] value pos) (sFld K ta tv f) := h ▸ ps_fld ha hv hs
theorem pe_joinK {o e : Expr} {to te : TE} {apos pos : PySem.Pos} (h : X.K = K) (ho : PE X o to) (he : PE X e te) (hs : starEach [e] X.env = [(false, eval e X.env)] := by rfl) (hbase : attributeBase o "join" X.env (eval o X.env) = eval o X.env := by rfl) (hline : (apos.endLine == pos.line) = true := by rfl) :
    PE X (.Call (.Attribute o "join" apos) [e] [] pos) (tM1 (rJoinT K) to te) := h ▸ pe_joinT ho he hs hbase hline
theorem c_lenK (h : X.K = K) : CallR X (.builtin "len") (rLen K) := h ▸ c_len
theorem c_isiK (h : X.K = K) : CallR X (.builtin "isinstance") (rIsi K) := h ▸ call_isi
theorem c_isiTK (h : X.K = K) : CallR X (.builtin "isinstance") (rIsiT K) := h ▸ call_isiT
theorem c_listK (h : X.K = K) : CallR X (.type "list") (rList K) := h ▸ c_list
theorem c_tupleK (h : X.K = K) : CallR X (.type "tuple") (rTuple K) := h ▸ c_tuple
theorem c_allK (h : X.K = K) (hc : X.calm = true) : CallR X (.builtin "all") (rAll K) := h ▸ cr_all hc
theorem sl_LK (h : X.K = K) : SlR X (rSlL K) := h ▸ sl_list
theorem op_eqDK (h : X.K = K) (hu : X.A.units + 64 < cLine) : OpR X (compareOp .Eq) (rEqD K) := h ▸ op_eqD hu
theorem op_neDK (h : X.K = K) (hu : X.A.units + 64 < cLine) : OpR X (compareOp .NotEq) (rNeD K) := h ▸ op_neD hu
theorem pi_listK {tg e : Expr} {te : TE} (h : X.K = K) (he : PE X e te) : PI X tg e (iList K te) := h ▸ pi_list he
theorem pi_tupK {tg e : Expr} {te : TE} (h : X.K = K) (he : PE X e te) : PI X tg e (iTup K te) := h ▸ pi_tup he
theorem pe_appK {o e : Expr} {to te : TE} {apos cpos : PySem.Pos} (h : X.K = K) (ho : PE X o to) (he : PE X e te) (hbase : attributeBase o "append" X.env (eval o X.env) = eval o X.env := by rfl)
    (hfew : ((backTo cpos (starEach [e] X.env)).all (fun x => !x.1) && (backToKw cpos (keywordEach [] X.env)).all (fun x => x.1.isSome) && decide ([e].length + ([] : List Keyword).length + (if ([] : List Keyword).isEmpty then 0 else 1) < 30)) = true := by rfl)
    (hline : (apos.endLine == cpos.line) = true := by rfl) (hs : starEach [e] X.env = (false, eval e X.env) :: starEach [] X.env := by rfl) (hplain : (backTo cpos (starEach [] X.env)).any (·.1) = false := by rfl) :
    PE X (.Call (.Attribute o "append" apos) [e] [] cpos) (tBM K "list" rAppend to (tCons te tNil)) := h ▸ pe_bm PySem.F.plainAttrs_list PySem.F.slot_list_append PySem.F.type_list_append mt_append ho (pa_cons he pa_nil hs) hbase hfew hline hs hplain
end
/-- two readings of one walk -/
def iOr (a b : TI) : TI := fun σ H R => a σ H R ∨ b σ H R
theorem pi_or {X : Cx} {tg e : Expr} {a b : TI} (h1 : PI X tg e a) (h2 : PI X tg e b) : PI X tg e (iOr a b) :=
  ⟨fun pos s σ H R I h => h.elim (h1.run pos s σ H R I) (h2.run pos s σ H R I)⟩
/-- a list or a tuple, or the empty tuple of the top -/
def SeqO (K : PySem.W.Frag) (H : Hp) (p : Addr) (xs : List V) : Prop := H p = some (.lst xs) ∨ H p = some (.tup xs) ∨ (xs = [] ∧ ∃ o n, K.lookup p = some o ∧ o.cls = .type "tuple" ∧ o.data = .seq #[] n)
section
variable {K : PySem.W.Frag} {H H' : Hp} {p x : Addr} {xs : List V}
theorem SeqO.go (h : SeqO K H p xs) (s : ∀ o, H p = some o → H' p = some o) : SeqO K H' p xs := h.imp (s _) (fun z => z.imp (s _) id)
theorem SeqO.same (h : SeqO K H p xs) (s : Same H H') : SeqO K H' p xs := h.go (s _)
theorem SeqO.keepI {C dx : Addr} {fs : List (Str × V)} (h : SeqO K H p xs) (s : Keep x H H') (hx : H x = some (.ins C dx fs)) : SeqO K H' p xs := by
  rcases h with h | h | h
  · exact .inl (s _ _ h (ne_of h hx (by intro z; cases z)))
  · exact .inr (.inl (s _ _ h (ne_of h hx (by intro z; cases z))))
  · exact .inr (.inr h)
theorem v_isiQ {Q : VK} {t : Addr} (h : SeqO K H p xs) (ht : H t = some (.tup [.ty "list", .ty "tuple"])) (q : Q (.bl true) H) : rIsiT K [.ref p, .ref t] H Q := by
  have key : TyX K H (.ref p) (.type "tuple") → rIsiT K [.ref p, .ref t] H Q := fun ty => ⟨.ref p, t, _, .type "tuple", [.type "list", .type "tuple"], true, rfl, ht, .cons (.ty _) (.cons (.ty _) .nil), ty, kitAny_cons (b := false) (kit_ty (by decide +kernel)) (fun _ => kitAny_cons (b := true) (kit_ty (by decide +kernel)) (fun z => nomatch z) (fun _ => rfl)) (fun z => nomatch z), q⟩
  rcases h with h | h | ⟨_, o, n, h, c, _⟩
  · exact v_isiL h ht q
  · exact key (.base (.tup h))
  · exact key (.kTuple h c)
/-- a for over a list or a tuple -/
theorem e_forSeq {te : TE} {g : TG} {tb : TS} {D : Ends} {σ : L2.St} {H0 : Hp} (hp : SeqO K H0 p xs) (s0 : Same H0 H) (ht : ∀ Q : VK, Q (.ref p) H → te σ H Q) (Pv : Nat → L2.St → Hp → Prop) (h0 : Pv 0 σ H) (hG : ∀ i σ' H', Pv i σ' H' → Same H0 H')
    (hs : ∀ i x σ H H', i < xs.length → Pv i σ H → YAt xs i H x H' → g x σ H' fun σ2 H2 => tb { D with nx := Pv (i + 1), ct := Pv (i + 1), bk := D.nx } σ2 H2) (hd : ∀ σ H, Pv xs.length σ H → D.nx σ H) : tFor (iOr (iList K te) (iTup K te)) g tb D σ H := by
  rcases hp with hp | hp | ⟨rfl, o, n, h, c, e⟩
  · exact Or.inl (ht _ ⟨p, rfl, ⟨xs, SqL.of (s0 _ _ hp)⟩, for_it walk_list Pv h0 (fun i σ' H' _ z => SqL.of (hG i σ' H' z _ _ hp)) hs hd⟩)
  · exact Or.inr (ht _ ⟨p, rfl, ⟨xs, SqT.of (s0 _ _ hp)⟩, for_it walk_tup Pv h0 (fun i σ' H' _ z => SqT.of (hG i σ' H' z _ _ hp)) hs hd⟩)
  · have k : ∀ H', SqT K H' p [] := fun H' => .inr ⟨o, #[], n, h, c, e, by decide, .nil⟩
    exact Or.inr (ht _ ⟨p, rfl, ⟨[], k _⟩, for_it walk_tup Pv h0 (fun i σ' H' _ z => k _) hs hd⟩)
end
theorem DPut.cross {H : Hp} {a : Addr} {kvs : List (Key × V)} {l : List Nat} {v : V} (e : H a = some (.dK kvs)) (hn : valV kvs (Sum.inr (tx l)) = none) (hl : kvs.length < 1000000) : DPut H a (.str (tx l)) v (upd H a (.dK (kvs ++ [(Sum.inr (tx l), v)]))) := by
  have h := DPut.k (k := Sum.inr (tx l)) (v := v) e (szlt hl)
  rw [putK_new v hn] at h
  exact h
theorem key_tx {a b : List Nat} : (Sum.inr (tx a) : Key) = Sum.inr (tx b) ↔ a = b := by
  constructor
  · intro h
    injection h with h
    exact tx_inj.mp h
  · intro h
    rw [h]
/-- a dict by letters -/
theorem letV_none {g : Nat → V} {k : Nat} : ∀ {l : List Nat}, ¬ k ∈ l → valV (l.map fun c => ((Sum.inr (tx [c]) : Key), g c)) (Sum.inr (tx [k])) = none
  | [], _ => rfl
  | c :: r, h => by
    rw [List.map_cons, valV_neg, letV_none fun z => h (List.mem_cons_of_mem _ z)]
    intro e
    have := key_tx.mp e
    injection this with e _
    exact h (e ▸ List.mem_cons_self ..)
theorem letV_some {g : Nat → V} {k : Nat} : ∀ {l : List Nat}, k ∈ l → valV (l.map fun c => ((Sum.inr (tx [c]) : Key), g c)) (Sum.inr (tx [k])) = some (g k)
  | [], h => by cases h
  | c :: r, h => by
    by_cases e : c = k
    · subst e
      rw [List.map_cons, valV_pos rfl]
    · rw [List.map_cons, valV_neg, letV_some ((List.mem_cons.mp h).resolve_left fun z => e z.symm)]
      intro z
      have := key_tx.mp z
      injection this with z _
      exact e z
theorem dget_let {H : Hp} {d : Addr} {g : Nat → V} {k : Nat} {l : List Nat} (h : H d = some (.dK (l.map fun c => ((Sum.inr (tx [c]) : Key), g c)))) (hk : k ∈ l) : DGet H d (.str (tx [k])) (some (g k)) := by
  have e := DGet.k (k := Sum.inr (tx [k])) h
  rw [letV_some hk] at e
  exact e
theorem take_notin {l : List Nat} (h : l.Nodup) {i : Nat} (hi : i < l.length) : ¬ l.getD i 0 ∈ l.take i := by
  intro m
  obtain ⟨j, hj, e⟩ := List.mem_iff_getElem.mp m
  rw [List.length_take] at hj
  rw [List.getElem_take, List.getD_eq_getElem?_getD, List.getElem?_eq_getElem hi] at e
  have := (List.getElem_inj h).mp e
  omega
end Cw
set_option Elab.async false
set_option linter.all false
set_option maxRecDepth 100000
set_option maxHeartbeats 4000000
/-! the same steps, what is to be found asked behind the match -/
namespace Cw
open PySem PySem.Spec L2
section
variable {σ : St} {H : Hp} {Q : VK} {i : Nat} {y : V} {K : PySem.W.Frag}
theorem e_varG (q : ∃ v, σ[i]? = some (some v) ∧ Q v H) : tVar i σ H Q := q
theorem v_lenG {p : Addr} (q : ∃ ys, H p = some (.lst ys) ∧ Q (.int (ys.length : Nat)) H) : rLen K [.ref p] H Q := by
  obtain ⟨ys, h, q⟩ := q
  exact v_len h q
theorem v_inLG {x : List Nat} {p : Addr} (q : ∃ ls : List (List Nat), H p = some (.lst (ls.map fun l => V.str (tx l))) ∧ Q (.bl (decide (x ∈ ls))) H) : rIn K false (.str (tx x)) (.ref p) H Q := by
  obtain ⟨ys, h, q⟩ := q
  exact v_inL h q
theorem v_lenSetG {P : Program} {w : World} {p : Addr} (q : ∃ l : List Str, H p = some (SetT P w p l) ∧ Q (.int (l.length : Nat)) H) : rLenSet P w [.ref p] H Q := by
  obtain ⟨ys, h, q⟩ := q
  exact v_lenSet h q
theorem v_tyLG {P : Prop} {p : Addr} (q : ∃ xs, H p = some (.lst xs) ∧ P) : tyV K "list" (.ref p) H ∧ P := by
  obtain ⟨ys, h, q⟩ := q
  exact v_tyL h q
theorem v_iLG {P : Addr → Prop} {a : Addr} (q : ∃ xs, H a = some (.lst xs) ∧ P a) : ∃ a', V.ref a = .ref a' ∧ (∃ xs, SqL K H a' xs) ∧ P a' := by
  obtain ⟨ys, h, q⟩ := q
  exact v_iL h q
theorem v_dgetG {P : V → Prop} {a : Addr} (q : ∃ v, DGet H a y (some v) ∧ P v) : ∃ a' v, V.ref a = .ref a' ∧ DGet H a' y (some v) ∧ P v := by
  obtain ⟨v, h, q⟩ := q
  exact v_dget h q
end
end Cw
set_option Elab.async false
set_option linter.all false
set_option maxRecDepth 100000
set_option maxHeartbeats 4000000
/-! abs(n) -/
namespace Cw
open PySem PySem.Spec PyProof.Rows L2
def rAbs : List V → Hp → VK → Prop := fun xs H Q => ∃ i : Int, xs = [.int i] ∧ Q (.int (if i < 0 then -i else i)) H
theorem c_abs {X : Cx} : CallR X (.builtin "abs") rAbs := by
  intro pins s σ H xs us Q I r h
  obtain ⟨i, rfl, q⟩ := h
  obtain ⟨u, rfl, t, rfl⟩ := vals1 r
  exact call_abs_int fun u tk => ⟨.int (if i < 0 then -i else i), H, I.tok _, ⟨_, rfl⟩, q⟩
theorem v_abs {H : Hp} {Q : VK} {i : Int} (q : Q (.int (if i < 0 then -i else i)) H) : rAbs [.int i] H Q := ⟨i, rfl, q⟩
end Cw
set_option Elab.async false
set_option linter.all false
set_option maxRecDepth 100000
set_option maxHeartbeats 4000000
/-! C(..) as a call with a promise of its own -/
namespace Cw
open PySem PySem.Spec L2
/-- from what a caller wants of C(..) to what __init__ promises -/
def Conv (C : Addr) (sp0 sp : Sp) : Prop := ∀ vs H Q E, sp vs H Q E → ∀ x dx, H x = none → H dx = none → dx ≠ x → sp0 (.ref x :: vs) (upd (upd H dx (.own x)) x (.ins C dx [])) (fun v H2 => v = .non ∧ Q (.ref x) H2) E
structure CDef (P : Program) (w : World) (K : PySem.W.Frag) (mg : Str → Option Value) (base : Heap) (CX : CXT) (k : Nat) (x : Str) (C : Addr) (sp : Sp) : Prop where
  ex : ∃ f fd ps sp0, mg x = some (.ref C) ∧ Mk K C f ∧ Binds K fd ps [] ∧ FnOk P w K mg base CX k f fd ps sp0 ∧ Conv C sp0 sp
section
variable {X : Cx} {CX : CXT} {k : Nat} {sp : Sp} {E : XK} {x : Str} {C : Addr} {p pos : PySem.Pos} {e : Expr} {es : List Expr} {t : TA}
theorem pe_mk (D : CDef X.prog X.w X.K X.mg X.base CX k x C sp) (hr : Room (k + 1) X.A) (hx : Passes CX X E) (ha : PA X (e :: es) t) (hg : Gl X x := by rfl) (hdb : (x == ("__debug__" : Str)) = false := by decide)
    (he : starEach (e :: es) X.env = (false, eval e X.env) :: starEach es X.env := by rfl) (hpl : (backTo pos (starEach es X.env)).any (·.1) = false := by rfl) : PE X (.Call (.Name x p) (e :: es) [] pos) (tCall sp [] E t) := by
  obtain ⟨f, fd, ps, sp0, hm, M, hb, F, cv⟩ := D.ex
  refine ⟨fun pins s σ H Q I h => ?_⟩
  refine wpAny_Call_Name_kw (ld_glob I hg hm ?_ hdb)
  refine PySem.W.callWith_K (h₀ := X.base) I.ok.mod.kin M.kp (thn (ha.run pos pins s σ H _ I h) fun us s1 ⟨vs, H1, I1, r, q⟩ => ⟨I1.kIn, ?_⟩) he hpl
  refine run_make M F hr hb .nil hx I1 r fun a da n1 n2 n3 => ?_
  have q : sp (vs ++ []) H1 Q E := q
  rw [List.append_nil] at q ⊢
  exact cv vs H1 Q E q a da n1 n2 n3
end
/-- a method with defaults, all parameters given -/
structure MAtD (K : PySem.W.Frag) (C : Addr) (m qual : Str) (st : Stmt) (dvs : List V) : Prop where
  ex : ∃ f fd, PySem.W.findIn K (.ref C) m = some (some (.ref f)) ∧ PySem.W.isFn K (.ref f) = true ∧ FunD K m qual (defArgs st) (defBody st) (defScope st) dvs [] f fd
section
variable {P : Program} {w : World} {K : PySem.W.Frag} {mg : Str → Option Value} {base : Heap} {CX : CXT} {k : Nat} {C : Addr} {x qual : Str} {ps N : List Str} {sp sp0 : Sp} {st : Stmt} {dvs : List V}
/-- C(..) by its __init__ -/
structure CMk (P : Program) (w : World) (K : PySem.W.Frag) (mg : Str → Option Value) (base : Heap) (CX : CXT) (k : Nat) (x : Str) (C : Addr) (sp : Sp) (ps : List Str) (qual : Str) (st : Stmt) (dvs : List V) : Prop where
  ex : ∃ f fd sp0, mg x = some (.ref C) ∧ Mk K C f ∧ Binds K fd ps [] ∧ FnOk P w K mg base CX k f fd ps sp0 ∧ Conv C sp0 sp ∧ FunD K "__init__" qual (defArgs st) (defBody st) (defScope st) dvs [] f fd
theorem CMk.cdef (D : CMk P w K mg base CX k x C sp ps qual st dvs) : CDef P w K mg base CX k x C sp := by
  obtain ⟨f, fd, sp0, a, b, c, d, e, _⟩ := D.ex
  exact ⟨f, fd, ps, sp0, a, b, c, d, e⟩
/-- C(..) by its __init__, that lets nothing out; h: how the arguments bind where all are given -/
theorem MAtD.make (F : MAtD K C "__init__" qual st dvs) (cf : ClsF K mg x C) (S : FnScope N ps (defScope st)) (hd : dvs ≠ [])
    (hb : ∀ (T : Addr) (kV doc pm : Value) (an : Option Addr) (cdv ct : Value) (us its : List Value), us.length = ps.length → its.length = dvs.length →
      ∃ k, bindArgs (PySem.W.fnOf "__init__" qual (defArgs st) (defBody st) (defScope st) (.ref T) kV doc pm an cdv ct) ⟨us, []⟩ = seqItems? (.ref T) >>= k ∧ k (some its.toArray) = pure (ps.zip (us ++ its.drop dvs.length)))
    (len : ∀ vs H Q E, sp0 vs H Q E → vs.length = ps.length) (cv : Conv C sp0 sp)
    (hbody : ∀ (f : Addr) (cdv : Value) (A : Around) (outer : List Env) (s : Shared) (H : Hp) (vs : List V) (Q : VK) (E : XK), Room k (A.deeper (PyProof.Rows.envOfC qual (defScope st) s.heap.objs.size f cdv)) → sp0 vs H Q E →
      ∃ t, PSs (cxOf CX0 P w K mg base N qual (defScope st) f cdv A outer s H E).nox (defBody st) t ∧ t { nx := fun _ H' => Q .non H', rt := Q } (start N vs) H) : CMk P w K mg base CX0 (k + 1) x C sp ps qual st dvs := by
  obtain ⟨f, fd, h1, h2, F⟩ := F.ex
  have B : Binds K fd ps [] := by
    obtain ⟨ds, r, b⟩ := F.binds1 (ps := ps) ps.length dvs.length hd (by omega) fun T kV doc pm an cdv ct us its l1 l2 => hb T kV doc pm an cdv ct us its l1 l2
    rw [List.drop_of_length_le (Nat.le_refl _)] at r
    cases r
    exact b
  refine ⟨f, fd, sp0, cf.at, ⟨cf.mks, h1, h2, cf.kp⟩, B, F.ok S len fun cdv A outer s H vs Q E hr h => ?_, cv, F⟩
  obtain ⟨t, a, b⟩ := hbody f cdv A outer s H vs Q E hr h
  exact ⟨t, a.nox, b⟩
theorem CDef.mono {j : Nat} (D : CDef P w K mg base CX j x C sp) (h : j ≤ k) : CDef P w K mg base CX k x C sp := by
  obtain ⟨f, fd, ps, sp0, a, b, c, d, e⟩ := D.ex
  exact ⟨f, fd, ps, sp0, a, b, c, d.mono h, e⟩
end
end Cw
set_option Elab.async false
set_option linter.all false
set_option maxRecDepth 100000
set_option maxHeartbeats 4000000
/-! enumerate(text) -/
namespace Cw
open PySem PySem.Spec L2
def Itx (l : List Nat) : It := ⟨fun i _ => i < l.length, fun i H v H' => ∃ T c, v = .ref T ∧ H T = none ∧ H' = upd H T (.tup [.int (i : Nat), .str (tx [c])]) ∧ l[i]? = some c, fun i _ => l.length ≤ i⟩
def iEnumS (ta : TA) : TI := fun σ H R => ta σ H fun vs H1 => ∃ l : List Nat, vs = [.str (tx l)] ∧ R (Itx l) H1
section
variable {σ : St} {H : Hp}
theorem e_iEnumS {ta : TA} {R : It → Hp → Prop} (q : ta σ H fun vs H1 => ∃ l : List Nat, vs = [.str (tx l)] ∧ R (Itx l) H1) : iEnumS ta σ H R := q
theorem v_iEnumS {P : List Nat → Prop} {l : List Nat} (q : P l) : ∃ l' : List Nat, [V.str (tx l)] = [.str (tx l')] ∧ P l' := ⟨l, rfl, q⟩
end
end Cw
set_option Elab.async false
set_option linter.all false
set_option maxRecDepth 100000
set_option maxHeartbeats 4000000
/-! pairs of a number and a text, compared -/
namespace Cw
open PySem PySem.Spec L2
section
variable {X : Cx} {op : CmpOp} {ri : Int → Int → Bool} {rs : List Nat → List Nat → Bool} {z : Bool}
end
end Cw
set_option Elab.async false
set_option linter.all false
set_option maxRecDepth 100000
set_option maxHeartbeats 4000000
/-! names: one step, as a plain function -/
namespace Cw
open PySem PySem.Spec L2
/-- the name (turned about) without its last letters out of part, and these -/
def splitB (part : List Nat) : List Nat → List Nat → List Nat × List Nat
  | [], b => ([], b)
  | x :: r, b => if x ∈ part then splitB part r (x :: b) else (x :: r, b)
def putIn (k : Nat) (b : List Nat) : List Nat := b.takeWhile (fun c => decide (c < k)) ++ k :: b.dropWhile (fun c => decide (c < k))
def stepAt (k : Nat) (ra b : List Nat) : List Nat := if ra.head? = some k then ra.tail.reverse ++ b else ra.reverse ++ putIn k b
def stepOf (part name : List Nat) (k : Nat) : List Nat := stepAt k (splitB part name.reverse []).1 (splitB part name.reverse []).2
theorem splitB_eq (part : List Nat) : ∀ ra b : List Nat, (splitB part ra b).1.reverse ++ (splitB part ra b).2 = ra.reverse ++ b
  | [], b => rfl
  | x :: r, b => by
    unfold splitB
    by_cases h : x ∈ part
    · rw [if_pos h, splitB_eq part r (x :: b), List.reverse_cons, List.append_assoc]
      rfl
    · rw [if_neg h]
theorem putIn_len (k : Nat) (b : List Nat) : (putIn k b).length = b.length + 1 := by
  unfold putIn
  have h : (b.takeWhile (fun c => decide (c < k)) ++ b.dropWhile (fun c => decide (c < k))).length = b.length := by rw [List.takeWhile_append_dropWhile]
  rw [List.length_append] at h
  rw [List.length_append, List.length_cons]
  omega
theorem putIn_mem {k c : Nat} {b : List Nat} (h : c ∈ putIn k b) : c = k ∨ c ∈ b := by
  unfold putIn at h
  rw [List.mem_append, List.mem_cons] at h
  rcases h with h | h | h
  · exact .inr (List.takeWhile_sublist _ |>.subset h)
  · exact .inl h
  · exact .inr (List.dropWhile_sublist _ |>.subset h)
theorem stepAt_mem {k c : Nat} {ra b : List Nat} (h : c ∈ stepAt k ra b) : c = k ∨ c ∈ ra.reverse ++ b := by
  unfold stepAt at h
  split at h
  · rw [List.mem_append, List.mem_reverse] at h
    rcases h with h | h
    · exact .inr (List.mem_append_left _ (List.mem_reverse.mpr (List.mem_of_mem_tail h)))
    · exact .inr (List.mem_append_right _ h)
  · rw [List.mem_append] at h
    rcases h with h | h
    · exact .inr (List.mem_append_left _ h)
    · rcases putIn_mem h with e | e
      · exact .inl e
      · exact .inr (List.mem_append_right _ e)
theorem stepOf_mem {part name : List Nat} {k c : Nat} (h : c ∈ stepOf part name k) : c = k ∨ c ∈ name := by
  have := stepAt_mem h
  rw [splitB_eq, List.reverse_reverse, List.append_nil] at this
  exact this
/-! ### letters at their places -/
section
variable {σ : St} {H : Hp} {tb : TS} {D : Ends} {tt : TT}
theorem g_nm {i : Nat} {v : V} {Q : St → Hp → Prop} (q : Q (σ.set i (some v)) H) : gName i v σ H Q := q
theorem s_while (W : Nat → St → Hp → Prop) (m : Nat) (h0 : W m σ H) (hs : ∀ m σ H, W m σ H → tt σ H fun b H1 => if b = true then ∃ N : St → Hp → Prop, (∀ σ' H', N σ' H' → ∃ m', m' < m ∧ W m' σ' H') ∧ tb { D with nx := N, ct := N, bk := D.nx } σ H1 else D.nx σ H1) : tWhile tt tb D σ H := ⟨W, ⟨m, h0⟩, hs⟩
theorem v_turn {W : Nat → St → Hp → Prop} {m : Nat} (q : tb { D with nx := fun σ' H' => ∃ m', m' < m ∧ W m' σ' H', ct := fun σ' H' => ∃ m', m' < m ∧ W m' σ' H', bk := D.nx } σ H) : ∃ N : St → Hp → Prop, (∀ σ' H', N σ' H' → ∃ m', m' < m ∧ W m' σ' H') ∧ tb { D with nx := N, ct := N, bk := D.nx } σ H := ⟨_, fun _ _ h => h, q⟩
end
section
variable {H : Hp} {Q : VK} {K : PySem.W.Frag} {p q : Addr}
theorem ok_strs {ls : List (List Nat)} (h : ∀ l ∈ ls, ∀ c ∈ l, c < 1000) : ∀ x ∈ ls.map tx, PyData.strOk x = true := by
  intro x hx
  obtain ⟨l, hl, rfl⟩ := List.mem_map.mp hx
  exact ok_tx (h l hl)
theorem map_tx_inj {a b : List (List Nat)} : a.map tx = b.map tx ↔ a = b := by
  constructor
  · intro h
    induction a generalizing b with
    | nil => cases b with
      | nil => rfl
      | cons y b => cases h
    | cons x a ih => cases b with
      | nil => cases h
      | cons y b =>
        rw [List.map_cons, List.map_cons] at h
        injection h with h1 h2
        rw [tx_inj.mp h1, ih h2]
  · intro h
    rw [h]
theorem strsV_map (ls : List (List Nat)) : strsV ls = (ls.map tx).map V.str := by
  unfold strsV
  rw [List.map_map]
  rfl
theorem v_eqT {a b : List (List Nat)} (h1 : H p = some (.tup (strsV a))) (h2 : H q = some (.tup (strsV b))) (ha : ∀ l ∈ a, ∀ c ∈ l, c < 1000) (hb : ∀ l ∈ b, ∀ c ∈ l, c < 1000) (k : Q (.bl (decide (a = b))) H) : rEqD K (.ref p) (.ref q) H Q := by
  rw [strsV_map] at h1 h2
  refine ⟨.tuple ((a.map tx).map PyData.str), .tuple ((b.map tx).map PyData.str), .tup (SqT.of h1) (dp_strs _), .tup (SqT.of h2) (dp_strs _), shaped_strsT _ (ok_strs ha), shaped_strsT _ (ok_strs hb), ?_⟩
  have e : PyData.eqv (.tuple ((a.map tx).map PyData.str)) (.tuple ((b.map tx).map PyData.str)) = decide (a = b) := by
    show PyData.eqvAll _ _ = _
    rw [eqvAll_strs, decide_eq_decide]
    exact map_tx_inj
  rw [e]
  exact k
end
end Cw
set_option Elab.async false
set_option linter.all false
set_option maxRecDepth 100000
set_option maxHeartbeats 4000000
/-! errors of one's own without values -/
namespace Cw
open PySem PySem.Spec L2
/-- an error class of the text, down from ValueError, without an __init__ -/
structure ExcF (K : PySem.W.Frag) (mg : Str → Option Value) (x : Str) (C : Addr) : Prop where
  «at» : mg x = some (.ref C)
  exc : PySem.W.excIn K C [.type "ValueError", .type "Exception", .type "BaseException", .type "object"] "ValueError.__new__" = true
  kp : PySem.W.keepIn K (.ref C) = true
  ty : PySem.W.typeIn K (.ref C) = some (.type "type")
  ec : ExcC K C
section
variable {X : Cx} {C : Addr} {x : Str} {p pos : PySem.Pos}
theorem pmk_own0 (F : ExcF X.K X.mg x C) (hg : Gl X x := by rfl) (hdb : (x == ("__debug__" : Str)) = false := by decide) : PMk X (.Call (.Name x p) [] [] pos) (fun _ H Q => Q (.ref C) none H) := by
  intro pins s σ H Q I h
  refine PySem.wpAny_Call_Name_kw (ld_glob I hg F.at ?_ hdb)
  refine PySem.W.callWith_K0 I.kIn F.kp ?_
  show wpAny _ _ (call (.ref C) []) _ _ _
  obtain ⟨bm, N, nm, qn, bs, hdct, sn, sub, ab, col, dd, k0, k1, k2, k3, k5, mN, hC, hN, hni, T⟩ := exc_obj I.kIn F.exc
  refine wpAny_call_exc_subT PySem.F.excBase_ValueError T hC hN hni (fun h' e hm => ?_) (Nat.zero_le _)
  exact mk_of I hm (raises_own F.ec.hs F.ty) h (I.hok.gone hm.new)
end
theorem v_gTup2 {K : PySem.W.Frag} {n i j : Nat} {σ : St} {H : Hp} {Q : St → Hp → Prop} {p : Addr} {a b : V} (hn : n = 2) (h : H p = some (.tup [a, b])) (q : Q ((σ.set i (some a)).set j (some b)) H) : gTup K n (gCons (gName i) (gCons (gName j) gNil)) (.ref p) σ H Q :=
  ⟨p, _, rfl, SqT.of h, hn.symm, a, [b], rfl, b, [], rfl, rfl, q⟩
theorem e_md {C : Addr} {m : Str} {sp : Sp} {E : XK} {ta : TE} {t : TA} {σ : St} {H : Hp} {Q : VK} (q : ta σ H fun x H1 => ∃ a dx fs, x = .ref a ∧ H1 a = some (.ins C dx fs) ∧ fs.lookup m = none ∧ t σ H1 fun vs H2 => sp (x :: vs) H2 Q E) : tMeth C m sp [] E ta t σ H Q := by
  have e : tMeth C m sp [] E ta t = fun σ H Q => ta σ H fun x H1 => ∃ a dx fs, x = .ref a ∧ H1 a = some (.ins C dx fs) ∧ fs.lookup m = none ∧ t σ H1 fun vs H2 => sp (x :: vs) H2 Q E := by
    unfold tMeth
    simp only [List.append_nil]
  rw [e]
  exact q
end Cw
set_option Elab.async false
set_option linter.all false
set_option maxRecDepth 100000
set_option maxHeartbeats 4000000
/-! what the laws' own helpers need: copies of dicts, pop, several names at once, walks over dicts -/
namespace Cw
open PySem PySem.Spec L2
section
variable {σ : St} {H : Hp} {Q : VK} {D : Ends} {K : PySem.W.Frag} {X : Cx}
theorem e_par {i j : Nat} {ta : TA} (q : ta σ H fun vs H1 => ∃ v w, vs = [v, w] ∧ D.nx ((σ.set i (some v)).set j (some w)) H1) : tPar i j ta D σ H := q
theorem v_par {v w : V} {P : V → V → Prop} (q : P v w) : ∃ v' w', [v, w] = [v', w'] ∧ P v' w' := ⟨v, w, rfl, q⟩
theorem e_par3 {i j l : Nat} {ta : TA} (q : ta σ H fun vs H1 => ∃ u v w, vs = [u, v, w] ∧ D.nx (((σ.set i (some u)).set j (some v)).set l (some w)) H1) : tPar3 i j l ta D σ H := q
theorem v_par3 {u v w : V} {P : V → V → V → Prop} (q : P u v w) : ∃ u' v' w', [u, v, w] = [u', v', w'] ∧ P u' v' w' := ⟨u, v, w, rfl, q⟩
theorem e_lock {t : TS} {d : Addr} {u : HO} (h : H d = some u) (m : Mut (some u)) (q : ∀ od, t ⟨fun σ' H' => H' d = some (.frz od u) ∧ D.nx σ' (upd H' d u), fun v H' => H' d = some (.frz od u) ∧ D.rt v (upd H' d u), fun σ' H' => H' d = some (.frz od u) ∧ D.bk σ' (upd H' d u), fun σ' H' => H' d = some (.frz od u) ∧ D.ct σ' (upd H' d u)⟩ σ (upd H d (.frz od u))) : tLock t D σ H := ⟨d, u, h, m, q⟩
theorem e_iK {td : TE} {R : It → Hp → Prop} (q : td σ H fun x H1 => ∃ d o, x = .ref d ∧ ((∃ kvs, H1 d = some (.frz o (.dK kvs)) ∧ R (Itk d o kvs) H1) ∨ ∃ kvs, H1 d = some (.frz o (.dT kvs)) ∧ R (Itkt d o kvs) H1)) : iKeys td σ H R := q
theorem e_dnotin {ty td : TE} (q : ty σ H fun y H1 => td σ H1 fun x H2 => ∃ a o, x = .ref a ∧ DGet H2 a y o ∧ Q (.bl (!o.isSome)) H2) : tDNotIn ty td σ H Q := q
theorem v_dnotin {a : Addr} {y : V} {o : Option V} {P : Option V → Prop} (h : DGet H a y o) (q : P o) : ∃ a' o, V.ref a = .ref a' ∧ DGet H a' y o ∧ P o := ⟨a, o, rfl, h, q⟩
end
/-! ### tables by letters -/
structure Tab (ls : List Nat) (f : Nat → List Nat) : Prop where
  nd : ls.Nodup
  lt : ∀ c ∈ ls, c ∈ LET
  len : ls.length ≤ 8
  sub : ∀ a ∈ ls, ∀ b ∈ f a, b ∈ ls ∧ b ≠ a ∧ a ∈ f b
  gl : ∀ a ∈ ls, (f a).length ≤ 8
theorem asc2_all : ∀ a ∈ LET, ∀ b ∈ LET, a < b → ascOf [a, b] = [a, b] ∧ ascOf [b, a] = [a, b] := by decide +kernel
theorem asc2 {a b : Nat} (ha : a ∈ LET) (hb : b ∈ LET) (h : a < b) : ascOf [a, b] = [a, b] ∧ ascOf [b, a] = [a, b] := asc2_all a ha b hb h
theorem pairsOf_small (f : List (List Nat)) : ∀ l ∈ pairsOf f, ∀ c ∈ l, c < 1000 := by
  intro l hl c hc
  obtain ⟨a, b, rfl, ha, hb, _⟩ := pairsOf_mem.mp hl
  have h1 := LET_lt ha
  have h2 := LET_lt hb
  simp only [List.mem_cons, List.not_mem_nil, or_false] at hc
  rcases hc with rfl | rfl <;> omega
end Cw
set_option Elab.async false
set_option linter.all false
set_option maxRecDepth 100000
set_option maxHeartbeats 4000000
/-! the drawn tables, in plain words -/
namespace Cw
open PySem PySem.Spec L2
def ABC : List (List Nat) := [[97, 98, 99, 100, 101, 102, 103, 104], [98, 100, 102, 104, 106, 108, 110, 112], [115, 116, 117, 118, 119, 120, 121, 122]]
def addRel (rel : Nat → Nat → Bool) (x y : Nat) : Nat → Nat → Bool := fun a b => rel a b || (a == x && b == y) || (a == y && b == x)
/-- which kinds cross: both ways, never with itself, kinds alone -/
structure RelOk (ls : List Nat) (rel : Nat → Nat → Bool) : Prop where
  sym : ∀ a b, rel a b = rel b a
  «in» : ∀ a b, rel a b = true → a ∈ ls ∧ b ∈ ls ∧ a ≠ b
/-- only pairs up to here -/
def Upto (ls : List Nat) (rel : Nat → Nat → Bool) (i j : Nat) : Prop := ∀ i1 j1, i1 < j1 → j1 < ls.length → rel (ls.getD i1 0) (ls.getD j1 0) = true → i1 < i ∨ (i1 = i ∧ j1 < j)
def crossBy (ls : List Nat) (rel : Nat → Nat → Bool) (c : Nat) : List Nat := ls.filter (rel c)
theorem getD_inj {ls : List Nat} (h : ls.Nodup) {i j : Nat} (hi : i < ls.length) (hj : j < ls.length) (e : ls.getD i 0 = ls.getD j 0) : i = j := by
  rw [List.getD_eq_getElem?_getD, List.getD_eq_getElem?_getD, List.getElem?_eq_getElem hi, List.getElem?_eq_getElem hj] at e
  exact (List.getElem_inj h).mp e
theorem mem_getD {ls : List Nat} {c : Nat} (h : c ∈ ls) : ∃ i, i < ls.length ∧ ls.getD i 0 = c := by
  obtain ⟨i, hi, e⟩ := List.mem_iff_getElem.mp h
  refine ⟨i, hi, ?_⟩
  rw [List.getD_eq_getElem?_getD, List.getElem?_eq_getElem hi]
  exact e
section
variable {ls : List Nat} {rel : Nat → Nat → Bool} {i j : Nat}
theorem RelOk.add (ok : RelOk ls rel) {x y : Nat} (hx : x ∈ ls) (hy : y ∈ ls) (ne : x ≠ y) : RelOk ls (addRel rel x y) where
  sym a b := by
    unfold addRel
    rw [ok.sym a b, Bool.or_assoc, Bool.or_assoc]
    congr 1
    rw [Bool.or_comm, Bool.and_comm, Bool.and_comm (a == x)]
  «in» a b h := by
    unfold addRel at h
    simp only [Bool.or_eq_true, Bool.and_eq_true, beq_iff_eq] at h
    rcases h with (h | ⟨rfl, rfl⟩) | ⟨rfl, rfl⟩
    · exact ok.in a b h
    · exact ⟨hx, hy, ne⟩
    · exact ⟨hy, hx, ne.symm⟩
theorem Upto.add (hn : ls.Nodup) (hij : i < j) (hj : j < ls.length) (up : Upto ls rel i j) : Upto ls (addRel rel (ls.getD i 0) (ls.getD j 0)) i (j + 1) := by
  intro i1 j1 h1 h2 h3
  unfold addRel at h3
  simp only [Bool.or_eq_true, Bool.and_eq_true, beq_iff_eq] at h3
  rcases h3 with (h | ⟨h4, h5⟩) | ⟨h4, h5⟩
  · have := up i1 j1 h1 h2 h
    omega
  · have a := getD_inj hn (by omega) (by omega) h4
    have b := getD_inj hn h2 hj h5
    omega
  · have a := getD_inj hn (by omega) hj h4
    have b := getD_inj hn h2 (by omega) h5
    omega
theorem Upto.more (up : Upto ls rel i j) : Upto ls rel i (j + 1) := fun i1 j1 h1 h2 h3 => by
  have := up i1 j1 h1 h2 h3
  omega
theorem Upto.turn {k : Nat} (up : Upto ls rel i j) (h : ls.length ≤ j) : Upto ls rel (i + 1) k := fun i1 j1 h1 h2 h3 => by
  have := up i1 j1 h1 h2 h3
  omega
end
theorem walk_rI {lo : Int} {n : Nat} (f : Nat → Int) (h : ∀ k : Nat, lo + (k : Int) = f k) : Walk (Itr lo n) n (fun _ => True) (YFn fun k => .int (f k)) :=
  walk_range.mono (fun _ h => h) fun i H x H' _ _ y => ⟨y.1, by show x = V.int (f i); rw [← h i]; exact y.2⟩
theorem at_getD {ls : List Nat} {i : Nat} (h : i < ls.length) : atI ls ((i : Nat) : Int) = some (ls.getD i 0) := by
  refine atI_nat ?_
  rw [List.getD_eq_getElem?_getD, List.getElem?_eq_getElem h]
  rfl
theorem ascOf_congr {a b : List Nat} (h : ∀ c, c ∈ a ↔ c ∈ b) : ascOf a = ascOf b := by
  unfold ascOf
  exact List.filter_congr fun c _ => decide_eq_decide.mpr (h c)
/-- a drawn table: a beginning of one of the three texts -/
structure Flr (num : Nat) (ls : List Nat) (rel : Nat → Nat → Bool) : Prop where
  cut : ∃ t ∈ ABC, ∃ m, 1 ≤ m ∧ m ≤ num ∧ ls = t.take m
  ok : RelOk ls rel
theorem abc_ok : ∀ t ∈ ABC, t.Nodup ∧ (∀ c ∈ t, c ∈ LET) ∧ t.length = 8 ∧ t.Pairwise (· < ·) := by decide +kernel
section
variable {num : Nat} {ls : List Nat} {rel : Nat → Nat → Bool}
theorem cut_nd (h : ∃ t ∈ ABC, ∃ m, 1 ≤ m ∧ m ≤ num ∧ ls = t.take m) : ls.Nodup := by
  obtain ⟨t, ht, m, h1, h2, rfl⟩ := h
  exact (List.take_sublist m t).nodup (abc_ok t ht).1
theorem cut_lt (h : ∃ t ∈ ABC, ∃ m, 1 ≤ m ∧ m ≤ num ∧ ls = t.take m) : ∀ c ∈ ls, c ∈ LET := by
  obtain ⟨t, ht, m, h1, h2, rfl⟩ := h
  exact fun c hc => (abc_ok t ht).2.1 c ((List.take_sublist m t).subset hc)
theorem cut_len (h : ∃ t ∈ ABC, ∃ m, 1 ≤ m ∧ m ≤ num ∧ ls = t.take m) : ls.length ≤ 8 ∧ ls.length ≤ num ∧ 1 ≤ ls.length := by
  obtain ⟨t, ht, m, h1, h2, rfl⟩ := h
  have := (abc_ok t ht).2.2.1
  rw [List.length_take]
  omega
theorem cut_lt' (h : ∃ t ∈ ABC, ∃ m, 1 ≤ m ∧ m ≤ num ∧ ls = t.take m) : ls.Pairwise (· < ·) := by
  obtain ⟨t, ht, m, h1, h2, rfl⟩ := h
  exact List.Pairwise.sublist (List.take_sublist m t) (abc_ok t ht).2.2.2
theorem Flr.tab (h : Flr num ls rel) : Tab ls (crossBy ls rel) where
  nd := cut_nd h.cut
  lt := cut_lt h.cut
  len := (cut_len h.cut).1
  sub a ha b hb := by
    obtain ⟨h1, h2⟩ := List.mem_filter.mp hb
    refine ⟨h1, (h.ok.in a b h2).2.2.symm, List.mem_filter.mpr ⟨ha, ?_⟩⟩
    rw [h.ok.sym]
    exact h2
  gl a ha := Nat.le_trans (List.length_filter_le _ _) (cut_len h.cut).1
end
end Cw
set_option Elab.async false
set_option linter.all false
set_option maxRecDepth 100000
set_option maxHeartbeats 4000000
/-! calls within a try; calls that raise nothing after all -/
namespace Cw
open PySem PySem.Spec L2
section
variable {P : Program} {w : World} {K : PySem.W.Frag} {mg : Str → Option Value} {base : Heap} {k : Nat} {f : Addr} {fd : FuncData} {ps : List Str} {sp : Sp}
/-- a promise whose wishes for errors are none -/
def calmOf (sp : Sp) : Sp := fun vs H Q _ => sp vs H Q fun _ _ _ => False
theorem calm_fn (F : FnOk P w K mg base (L2.CX P w) k f fd ps sp) : FnOk P w K mg base CX0 k f fd ps (calmOf sp) := by
  refine ⟨fun vs H Q E h => F.len _ _ _ _ h, fun A outer s H args us vs Q E hr e0 hb hv h => ?_⟩
  refine codeAny_mono (F.run A outer s H args us vs Q (fun _ _ _ => False) hr e0 hb hv h) fun r s' q => ?_
  cases r with
  | ok fl => cases fl <;> exact q
  | error e =>
    obtain ⟨a, B, H', cls, d, _, _, _, _, _, _, _, z⟩ := q
    exact z.elim
theorem Def.calm {x : Str} (D : Def P w K mg base (L2.CX P w) k x ps sp) : Def P w K mg base CX0 k x ps (calmOf sp) := by
  obtain ⟨f, fd, a, b, c, d⟩ := D.ex
  exact ⟨f, fd, a, b, c, calm_fn d⟩
theorem MDef.calm {C : Addr} {m : Str} (D : MDef P w K mg base (L2.CX P w) k C m ps sp) : MDef P w K mg base CX0 k C m ps (calmOf sp) := by
  obtain ⟨f, fd, a, b, c, d, e⟩ := D.ex
  exact ⟨f, fd, a, b, c, d, calm_fn e⟩
end
section
variable {X : Cx} {CX : CXT} {k : Nat} {C : Addr} {x m : Str} {ps : List Str} {sp : Sp} {E : St → XK} {p pos apos : PySem.Pos} {o e : Expr} {es : List Expr} {ta : TE} {t : TA}
def tMethS (C : Addr) (m : Str) (sp : Sp) (E : St → XK) (ta : TE) (t : TA) : TE := fun σ H Q => ta σ H fun x H1 => ∃ a dx fs, x = .ref a ∧ H1 a = some (.ins C dx fs) ∧ fs.lookup m = none ∧ t σ H1 fun vs H2 => sp (x :: vs) H2 Q (E σ)
end
/-- a try with one clause, its reading by name -/
def tTryA (K : PySem.W.Frag) (c : Value) (i : Nat) (ts : Addr → Value → Option Addr → TS) (Wout : WX) (tb : WX → TS) : TS := fun D σ H => tb (wAs K c i ts Wout D) D σ H
theorem e_tryA {K : PySem.W.Frag} {c : Value} {i : Nat} {ts : Addr → Value → Option Addr → TS} {Wout : WX} {tb : WX → TS} {D : Ends} {σ : St} {H : Hp} (q : tb (wAs K c i ts Wout D) D σ H) : tTryA K c i ts Wout tb D σ H := q
section
variable {σ : St} {H : Hp} {Q : VK} {C : Addr} {m : Str} {sp : Sp} {E : St → XK} {ta : TE} {t : TA}
theorem e_callS (q : t σ H fun vs H1 => sp vs H1 Q (E σ)) : tCallS sp E t σ H Q := q
theorem e_mdS (q : ta σ H fun x H1 => ∃ a dx fs, x = .ref a ∧ H1 a = some (.ins C dx fs) ∧ fs.lookup m = none ∧ t σ H1 fun vs H2 => sp (x :: vs) H2 Q (E σ)) : tMethS C m sp E ta t σ H Q := q
end
theorem s_asgT {te : TE} {K : PySem.W.Frag} {n : Nat} {t : TGs} {D : Ends} {σ : St} {H : Hp} (q : te σ H fun v H1 => gTup K n t v σ H1 fun σ' H' => D.nx σ' H') : tAsg te (gTup K n t) D σ H := q
theorem e_pr {tk tv : TE} {r : List (TE × TE)} {σ : St} {H : Hp} {Q : List (V × V) → Hp → Prop} (q : tk σ H fun x H1 => tv σ H1 fun y H2 => tPairs r σ H2 fun ps H3 => Q ((x, y) :: ps) H3) : tPairs ((tk, tv) :: r) σ H Q := q
theorem e_pr0 {σ : St} {H : Hp} {Q : List (V × V) → Hp → Prop} (q : Q [] H) : tPairs [] σ H Q := q
theorem e_disp {trs : List (TE × TE)} {σ : St} {H : Hp} {Q : VK} (q : ∀ p, H p = none → tPairs trs σ (upd H p (.dK [])) fun ps H2 => H2 p = some (.dK []) ∧ ∃ kvs : List (Key × V), ps = kvs.map (fun kv => (kV kv.1, kv.2)) ∧ kvs.length ≤ 15 ∧ Q (.ref p) (upd H2 p (.dK (mergeK [] kvs)))) : tDisp trs σ H Q := q
theorem sqL_same {K : PySem.W.Frag} {H H' : Hp} {a : Addr} {xs : List V} (h : SqL K H a xs) (s : Same H H') : SqL K H' a xs := by
  rcases h with (h | ⟨o, h⟩) | h
  · exact .inl (.inl (s _ _ h))
  · exact .inl (.inr ⟨o, s _ _ h⟩)
  · exact .inr h
theorem v_slL {K : PySem.W.Frag} {H : Hp} {Q : VK} {a : Addr} {xs : List V} {lo hi : Option Int} (h : SqL K H a xs) (q : ∀ p H', H p = none → Same H H' → H' p = some (.lst (cutV xs lo hi)) → Q (.ref p) H') : rSlL K (.ref a) lo hi H Q := ⟨a, xs, rfl, h, fun p hp => q p _ hp (Same.new hp) upd_same⟩
end Cw
set_option Elab.async false
set_option linter.all false
set_option maxRecDepth 100000
set_option maxHeartbeats 4000000
/-! calls with keywords and with defaults, by where each parameter comes from -/
namespace Cw
open PySem PySem.Spec L2
/-- a parameter's value: the i-th that is given, a default, a keyword's -/
inductive Src where
  | pos (i : Nat)
  | dfl (i : Nat)
  | kw (i : Nat)
def Src.up : Src → Src
  | .pos i => .pos (i + 1)
  | .dfl i => .dfl i
  | .kw i => .kw i
def getS {α : Type} (us its ws : List α) : Src → Option α
  | .pos i => us[i]?
  | .dfl i => its[i]?
  | .kw i => ws[i]?
def gS (ss : List Src) {α : Type} (us its ws : List α) : List α := ss.filterMap (getS us its ws)
theorem vals_get : ∀ {vs : List V} {us : List Value}, Vals vs us → ∀ i : Nat, (vs[i]? = none ∧ us[i]? = none) ∨ ∃ v u, vs[i]? = some v ∧ us[i]? = some u ∧ RelV v u
  | _, _, .nil, i => .inl ⟨rfl, rfl⟩
  | _, _, .cons r t, 0 => .inr ⟨_, _, rfl, rfl, r⟩
  | _, _, .cons r t, i + 1 => by
    have := vals_get t i
    simpa using this
theorem gS_rel {vs ds zs : List V} {us its ws : List Value} (r1 : Vals vs us) (r2 : Vals ds its) (r3 : Vals zs ws) : ∀ ss : List Src, Vals (gS ss vs ds zs) (gS ss us its ws)
  | [] => .nil
  | s :: ss => by
    have ih := gS_rel r1 r2 r3 ss
    have key : (getS vs ds zs s = none ∧ getS us its ws s = none) ∨ ∃ v u, getS vs ds zs s = some v ∧ getS us its ws s = some u ∧ RelV v u := by
      cases s with
      | pos i => exact vals_get r1 i
      | dfl i => exact vals_get r2 i
      | kw i => exact vals_get r3 i
    unfold gS at ih ⊢
    rcases key with ⟨a, b⟩ | ⟨v, u, a, b, r⟩
    · rw [List.filterMap_cons_none a, List.filterMap_cons_none b]
      exact ih
    · rw [List.filterMap_cons_some a, List.filterMap_cons_some b]
      exact .cons r ih
theorem gS_up {α : Type} {x : α} {vs ds zs : List α} : ∀ ss : List Src, gS (.pos 0 :: ss.map Src.up) (x :: vs) ds zs = x :: gS ss vs ds zs := by
  intro ss
  unfold gS
  rw [List.filterMap_cons_some (show getS (x :: vs) ds zs (.pos 0) = some x from rfl), List.filterMap_map]
  congr 1
  congr 1
  funext s
  cases s <;> rfl
/-- how a call binds its n values and its keywords ks -/
abbrev KB (K : PySem.W.Frag) (fd : FuncData) (ps : List Str) (n : Nat) (ks : List Str) (ss : List Src) (dvs : List V) : Prop := ∃ g, KBn K fd ps n ks g (fun vs zs => gS ss vs dvs zs)
section
variable {K : PySem.W.Frag} {x qual : Str} {params : Arguments} {body : List Stmt} {scope : Scope} {dvs : List V} {f : Addr} {fd : FuncData} {ps : List Str}
theorem FunD.kb (F : FunD K x qual params body scope dvs [] f fd) (n : Nat) (ks : List Str) (ss : List Src) (hd : dvs ≠ [])
    (h : ∀ (T : Addr) (kV doc pm : Value) (an : Option Addr) (cdv ct : Value) (us its ws : List Value), us.length = n → its.length = dvs.length → ws.length = ks.length →
      ∃ k, bindArgs (PySem.W.fnOf x qual params body scope (.ref T) kV doc pm an cdv ct) ⟨us, ks.zip ws⟩ = seqItems? (.ref T) >>= k ∧ k (some its.toArray) = pure (ps.zip (gS ss us its ws))) : KB K fd ps n ks ss dvs := by
  obtain ⟨its, b⟩ := F.kbindsD (ps := ps) n ks (fun {_} vs ds zs => gS ss vs ds zs) hd (fun r1 r2 r3 => gS_rel r1 r2 r3 ss) h
  exact ⟨_, b⟩
end
/-- C(..) by n values and the keywords ks -/
structure CDefN (P : Program) (w : World) (K : PySem.W.Frag) (mg : Str → Option Value) (base : Heap) (CX : CXT) (k : Nat) (x : Str) (C : Addr) (sp : Sp) (n : Nat) (ks : List Str) (ss : List Src) (dvs : List V) : Prop where
  ex : ∃ f fd ps sp0, mg x = some (.ref C) ∧ Mk K C f ∧ KB K fd ps (n + 1) ks (.pos 0 :: ss.map Src.up) dvs ∧ FnOk P w K mg base CX k f fd ps sp0 ∧ Conv C sp0 sp
/-- the reading of such a call -/
def tCN (sp : Sp) (n m : Nat) (ss : List Src) (dvs : List V) (E : XK) (t tk : TA) : TE := fun σ H Q => t σ H fun vs H1 => tk σ H1 fun zs H2 => vs.length = n ∧ zs.length = m ∧ sp (gS ss vs dvs zs) H2 Q E
section
variable {P : Program} {w : World} {K : PySem.W.Frag} {mg : Str → Option Value} {base : Heap} {CX : CXT} {k : Nat} {C : Addr} {x qual : Str} {sp : Sp} {st : Stmt} {dvs : List V} {n : Nat} {ks : List Str} {ss : List Src}
theorem CDefN.mono {j : Nat} (D : CDefN P w K mg base CX j x C sp n ks ss dvs) (h : j ≤ k) : CDefN P w K mg base CX k x C sp n ks ss dvs := by
  obtain ⟨f, fd, ps, sp0, a, b, c, d, e⟩ := D.ex
  exact ⟨f, fd, ps, sp0, a, b, c, d.mono h, e⟩
theorem CMk.kw {ps : List Str} (D : CMk P w K mg base CX k x C sp ps qual st dvs) (n : Nat) (ks : List Str) (ss : List Src) (hd : dvs ≠ [])
    (h : ∀ (T : Addr) (kV doc pm : Value) (an : Option Addr) (cdv ct : Value) (us its ws : List Value), us.length = n + 1 → its.length = dvs.length → ws.length = ks.length →
      ∃ k, bindArgs (PySem.W.fnOf "__init__" qual (defArgs st) (defBody st) (defScope st) (.ref T) kV doc pm an cdv ct) ⟨us, ks.zip ws⟩ = seqItems? (.ref T) >>= k ∧ k (some its.toArray) = pure (ps.zip (gS (.pos 0 :: ss.map Src.up) us its ws))) : CDefN P w K mg base CX k x C sp n ks ss dvs := by
  obtain ⟨f, fd, sp0, a, b, c, d, e, G⟩ := D.ex
  exact ⟨f, fd, ps, sp0, a, b, FunD.kb G (n + 1) ks _ hd h, d, e⟩
end
section
variable {X : Cx} {CX : CXT} {k n : Nat} {sp : Sp} {E : XK} {x : Str} {C : Addr} {p pos : PySem.Pos} {e : Expr} {es : List Expr} {kws : List Keyword} {t tk : TA} {ks : List Str} {ss : List Src} {dvs : List V}
theorem run_mkN {pins : List (Addr × Obj)} {σ : St} {H : Hp} {s : Shared} {Q : VK} {us ws : List Value} {vs zs : List V} {f : Addr} {fd : FuncData} {ps : List Str} {sp0 : Sp} {g : List Value → List Value → List Value} (M : Mk X.K C f) (F : FnOk X.prog X.w X.K X.mg X.base CX k f fd ps sp0) (cv : Conv C sp0 sp) (hr : Room (k + 1) X.A) (hb : KBn X.K fd ps (n + 1) ks g (fun vs zs => gS (.pos 0 :: ss.map Src.up) vs dvs zs))
    (hx : Passes CX X E) (I : Inv X pins σ H s) (r : Vals vs us) (rz : Vals zs ws) (l1 : vs.length = n) (l2 : zs.length = ks.length) (h : sp (gS ss vs dvs zs) H Q E) :
    wpAny (model X.prog X.w) X.A (call (.ref C) us (ks.zip ws)) (EP X pins σ Q) X.xe s := by
  refine run_makeN M F hr hb hx I r rz l1 l2 fun a da n1 n2 n3 => ?_
  rw [gS_up]
  exact cv _ H Q E h a da n1 n2 n3
theorem pe_mkN (D : CDefN X.prog X.w X.K X.mg X.base CX k x C sp n ks ss dvs) (hr : Room (k + 1) X.A) (hx : Passes CX X E) (ha : PA X (e :: es) t) (hkw : PK X kws tk) (hg : Gl X x := by rfl)
    (hall : (backToKw pos (keywordEach kws X.env)).all (·.1.isSome) = true := by rfl) (hks : (backToKw pos (keywordEach kws X.env)).filterMap (·.1) = ks := by rfl)
    (hdb : (x == ("__debug__" : Str)) = false := by decide) (he : starEach (e :: es) X.env = (false, eval e X.env) :: starEach es X.env := by rfl)
    (hpl : ((backTo pos (starEach (e :: es) X.env)).any (·.1) || (backToKw pos (keywordEach kws X.env)).any (·.1.isNone)) = false := by rfl) :
    PE X (.Call (.Name x p) (e :: es) kws pos) (tCN sp n ks.length ss dvs E t tk) := by
  obtain ⟨f, fd, ps, sp0, a, M, ⟨g, kb⟩, F, cv⟩ := D.ex
  refine ⟨fun pins s σ H Q I h => ?_⟩
  refine wpAny_Call_Name_kw (ld_glob I hg a ?_ hdb)
  refine PySem.W.callWith_KW (h₀ := X.base) I.ok.mod.kin M.kp hall (thn (ha.run pos pins s σ H _ I h) fun us s1 ⟨vs, H1, I1, r, q⟩ => ?_) hpl he
  refine thn (hkw.run pos pins s1 σ H1 _ I1 q) fun ws s2 ⟨zs, H2, I2, rz, l1, l2, q2⟩ => ⟨I2.kIn, ?_⟩
  rw [hks]
  exact run_mkN M F cv hr kb hx I2 r rz l1 l2 q2
end
/-! ### defs and methods by keywords -/
structure DefN (P : Program) (w : World) (K : PySem.W.Frag) (mg : Str → Option Value) (base : Heap) (CX : CXT) (k : Nat) (x : Str) (sp : Sp) (n : Nat) (ks : List Str) (ss : List Src) (dvs : List V) : Prop where
  ex : ∃ f fd ps, mg x = some (.ref f) ∧ PySem.W.keepIn K (.ref f) = true ∧ KB K fd ps n ks ss dvs ∧ FnOk P w K mg base CX k f fd ps sp
structure MDefN (P : Program) (w : World) (K : PySem.W.Frag) (mg : Str → Option Value) (base : Heap) (CX : CXT) (k : Nat) (C : Addr) (m : Str) (sp : Sp) (n : Nat) (ks : List Str) (ss : List Src) (dvs : List V) : Prop where
  ex : ∃ f fd ps, PySem.W.findIn K (.ref C) m = some (some (.ref f)) ∧ PySem.W.isFn K (.ref f) = true ∧ PySem.W.keepIn K (.ref f) = true ∧ KB K fd ps (n + 1) ks (.pos 0 :: ss.map Src.up) dvs ∧ FnOk P w K mg base CX k f fd ps sp
section
variable {P : Program} {w : World} {K : PySem.W.Frag} {mg : Str → Option Value} {base : Heap} {CX : CXT} {k : Nat} {C : Addr} {x m qual : Str} {sp : Sp} {st : Stmt} {dvs : List V} {n : Nat} {ks ps : List Str} {ss : List Src}
theorem DefN.mono {j : Nat} (D : DefN P w K mg base CX j x sp n ks ss dvs) (h : j ≤ k) : DefN P w K mg base CX k x sp n ks ss dvs := by
  obtain ⟨f, fd, ps, a, b, c, d⟩ := D.ex
  exact ⟨f, fd, ps, a, b, c, d.mono h⟩
theorem MDefN.mono {j : Nat} (D : MDefN P w K mg base CX j C m sp n ks ss dvs) (h : j ≤ k) : MDefN P w K mg base CX k C m sp n ks ss dvs := by
  obtain ⟨f, fd, ps, a, b, c, d, e⟩ := D.ex
  exact ⟨f, fd, ps, a, b, c, d, e.mono h⟩
theorem kb_of {fd : FuncData} (h : ∀ us ws : List Value, us.length = n → ws.length = ks.length → bindArgs fd ⟨us, ks.zip ws⟩ = pure (ps.zip (gS ss us [] ws))) : KB K fd ps n ks ss [] :=
  ⟨fun us ws => gS ss us [] ws, ⟨fun s us ws _ l1 l2 => .of_eq (h us ws l1 l2), fun r1 r2 => gS_rel r1 .nil r2 ss⟩⟩
theorem fd_eq {f : Addr} {fd fd' : FuncData} (h : ∃ oc od osl, K.lookup f = some ⟨oc, od, .func fd, osl⟩) (h' : ∃ oc od osl, K.lookup f = some ⟨oc, od, .func fd', osl⟩) : fd = fd' := by
  obtain ⟨_, _, _, h⟩ := h
  obtain ⟨_, _, _, h'⟩ := h'
  rw [h] at h'
  injection h' with h'
  injection h' with _ _ h' _
  injection h'
theorem Def.kw (D : Def P w K mg base CX k x ps sp) (F : FnAt K mg x st) (n : Nat) (ks : List Str) (ss : List Src)
    (h : ∀ (kV doc pm : Value) (an : Option Addr) (cdv ct : Value) (us ws : List Value), us.length = n → ws.length = ks.length → bindArgs (PySem.W.fnOf x x (defArgs st) (defBody st) (defScope st) .none kV doc pm an cdv ct) ⟨us, ks.zip ws⟩ = pure (ps.zip (gS ss us [] ws))) : DefN P w K mg base CX k x sp n ks ss [] := by
  obtain ⟨f, fd, a, b, c, d⟩ := D.ex
  obtain ⟨f', fd', a', G⟩ := F.ex
  rw [a] at a'
  injection a' with a'
  injection a' with a'
  subst a'
  have e := fd_eq c.lk (funLk G)
  subst e
  refine ⟨f, fd, ps, a, b, ?_, d⟩
  obtain ⟨oc, od, kV, doc, pm, an, cdv, ct, osl, rfl, _⟩ := G.ex
  exact kb_of (h kV doc pm an cdv ct)
theorem MDef.kw (D : MDef P w K mg base CX k C m ps sp) (F : MAt K C m qual st) (n : Nat) (ks : List Str) (ss : List Src)
    (h : ∀ (kV doc pm : Value) (an : Option Addr) (cdv ct : Value) (us ws : List Value), us.length = n + 1 → ws.length = ks.length → bindArgs (PySem.W.fnOf m qual (defArgs st) (defBody st) (defScope st) .none kV doc pm an cdv ct) ⟨us, ks.zip ws⟩ = pure (ps.zip (gS (.pos 0 :: ss.map Src.up) us [] ws))) : MDefN P w K mg base CX k C m sp n ks ss [] := by
  obtain ⟨f, fd, a, b, kp, c, d⟩ := D.ex
  obtain ⟨f', fd', a', b', G⟩ := F.ex
  rw [a] at a'
  injection a' with a'
  injection a' with a'
  injection a' with a'
  subst a'
  have e := fd_eq c.lk (funLk G)
  subst e
  refine ⟨f, fd, ps, a, b, kp, ?_, d⟩
  obtain ⟨oc, od, kV, doc, pm, an, cdv, ct, osl, rfl, _⟩ := G.ex
  exact kb_of (h kV doc pm an cdv ct)
end
section
variable {X : Cx} {CX : CXT} {k n : Nat} {sp : Sp} {E : XK} {x m : Str} {C : Addr} {p pos apos : PySem.Pos} {o e : Expr} {es : List Expr} {kws : List Keyword} {ta : TE} {t tk : TA} {ks : List Str} {ss : List Src} {dvs : List V}
/-- o.m(.., k = v) -/
def tMN (C : Addr) (m : Str) (sp : Sp) (n l : Nat) (ss : List Src) (dvs : List V) (E : XK) (ta : TE) (t tk : TA) : TE := fun σ H Q => ta σ H fun x H1 => ∃ a dx fs, x = .ref a ∧ H1 a = some (.ins C dx fs) ∧ fs.lookup m = none ∧ t σ H1 fun vs H2 => tk σ H2 fun zs H3 => vs.length = n ∧ zs.length = l ∧ sp (x :: gS ss vs dvs zs) H3 Q E
end
section
variable {X : Cx} {CX : CXT} {k : Nat} {C : Addr} {m : Str} {ps : List Str} {sp : Sp} {E : XK} {pos apos : PySem.Pos} {o : Expr} {ta : TE}
/-- dict(xs) of pairs -/
def rDictP (K : PySem.W.Frag) : List V → Hp → VK → Prop := fun xs H Q => ∃ (a : Addr) (ps : List Addr) (kvs : List (Key × V)), xs = [.ref a] ∧ SqL K H a (ps.map V.ref) ∧ Paired (fun p kv => SqT K H p [kV kv.1, kv.2]) ps kvs ∧ ∀ p, H p = none → Q (.ref p) (upd H p (.dK (mergeK [] kvs)))
theorem c_dictPK {K : PySem.W.Frag} (h : X.K = K) (hc : X.calm = true) : CallR X (.type "dict") (rDictP K) := h ▸ call_dictP hc
end
theorem merge_new : ∀ {more acc : List (Key × V)}, (∀ q ∈ more, valV acc q.1 = none) → more.Pairwise (fun a b => a.1 ≠ b.1) → mergeK acc more = acc ++ more
  | [], acc, _, _ => (List.append_nil acc).symm
  | q :: more, acc, h, p => by
    have p' := List.pairwise_cons.mp p
    show mergeK (putK acc q.1 q.2) more = _
    rw [putK_new q.2 (h q (List.mem_cons_self ..)), merge_new (fun r hr => ?_) p'.2, List.append_assoc]
    · rfl
    · have h1 := h r (List.mem_cons_of_mem _ hr)
      have h2 := p'.1 r hr
      clear h p p'
      induction acc with
      | nil =>
        show valV [q] r.1 = none
        obtain ⟨a, b⟩ := q
        rw [valV_neg h2]
        rfl
      | cons c acc ih =>
        obtain ⟨a, b⟩ := c
        by_cases e : a = r.1
        · rw [e, valV_pos rfl] at h1
          cases h1
        · rw [valV_neg e] at h1
          rw [List.cons_append, valV_neg e]
          exact ih h1
section
variable {σ : St} {H : Hp} {Q : VK}
theorem e_CN {sp : Sp} {n m : Nat} {ss : List Src} {dvs : List V} {E : XK} {t tk : TA} (q : t σ H fun vs H1 => tk σ H1 fun zs H2 => vs.length = n ∧ zs.length = m ∧ sp (gS ss vs dvs zs) H2 Q E) : tCN sp n m ss dvs E t tk σ H Q := q
end
end Cw
set_option Elab.async false
set_option linter.all false
set_option maxRecDepth 100000
set_option maxHeartbeats 4000000
/-! ''.join(d): the keys of a dict, one behind another -/
namespace PySem
open Builtin Builtin.Str
section
variable {prog : Program} {w : World} {A : Around} {E : Value → Shared → Prop} {s : Shared} {J : Addr} {fp wr : List Addr} {G : Array GenState → Array GenState → Prop} {m : Nat} {P : Nat → Value → Prop} {Z : Nat → Shared → Prop}
end
section
variable {prog : Program} {w : World} {A : Around} {E : Value → Shared → Prop} {s : Shared} {sep : Str} {t : Tok} {Q : Value → Shared → Prop}
end
end PySem

namespace Cw
open PySem PySem.Spec L2 PyProof.Rows
section
variable {X : Cx} {K : PySem.W.Frag}
end
/-- [e for x in ..]: e makes new objects; Rel tells of each item what it is -/
theorem lc_mapA {σ : L2.St} {H : Hp} {i : Nat} {tt : TT} {te : TE} {P : Addr → Hp → Prop} {J : It} {n : Nat} {G : Hp → Prop} {it : Nat → V} (Rel : Nat → V → Hp → Prop) (w : Walk J n G (fun k H x H' => H' = H ∧ x = it k)) (hG : ∀ H', Same H H' → G H') (hn : n ≤ 1000000)
    (m1 : ∀ k v H1 H2, Rel k v H1 → Same H1 H2 → Rel k v H2) (m2 : ∀ k v H1 H2 D l, Rel k v H1 → H1 D = some (.lst l) → Keep D H1 H2 → Rel k v H2)
    (ht : ∀ k, k < n → ∀ H1, Same H H1 → ∀ R : Bool → Hp → Prop, (∀ H2, Same H1 H2 → R true H2) → tt ((wipe σ [i]).set i (some (it k))) H1 R)
    (he : ∀ k, k < n → ∀ H1, Same H H1 → ∀ R : VK, (∀ v H2, Same H1 H2 → Rel k v H2 → R v H2) → te ((wipe σ [i]).set i (some (it k))) H1 R)
    (q : ∀ D H' vs, H D = none → Same H H' → H' D = some (.lst vs) → vs.length = n → (∀ k v, vs[k]? = some v → Rel k v H') → P D H') :
    ∀ D, H D = none → ∃ W : Nat → Nat → Hp → Prop, (∃ m, W 0 m (upd H D (.lst []))) ∧ ∀ k m H, W k m H →
      (J.stop k H ∧ P D H) ∨ (J.go k H ∧ ∃ Nx : Hp → Prop, (∀ H', Nx H' → ∃ m', m' < m ∧ W (k + 1) m' H') ∧ ∀ x H', J.yld k H x H' → (gName i) x (wipe σ [i]) H' fun s2 H2 => wipe s2 [i] = wipe σ [i] ∧ tt s2 H2 fun c H3 =>
        if c = true then te s2 H3 fun y H4 => ∃ acc, H4 D = some (.lst acc) ∧ acc.length < sizeLine ∧ Nx (upd H4 D (.lst (acc ++ [y]))) else Nx H3) := by
  intro D hD
  refine lc_it w (vs := [i]) (σ := σ) (g := gName i) (tt := tt) (te := te) (Qd := fun H' => P D H') (fun k H' => Same H H' ∧ ∃ vs, H' D = some (.lst vs) ∧ vs.length = k ∧ ∀ j v, vs[j]? = some v → Rel j v H')
    ⟨Same.new hD, [], upd_same, rfl, fun j v z => by simp at z⟩ (fun k H' _ p => hG H' p.1) (fun k x H1 H2 hk p y => ?_) (fun H' p => ?_)
  · obtain ⟨p1, vs, p2, p3, p4⟩ := p
    obtain ⟨rfl, rfl⟩ := y
    refine ⟨wipe1, ht k hk _ p1 _ fun H3 s3 => ?_⟩
    rw [if_pos rfl]
    refine he k hk _ (p1.trans s3) _ fun v H4 s4 r4 => ?_
    have e4 := s4 _ _ (s3 _ _ p2)
    refine ⟨vs, e4, szlt (by omega), fun a o ha => ?_, vs ++ [v], upd_same, by rw [List.length_append, p3]; rfl, fun j u hj => ?_⟩
    · rw [upd_ne (ne_of_none ha hD)]
      exact s4 _ _ (s3 _ _ (p1 _ _ ha))
    · by_cases c : j < vs.length
      · rw [List.getElem?_append_left c] at hj
        exact m2 _ _ _ _ D vs (m1 _ _ _ _ (p4 j u hj) (s3.trans s4)) e4 Keep.put
      · have e : j = vs.length := by
          have := (List.getElem?_eq_some_iff.mp hj).1
          rw [List.length_append, List.length_singleton] at this
          omega
        rw [e, List.getElem?_append_right (Nat.le_refl _), Nat.sub_self] at hj
        injection hj with hj
        rw [e, ← hj, p3]
        exact m2 _ _ _ _ D vs r4 e4 Keep.put
  · obtain ⟨p1, vs, p2, p3, p4⟩ := p
    exact q D H' vs hD p1 p2 p3 p4
section
variable {σ : L2.St} {H : Hp} {Q : VK} {te ta : TE} {D : Ends} {K : PySem.W.Frag} {n : Nat} {t : TGs}
theorem s_asgL (q : te σ H fun v H1 => gLst K n t v σ H1 fun σ2 H2 => D.nx σ2 H2) : tAsg te (gLst K n t) D σ H := q
theorem e_MN {C : Addr} {m : Str} {sp : Sp} {n l : Nat} {ss : List Src} {dvs : List V} {E : XK} {t tk : TA} (q : ta σ H fun x H1 => ∃ a dx fs, x = .ref a ∧ H1 a = some (.ins C dx fs) ∧ fs.lookup m = none ∧ t σ H1 fun vs H2 => tk σ H2 fun zs H3 => vs.length = n ∧ zs.length = l ∧ sp (x :: gS ss vs dvs zs) H3 Q E) : tMN C m sp n l ss dvs E ta t tk σ H Q := q
end
end Cw
set_option Elab.async false
set_option linter.all false
set_option maxRecDepth 100000
set_option maxHeartbeats 4000000
/-! xs != ys of lists: their lengths differ, or they hold the same objects -/
namespace Cw
open PySem PySem.Spec L2
end Cw
set_option Elab.async false
set_option linter.all false
set_option maxRecDepth 100000
set_option maxHeartbeats 4000000
/-! [e for i, x in enumerate(list)] -/
namespace Cw
open PySem PySem.Spec L2
section
variable {K : PySem.W.Frag} {σ : L2.St} {H : Hp} {i j : Nat} {tt : TT} {te : TE} {P : Addr → Hp → Prop} {a : Addr}
theorem e_iEnumL {ta : TA} {R : It → Hp → Prop} (q : ta σ H fun vs H1 => ∃ a xs, vs = [.ref a] ∧ SqL K H1 a xs ∧ R (Ite K a) H1) : iEnum K ta σ H R := q
theorem walk_enumL {xs : List V} : Walk (Ite K a) xs.length (fun H => H a = some (.lst xs)) (fun i H v H' => ∃ T x, v = .ref T ∧ H T = none ∧ H' = upd H T (.tup [.int (i : Nat), x]) ∧ xs[i]? = some x) := by
  refine ⟨fun i H hi h => ⟨xs, xs[i], SqL.of h, List.getElem?_eq_getElem hi⟩, fun H h => ⟨xs, SqL.of h, Nat.le_refl _⟩, fun i H v H' hi h y => ?_⟩
  obtain ⟨T, x, e1, e2, e3, e4⟩ := y
  exact ⟨T, x, e1, e2, e3, e4 xs (SqL.of h)⟩
end
end Cw
set_option Elab.async false
set_option linter.all false
set_option maxRecDepth 100000
set_option maxHeartbeats 4000000
/-! enumerate(tuple) -/
namespace PySem
open Sem (wp)
open AutoSeq1 (wpAny_loadPart')
set_option maxHeartbeats 4000000 in
theorem cw_newT (t : Addr) (items : Array Value) {o : Obj} (hc : o.cls = .type "tuple") (hd : ∃ n, o.data = .seq items n) :
    Meets (Builtin.«enumerate.__new__» ⟨[.type "enumerate", .ref t], []⟩) (fun _ R s => s.heap.get? t = some o ∧
      R (.ok (.ret (.ref (s.heap.push { cls := .type "tuple_iterator", data := .fields #[.ref t, .int 0 0] }).objs.size)))
        { s with heap := (s.heap.push { cls := .type "tuple_iterator", data := .fields #[.ref t, .int 0 0] }).push { cls := .type "enumerate", data := .fields #[.none, .bool false, .ref s.heap.objs.size, rawInt 0, .none, .none] } }) :=
  .of_wp fun prog w A R s h => by
    obtain ⟨hp, g, d, tk, os⟩ := s
    obtain ⟨ht, h⟩ := h
    have hsub := sub_enumerate
    obtain ⟨c, dct, dt, sl⟩ := o
    obtain ⟨n, hd⟩ := hd
    replace hc : c = .type "tuple" := hc
    replace hd : dt = .seq items n := hd
    subst hc hd
    have hT : Heap.IsTuple (Shared.heap ⟨hp, g, d, tk, os⟩) t items := ⟨_, ht, rfl, n, rfl⟩
    wp_walk using wpAny_loadPart' ht
    refine wpAny_stack_any fun st => wpAny_pure ?_
    split
    · rename_i c _ _ _ _ _
      cases (c == Value.type "enumerate")
      all_goals
        wp_walk using wpAny_loadPart' ht, wpAny_pyIter_tuple hT
        exact ⟨_, rfl, h⟩
    · wp_walk using wpAny_loadPart' ht, wpAny_pyIter_tuple hT
      exact ⟨_, rfl, h⟩
section
variable {prog : Program} {w : World} {A : Around} {E : Value → Shared → Prop} {s : Shared}
theorem cw_call_enumT {t : Addr} {items : Array Value} {Q : Value → Shared → Prop} (hT : s.heap.IsTuple t items)
    (h : ∀ h', IsEnum h' (s.heap.objs.size + 1) s.heap.objs.size 0 .none → h'.IsTupleIter s.heap.objs.size t 0 → (∀ b o, s.heap.get? b = some o → h'.get? b = some o) → Q (.ref (s.heap.objs.size + 1)) { s with heap := h' }) :
    wpAny (model prog w) A (call (.type "enumerate") [.ref t]) Q E s := by
  obtain ⟨o, ht, hc, hd⟩ := hT
  refine callType_new F.called_enumerate (by decide) (F.typeCall_enumerate_1 _) (F.newCall_enumerate_1 _) (fun obj => F.args_object_init_2 obj _) F.entry_enumerate_new (cw_newT t items hc hd) ⟨ht, ?_⟩
  generalize e1 : s.heap.push { cls := .type "tuple_iterator", data := .fields #[.ref t, .int 0 0] } = h1
  have hz : h1.objs.size = s.heap.objs.size + 1 := by rw [← e1]; exact Heap.size_push ..
  have hi : h1.get? s.heap.objs.size = some { cls := .type "tuple_iterator", data := .fields #[.ref t, .int 0 0] } := by rw [← e1]; exact Heap.get?_push_size _ rfl
  have k1 : ∀ b o, s.heap.get? b = some o → h1.get? b = some o := fun b o x => by rw [← e1]; exact Heap.get?_push_of_some _ x
  show _ ∧ _
  rw [hz]
  generalize e2 : h1.push { cls := .type "enumerate", data := .fields #[.none, .bool false, .ref s.heap.objs.size, rawInt 0, .none, .none] } = h2
  have he : IsEnum h2 (s.heap.objs.size + 1) s.heap.objs.size 0 .none := by rw [← e2, ← hz]; exact Heap.get?_push_size _ rfl
  have k2 : ∀ b o, h1.get? b = some o → h2.get? b = some o := fun b o x => by rw [← e2]; exact Heap.get?_push_of_some _ x
  exact ⟨⟨_, he, rfl⟩, h _ he ⟨_, k2 _ _ hi, rfl, rfl⟩ fun b o x => k2 _ _ (k1 _ _ x)⟩
end
end PySem
namespace Cw
open PySem PySem.Spec L2
/-- the tuple at a, each item in a new pair -/
def Itet (K : PySem.W.Frag) (a : Addr) (xs : List V) : It :=
  ⟨fun i H => i < xs.length ∧ SqT K H a xs, fun i H v H' => ∃ T x, v = .ref T ∧ H T = none ∧ H' = upd H T (.tup [.int (i : Nat), x]) ∧ xs[i]? = some x, fun i H => xs.length ≤ i ∧ SqT K H a xs⟩
theorem turn_enumT {P : Program} {w : World} {K : PySem.W.Frag} {elts : List Expr} {kk : Nat} {tpos : PySem.Pos} (a e it : Addr) (xs : List V) (hne : e ≠ it) (ha : a ≠ it) (he' : e ≠ a) :
    Turn P w K (.Tuple elts kk tpos) (Itet K a xs) [e, it] e (fun i h => i ≤ xs.length ∧ (∃ old, IsEnum h e it (i : Nat) old) ∧ h.IsTupleIter it a i) where
  mem := by simp
  obj := fun i h st b hb => by
    obtain ⟨_, ⟨old, he⟩, ⟨o, ho, hc, hd⟩⟩ := st
    simp only [List.mem_cons, List.not_mem_nil, or_false] at hb
    rcases hb with rfl | rfl
    · exact ⟨_, he, fun v q => nomatch q⟩
    · exact ⟨o, ho, fun v q => by rw [hd] at q; cases q⟩
  keep := fun i h h' st k => by
    obtain ⟨h0, ⟨old, he⟩, ⟨o, ho, r⟩⟩ := st
    exact ⟨h0, ⟨old, k e (by simp) _ he⟩, ⟨o, k it (by simp) o ho, r⟩⟩
  item := by
    intro X hP hw hK hc i pins s σ H E I hf st hg
    subst hP hw hK
    obtain ⟨hi, hq⟩ := hg
    obtain ⟨x, hx⟩ : ∃ x, xs[i]? = some x := ⟨_, List.getElem?_eq_getElem hi⟩
    obtain ⟨its, rv, p, hz⟩ := I.tuple hq
    obtain ⟨u, hu, ru⟩ := rv.get hx
    have pT : s.heap.IsTuple a its.toArray := p
    have W := WalksT.enumerateD (A := X.A) (Draws.tuple (prog := X.prog) (w := X.w) (A := X.A.in1) (I.ok.hd hc) it a ha its.toArray) e hne (by simp [hne, he']) (by simp)
    obtain ⟨_, ⟨old, he⟩, hit⟩ := st
    have hel : e < s.heap.objs.size := Heap.lt_size he
    have hil : it < s.heap.objs.size := by obtain ⟨_, q, _⟩ := hit; exact Heap.lt_size q
    have hin : i < its.toArray.size := by
      have := (List.getElem?_eq_some_iff.mp hu).1
      simpa using this
    refine W.item i s _ E hin ⟨⟨old, he⟩, hit, pT⟩ fun T vals h' tk hv hT isT mid kp => ⟨_, rfl, W.go elts kk tpos i T { s with heap := h', toks := tk } _ E mid fun h2 st2 kp2 => ?_⟩
    obtain ⟨t', y, hy, rfl⟩ := hv
    have eu : y = u := by
      have z : its.toArray[i]? = some u := by simpa using hu
      rw [z] at hy
      injection hy with hy
      exact hy.symm
    subst eu
    have hTw := W.apart i T h' mid
    obtain ⟨o, ho, r⟩ := isT
    have isT2 : h2.IsTuple T #[.int i t', y] := ⟨o, kp2 T o hTw ho, r⟩
    have new : ObjOk X.prog X.w (upd H T (.tup [.int (i : Nat), x])) h2 T (.tup [.int (i : Nat), x]) := ⟨by show 2 ≤ sizeLine; decide, [.int i t', y], .cons ⟨_, rfl⟩ (.cons ru .nil), isT2⟩
    refine ⟨.ref T, _, I.turnedNew (ch := [e, it]) (t' := tk) (fun b ob hb q => kp2 b ob hb (kp b ob hb q)) hf hT new, rfl, ⟨T, x, rfl, I.hok.fresh hT, rfl, hx⟩, ⟨hi, st2.1, st2.2.1⟩, fun b hb => ?_⟩
    have hb2 : b < T := by
      simp only [List.mem_cons, List.not_mem_nil, or_false] at hb
      rcases hb with rfl | rfl
      · exact Nat.lt_of_lt_of_le hel hT
      · exact Nat.lt_of_lt_of_le hil hT
    rw [upd_ne (Nat.ne_of_lt hb2)]
    exact (hf b hb).1
  done := by
    intro X hP hw hK hc i pins s σ H E I hf st hg
    subst hP hw hK
    obtain ⟨hi, hq⟩ := hg
    obtain ⟨h0, ⟨old, he⟩, hit⟩ := st
    obtain ⟨its, rv, p, hz⟩ := I.tuple hq
    have pT : s.heap.IsTuple a its.toArray := p
    have hl := rv.length
    have e1 : i = its.toArray.size := by
      rw [List.size_toArray]
      omega
    subst e1
    have W := WalksT.enumerateD (A := X.A) (Draws.tuple (prog := X.prog) (w := X.w) (A := X.A.in1) (I.ok.hd hc) it a ha its.toArray) e hne (by simp [hne, he']) (by simp)
    exact W.done s _ E ⟨⟨old, he⟩, hit, pT⟩ fun h' tk kp => ⟨rfl, I.turnedL kp hf⟩
  self := fun A i s Q E st h => by
    obtain ⟨_, ⟨_, he⟩, _⟩ := st
    exact wpAny_pyIter_enum he h
def iEnumT (K : PySem.W.Frag) (ta : TA) : TI := fun σ H R => ta σ H fun vs H1 => ∃ a xs, vs = [.ref a] ∧ SqT K H1 a xs ∧ R (Itet K a xs) H1
theorem pi_enumT {X : Cx} {e : Expr} {ta : TA} {p pos tpos : PySem.Pos} {elts : List Expr} {kk : Nat} (hg : Gl X "enumerate") (hm : X.mg "enumerate" = none) (ha : PA X [e] ta) (hs : starEach [e] X.env = [(false, eval e X.env)] := by rfl) :
    PI X (.Tuple elts kk tpos) (.Call (.Name "enumerate" p) [e] [] pos) (iEnumT X.K ta) := by
  refine ⟨fun pins s σ H R I h => ?_⟩
  refine PyProof.Rows.Call_ (ld_blt I hg hm PyProof.Rows.boot_enumerate (PyProof.Rows.callWith_type1 (thn (ha.run pos pins s σ H _ I h) fun us s1 ⟨vs, H1, I1, r1, a, xs, ex, hq, q⟩ => ?_) hs rfl))
  subst ex
  obtain ⟨u, rfl, ru⟩ := vals1 r1
  cases ru
  obtain ⟨its, rv, p', hz⟩ := I1.tuple hq
  have al : a < s1.heap.objs.size := by
    obtain ⟨o, ho, _⟩ := p'
    exact Heap.lt_size ho
  refine cw_call_enumT p' fun h' he hit hk => wpAny_pyIter_enum he ?_
  have I2 : L2.Inv X pins σ H1 { s1 with heap := h' } := I1.kept (t' := s1.toks) hk
  refine ⟨s1.heap.objs.size + 1, [s1.heap.objs.size + 1, s1.heap.objs.size], _, _, H1, rfl, I2, turn_enumT a (s1.heap.objs.size + 1) s1.heap.objs.size xs (Nat.succ_ne_self _) (Nat.ne_of_lt al) (fun z => absurd al (by rw [← z]; exact Nat.not_lt_of_le (Nat.le_succ _))), ⟨Nat.zero_le _, ⟨.none, he⟩, hit⟩, fun b hb => ?_, q⟩
  have hle : s1.heap.objs.size ≤ b := by
    simp only [List.mem_cons, List.not_mem_nil, or_false] at hb
    rcases hb with rfl | rfl
    · exact Nat.le_succ _
    · exact Nat.le_refl _
  exact I1.fpOk hle (I1.hok.fresh hle)
end Cw
set_option Elab.async false
set_option linter.all false
set_option maxRecDepth 100000
set_option maxHeartbeats 4000000
/-! lists and tuples of objects, each of which stands for a value -/
namespace Cw
open PySem PySem.Spec L2
section
variable {α : Type} {R : Hp → Addr → α → Prop} {H H' : Hp} {t : Addr} {D : List α}
/-- the values, each with its object -/
abbrev refV (E : List (α × Addr)) : List V := E.map fun e => V.ref e.2
structure RefsL (R : Hp → Addr → α → Prop) (H : Hp) (t : Addr) (D : List α) : Prop where
  ex : ∃ E : List (α × Addr), E.map (·.1) = D ∧ H t = some (.lst (refV E)) ∧ ∀ e ∈ E, R H e.2 e.1
structure RefsT (R : Hp → Addr → α → Prop) (H : Hp) (t : Addr) (D : List α) : Prop where
  ex : ∃ E : List (α × Addr), E.map (·.1) = D ∧ H t = some (.tup (refV E)) ∧ ∀ e ∈ E, R H e.2 e.1
theorem RefsL.same (h : RefsL R H t D) (s : Same H H') (hr : ∀ p a, R H p a → R H' p a) : RefsL R H' t D := by
  obtain ⟨E, e1, e2, e3⟩ := h.ex
  exact ⟨E, e1, s _ _ e2, fun e he => hr _ _ (e3 e he)⟩
theorem RefsT.same (h : RefsT R H t D) (s : Same H H') (hr : ∀ p a, R H p a → R H' p a) : RefsT R H' t D := by
  obtain ⟨E, e1, e2, e3⟩ := h.ex
  exact ⟨E, e1, s _ _ e2, fun e he => hr _ _ (e3 e he)⟩
theorem refs_of : ∀ {vs : List V} {D : List α}, vs.length = D.length → (∀ (k : Nat) v d, vs[k]? = some v → D[k]? = some d → ∃ p, v = .ref p ∧ R H p d) → ∃ E : List (α × Addr), E.map (·.1) = D ∧ vs = refV E ∧ ∀ e ∈ E, R H e.2 e.1
  | [], [], _, _ => ⟨[], rfl, rfl, fun _ z => nomatch z⟩
  | [], _ :: _, h, _ => nomatch h
  | _ :: _, [], h, _ => nomatch h
  | v :: vs, d :: D, hl, h => by
    obtain ⟨p, rfl, r⟩ := h 0 v d rfl rfl
    obtain ⟨E, e1, e2, e3⟩ := refs_of (vs := vs) (D := D) (Nat.succ.inj hl) fun k v d h1 h2 => h (k + 1) v d h1 h2
    refine ⟨(d, p) :: E, by rw [List.map_cons, e1], by rw [e2]; rfl, fun e he => ?_⟩
    rcases List.mem_cons.mp he with rfl | he
    · exact r
    · exact e3 e he
theorem walk_refE {K : PySem.W.Frag} {E : List (α × Addr)} : Walk (Itl K t) E.length (fun H => SqL K H t (refV E)) (fun k H x H' => H' = H ∧ ∃ e, E[k]? = some e ∧ x = V.ref e.2) := by
  have w := walk_list (K := K) (a := t) (xs := refV E)
  rw [List.length_map] at w
  refine w.mono (fun _ z => z) fun i H x H' hi _ y => ?_
  obtain ⟨rfl, e⟩ := y
  rw [List.getElem?_map] at e
  obtain ⟨z, h1, h2⟩ := Option.map_eq_some_iff.mp e
  exact ⟨rfl, z, h1, h2.symm⟩
theorem take_succ_get {l : List α} {i : Nat} {a : α} (h : l[i]? = some a) : l.take (i + 1) = l.take i ++ [a] := by rw [List.take_succ, h]; rfl
end
section
variable {K : PySem.W.Frag} {H H0 : Hp} {p : Addr} {te0 te : TE} {σ : L2.St}
/-- a loop over a list or a tuple -/
theorem e_forSeqA {xs : List V} {g : TG} {tb : TS} {D : Ends} (hp : SeqO K H0 p xs) (s0 : Same H0 H) (ht : ∀ Q : VK, Q (.ref p) H → te0 σ H Q) (Pv : Nat → L2.St → Hp → Prop) (h0 : Pv 0 σ H) (hG : ∀ i σ' H', Pv i σ' H' → Same H0 H')
    (hs : ∀ i x σ H1, xs[i]? = some x → Pv i σ H1 → g x σ H1 fun σ2 H2 => tb { D with nx := Pv (i + 1), ct := Pv (i + 1), bk := D.nx } σ2 H2) (hd : ∀ σ H, Pv xs.length σ H → D.nx σ H) : tFor (iOr (iList K te0) (iTup K te0)) g tb D σ H := by
  rcases hp with hp | hp | ⟨rfl, o, n, h, c, e⟩
  · refine Or.inl (ht _ ⟨p, rfl, ⟨xs, SqL.of (s0 _ _ hp)⟩, for_it (walk_list (K := K) (xs := xs)) Pv h0 (fun i σ' H' _ z => SqL.of (hG i σ' H' z _ _ hp)) (fun i v σ' H1 H2 hi pv y => ?_) hd⟩)
    obtain ⟨rfl, hx⟩ := y
    exact hs i v σ' _ hx pv
  · refine Or.inr (ht _ ⟨p, rfl, ⟨xs, SqT.of (s0 _ _ hp)⟩, for_it (walk_tup (K := K) (xs := xs)) Pv h0 (fun i σ' H' _ z => SqT.of (hG i σ' H' z _ _ hp)) (fun i v σ' H1 H2 hi pv y => ?_) hd⟩)
    obtain ⟨rfl, hx⟩ := y
    exact hs i v σ' _ hx pv
  · have k0 : ∀ H', SqT K H' p [] := fun H' => .inr ⟨o, #[], n, h, c, e, by decide, .nil⟩
    exact Or.inr (ht _ ⟨p, rfl, ⟨[], k0 _⟩, for_it (walk_tup (K := K) (xs := [])) Pv h0 (fun i σ' H' _ z => k0 _) (fun i v σ' H1 H2 hi _ _ => absurd hi (Nat.not_lt_zero _)) hd⟩)
variable {α : Type} {E : List (α × Addr)} {R' : Hp → V → α → Prop} {i : Nat} {tt : TT} {Q : VK}
theorem refV_get {k : Nat} {e : α × Addr} (h : E[k]? = some e) : (refV E).getD k .non = .ref e.2 := by rw [List.getD_eq_getElem?_getD, List.getElem?_map, h]; rfl
theorem lc_refsW {P : Addr → Hp → Prop} {J : It} {G : Hp → Prop} (w : Walk J E.length G (fun k H x H' => H' = H ∧ x = (refV E).getD k .non)) (hG : ∀ H', Same H H' → G H') (hl : E.length ≤ 1000000) (m1 : ∀ v a H1 H2, R' H1 v a → Same H1 H2 → R' H2 v a) (m2 : ∀ v a H1 H2 D l, R' H1 v a → H1 D = some (.lst l) → Keep D H1 H2 → R' H2 v a)
    (ht : ∀ e ∈ E, ∀ H1, Same H H1 → ∀ R : Bool → Hp → Prop, (∀ H2, Same H1 H2 → R true H2) → tt ((wipe σ [i]).set i (some (.ref e.2))) H1 R)
    (he : ∀ e ∈ E, ∀ H1, Same H H1 → ∀ R : VK, (∀ v H2, Same H1 H2 → R' H2 v e.1 → R v H2) → te ((wipe σ [i]).set i (some (.ref e.2))) H1 R)
    (q : ∀ D H' vs, H D = none → Same H H' → H' D = some (.lst vs) → vs.length = E.length → (∀ (k : Nat) (v : V) (e : α × Addr), vs[k]? = some v → E[k]? = some e → R' H' v e.1) → P D H') :
    ∀ D, H D = none → ∃ W : Nat → Nat → Hp → Prop, (∃ m, W 0 m (upd H D (.lst []))) ∧ ∀ k m H, W k m H →
      (J.stop k H ∧ P D H) ∨ (J.go k H ∧ ∃ Nx : Hp → Prop, (∀ H', Nx H' → ∃ m', m' < m ∧ W (k + 1) m' H') ∧ ∀ x H', J.yld k H x H' → (gName i) x (wipe σ [i]) H' fun s2 H2 => wipe s2 [i] = wipe σ [i] ∧ tt s2 H2 fun c H3 =>
        if c = true then te s2 H3 fun y H4 => ∃ acc, H4 D = some (.lst acc) ∧ acc.length < sizeLine ∧ Nx (upd H4 D (.lst (acc ++ [y]))) else Nx H3) := by
  refine lc_mapA (P := P) (fun k v H' => ∀ e, E[k]? = some e → R' H' v e.1) w hG hl (fun k v H1 H2 h s e z => m1 _ _ _ _ (h e z) s) (fun k v H1 H2 D l h e0 kp e z => m2 _ _ _ _ _ _ (h e z) e0 kp) (fun k hk H1 s1 R r => ?_) (fun k hk H1 s1 R r => ?_) (fun D H' vs hD s e l h => q D H' vs hD s e l fun k v e h1 h2 => h k v h1 e h2)
  · have z : E[k]? = some E[k] := List.getElem?_eq_getElem hk
    rw [refV_get z]
    exact ht _ (List.getElem_mem hk) H1 s1 R r
  · have z : E[k]? = some E[k] := List.getElem?_eq_getElem hk
    rw [refV_get z]
    exact he _ (List.getElem_mem hk) H1 s1 R fun v H2 s2 h => r v H2 s2 fun e h2 => by
      rw [z] at h2
      injection h2 with h2
      rw [← h2]
      exact h
theorem yld_get {xs : List V} {k : Nat} {v : V} (h : xs[k]? = some v) : v = xs.getD k .non := by rw [List.getD_eq_getElem?_getD, h]; rfl
/-- a comprehension over a list or a tuple of objects -/
theorem i_refs {P : Addr → Hp → Prop} (hp : SeqO K H0 p (refV E)) (s0 : Same H0 H) (hl : E.length ≤ 1000000) (ht0 : ∀ Q : VK, Q (.ref p) H → te0 σ H Q) (m1 : ∀ v a H1 H2, R' H1 v a → Same H1 H2 → R' H2 v a) (m2 : ∀ v a H1 H2 D l, R' H1 v a → H1 D = some (.lst l) → Keep D H1 H2 → R' H2 v a)
    (ht : ∀ e ∈ E, ∀ H1, Same H H1 → ∀ R : Bool → Hp → Prop, (∀ H2, Same H1 H2 → R true H2) → tt ((wipe σ [i]).set i (some (.ref e.2))) H1 R)
    (he : ∀ e ∈ E, ∀ H1, Same H H1 → ∀ R : VK, (∀ v H2, Same H1 H2 → R' H2 v e.1 → R v H2) → te ((wipe σ [i]).set i (some (.ref e.2))) H1 R)
    (q : ∀ D H' vs, H D = none → Same H H' → H' D = some (.lst vs) → vs.length = E.length → (∀ (k : Nat) (v : V) (e : α × Addr), vs[k]? = some v → E[k]? = some e → R' H' v e.1) → P D H') : iOr (iList K te0) (iTup K te0) σ H fun J H1 => ∀ D, H1 D = none → ∃ W : Nat → Nat → Hp → Prop, (∃ m, W 0 m (upd H1 D (.lst []))) ∧ ∀ k m H, W k m H →
      (J.stop k H ∧ P D H) ∨ (J.go k H ∧ ∃ Nx : Hp → Prop, (∀ H', Nx H' → ∃ m', m' < m ∧ W (k + 1) m' H') ∧ ∀ x H', J.yld k H x H' → (gName i) x (wipe σ [i]) H' fun s2 H2 => wipe s2 [i] = wipe σ [i] ∧ tt s2 H2 fun c H3 =>
        if c = true then te s2 H3 fun y H4 => ∃ acc, H4 D = some (.lst acc) ∧ acc.length < sizeLine ∧ Nx (upd H4 D (.lst (acc ++ [y]))) else Nx H3) := by
  rcases hp with hp | hp | ⟨hn, o, n, h, c, e⟩
  · refine Or.inl (ht0 _ ⟨p, rfl, ⟨_, SqL.of (s0 _ _ hp)⟩, ?_⟩)
    have w := walk_list (K := K) (a := p) (xs := refV E)
    rw [List.length_map] at w
    exact lc_refsW (P := P) (w.mono (G' := fun H' => Same H H') (fun H' s => SqL.of (s _ _ (s0 _ _ hp))) fun k H' v H2 hk _ y => ⟨y.1, yld_get y.2⟩) (fun _ s => s) hl m1 m2 ht he q
  · refine Or.inr (ht0 _ ⟨p, rfl, ⟨_, SqT.of (s0 _ _ hp)⟩, ?_⟩)
    have w := walk_tup (K := K) (a := p) (xs := refV E)
    rw [List.length_map] at w
    exact lc_refsW (P := P) (w.mono (G' := fun H' => Same H H') (fun H' s => SqT.of (s _ _ (s0 _ _ hp))) fun k H' v H2 hk _ y => ⟨y.1, yld_get y.2⟩) (fun _ s => s) hl m1 m2 ht he q
  · have k0 : ∀ H', SqT K H' p [] := fun H' => .inr ⟨o, #[], n, h, c, e, by decide, .nil⟩
    obtain rfl : E = [] := List.map_eq_nil_iff.mp hn
    refine Or.inr (ht0 _ ⟨p, rfl, ⟨[], k0 _⟩, ?_⟩)
    exact lc_refsW (P := P) (E := ([] : List (α × Addr))) ((walk_tup (K := K) (a := p) (xs := [])).mono (G' := fun H' => Same H H') (fun H' s => k0 _) fun k H' v H2 hk _ y => absurd hk (Nat.not_lt_zero _)) (fun _ s => s) (Nat.zero_le _) m1 m2 ht he q
/-- .. over a list -/
theorem lc_refsL {P : Addr → Hp → Prop} (hp : H p = some (.lst (refV E))) (hl : E.length ≤ 1000000) (m1 : ∀ v a H1 H2, R' H1 v a → Same H1 H2 → R' H2 v a) (m2 : ∀ v a H1 H2 D l, R' H1 v a → H1 D = some (.lst l) → Keep D H1 H2 → R' H2 v a)
    (ht : ∀ e ∈ E, ∀ H1, Same H H1 → ∀ R : Bool → Hp → Prop, (∀ H2, Same H1 H2 → R true H2) → tt ((wipe σ [i]).set i (some (.ref e.2))) H1 R)
    (he : ∀ e ∈ E, ∀ H1, Same H H1 → ∀ R : VK, (∀ v H2, Same H1 H2 → R' H2 v e.1 → R v H2) → te ((wipe σ [i]).set i (some (.ref e.2))) H1 R)
    (q : ∀ D H' vs, H D = none → Same H H' → H' D = some (.lst vs) → vs.length = E.length → (∀ (k : Nat) (v : V) (e : α × Addr), vs[k]? = some v → E[k]? = some e → R' H' v e.1) → P D H') :
    ∀ D, H D = none → ∃ W : Nat → Nat → Hp → Prop, (∃ m, W 0 m (upd H D (.lst []))) ∧ ∀ k m H, W k m H →
      ((Itl K p).stop k H ∧ P D H) ∨ ((Itl K p).go k H ∧ ∃ Nx : Hp → Prop, (∀ H', Nx H' → ∃ m', m' < m ∧ W (k + 1) m' H') ∧ ∀ x H', (Itl K p).yld k H x H' → (gName i) x (wipe σ [i]) H' fun s2 H2 => wipe s2 [i] = wipe σ [i] ∧ tt s2 H2 fun c H3 =>
        if c = true then te s2 H3 fun y H4 => ∃ acc, H4 D = some (.lst acc) ∧ acc.length < sizeLine ∧ Nx (upd H4 D (.lst (acc ++ [y]))) else Nx H3) := by
  have w := walk_list (K := K) (a := p) (xs := refV E)
  rw [List.length_map] at w
  exact lc_refsW (P := P) (w.mono (G' := fun H' => Same H H') (fun H' s => SqL.of (s _ _ hp)) fun k H' v H2 hk _ y => ⟨y.1, yld_get y.2⟩) (fun _ s => s) hl m1 m2 ht he q
/-- .. over a tuple -/
theorem lc_refsT {P : Addr → Hp → Prop} (hp : H p = some (.tup (refV E))) (hl : E.length ≤ 1000000) (m1 : ∀ v a H1 H2, R' H1 v a → Same H1 H2 → R' H2 v a) (m2 : ∀ v a H1 H2 D l, R' H1 v a → H1 D = some (.lst l) → Keep D H1 H2 → R' H2 v a)
    (ht : ∀ e ∈ E, ∀ H1, Same H H1 → ∀ R : Bool → Hp → Prop, (∀ H2, Same H1 H2 → R true H2) → tt ((wipe σ [i]).set i (some (.ref e.2))) H1 R)
    (he : ∀ e ∈ E, ∀ H1, Same H H1 → ∀ R : VK, (∀ v H2, Same H1 H2 → R' H2 v e.1 → R v H2) → te ((wipe σ [i]).set i (some (.ref e.2))) H1 R)
    (q : ∀ D H' vs, H D = none → Same H H' → H' D = some (.lst vs) → vs.length = E.length → (∀ (k : Nat) (v : V) (e : α × Addr), vs[k]? = some v → E[k]? = some e → R' H' v e.1) → P D H') :
    ∀ D, H D = none → ∃ W : Nat → Nat → Hp → Prop, (∃ m, W 0 m (upd H D (.lst []))) ∧ ∀ k m H, W k m H →
      ((Itt K p).stop k H ∧ P D H) ∨ ((Itt K p).go k H ∧ ∃ Nx : Hp → Prop, (∀ H', Nx H' → ∃ m', m' < m ∧ W (k + 1) m' H') ∧ ∀ x H', (Itt K p).yld k H x H' → (gName i) x (wipe σ [i]) H' fun s2 H2 => wipe s2 [i] = wipe σ [i] ∧ tt s2 H2 fun c H3 =>
        if c = true then te s2 H3 fun y H4 => ∃ acc, H4 D = some (.lst acc) ∧ acc.length < sizeLine ∧ Nx (upd H4 D (.lst (acc ++ [y]))) else Nx H3) := by
  have w := walk_tup (K := K) (a := p) (xs := refV E)
  rw [List.length_map] at w
  exact lc_refsW (P := P) (w.mono (G' := fun H' => Same H H') (fun H' s => SqT.of (s _ _ hp)) fun k H' v H2 hk _ y => ⟨y.1, yld_get y.2⟩) (fun _ s => s) hl m1 m2 ht he q
end
end Cw
set_option Elab.async false
set_option linter.all false
set_option maxRecDepth 100000
set_option maxHeartbeats 4000000
/-! dicts of numbers; places found one behind the other -/
namespace Cw
open PySem PySem.Spec L2
section
variable {H : Hp} {d : Addr} {g : Nat → V} {k : Nat} {l : List Nat}
def nKV (l : List Nat) (g : Nat → V) : List (Key × V) := l.map fun (c : Nat) => ((Sum.inl ((c : Nat) : Int) : Key), g c)
theorem nKV_some : ∀ {l : List Nat}, k ∈ l → valV (nKV l g) (Sum.inl (k : Int)) = some (g k)
  | [], h => nomatch h
  | c :: r, h => by
    unfold nKV
    by_cases e : c = k
    · rw [List.map_cons, valV_pos (by rw [e]), e]
    · rw [List.map_cons, valV_neg fun z => e (by
        injection z with z
        exact Int.ofNat.inj z)]
      exact nKV_some ((List.mem_cons.mp h).resolve_left fun z => e z.symm)
theorem nKV_none : ∀ {l : List Nat}, ¬ k ∈ l → valV (nKV l g) (Sum.inl (k : Int)) = none
  | [], _ => rfl
  | c :: r, h => by
    unfold nKV
    rw [List.map_cons, valV_neg fun z => h (by
      injection z with z
      rw [← Int.ofNat.inj z]
      exact List.mem_cons_self ..)]
    exact nKV_none fun z => h (List.mem_cons_of_mem _ z)
theorem num_get (h : H d = some (.dK (nKV l g))) (hk : k ∈ l) : DGet H d (.int (k : Int)) (some (g k)) := by
  have e := DGet.k (k := Sum.inl (k : Int)) h
  rw [nKV_some hk] at e
  exact e
theorem num_not (h : H d = some (.dK (nKV l g))) (hk : ¬ k ∈ l) : DGet H d (.int (k : Int)) none := by
  have e := DGet.k (k := Sum.inl (k : Int)) h
  rw [nKV_none hk] at e
  exact e
theorem num_put {v : V} (h : H d = some (.dK (nKV l g))) (hk : ¬ k ∈ l) (hl : l.length ≤ 1000000) : DPut H d (.int (k : Int)) v (upd H d (.dK (nKV (l ++ [k]) fun c => if c = k then v else g c))) := by
  have e := DPut.k (k := Sum.inl (k : Int)) (v := v) h (by unfold nKV; rw [List.length_map]; exact Nat.lt_of_le_of_lt hl (show 1000000 < sizeLine by decide))
  have e2 : putK (nKV l g) (Sum.inl (k : Int)) v = nKV (l ++ [k]) fun c => if c = k then v else g c := by
    unfold putK
    rw [if_neg (by rw [valV_any, nKV_none hk]; exact Bool.false_ne_true)]
    unfold nKV
    rw [List.map_append]
    have e3 : (l.map fun (c : Nat) => ((Sum.inl ((c : Nat) : Int) : Key), if c = k then v else g c)) = l.map fun (c : Nat) => ((Sum.inl ((c : Nat) : Int) : Key), g c) := List.map_congr_left fun c hc => by
      have ne : ¬ c = k := fun z => hk (by rw [← z]; exact hc)
      rw [if_neg ne]
    show _ = _ ++ [((Sum.inl ((k : Nat) : Int) : Key), if k = k then v else g k)]
    rw [if_pos rfl, e3]
  rw [e2] at e
  exact e
theorem num_put_in {v : V} (h : H d = some (.dK (nKV l g))) (hk : k ∈ l) (hl : l.length ≤ 1000000) : DPut H d (.int (k : Int)) v (upd H d (.dK (nKV l fun c => if c = k then v else g c))) := by
  have e := DPut.k (k := Sum.inl (k : Int)) (v := v) h (by unfold nKV; rw [List.length_map]; exact Nat.lt_of_le_of_lt hl (show 1000000 < sizeLine by decide))
  have e2 : putK (nKV l g) (Sum.inl (k : Int)) v = nKV l fun c => if c = k then v else g c := by
    unfold putK
    rw [if_pos (by rw [valV_any, nKV_some hk]; rfl)]
    unfold nKV
    rw [List.map_map]
    refine List.map_congr_left fun c _ => ?_
    show (if (Sum.inl (c : Int) : Key) = Sum.inl (k : Int) then _ else _) = ((Sum.inl (c : Int) : Key), if c = k then v else g c)
    by_cases q : c = k
    · rw [q, if_pos rfl, if_pos rfl]
    · rw [if_neg fun z => q (by
        injection z with z
        exact Int.ofNat.inj z), if_neg q]
  rw [e2] at e
  exact e
end
/-! ### places -/
def numV (l : List Nat) : List V := l.map fun n => V.int ((n : Nat) : Int)
/-- the doors of one place -/
def addT (T : List (List Nat)) (x : Nat) (fd : List Nat) : List Nat := T.foldl (fun fd r => if r.getD x 0 ∈ fd then fd else fd ++ [r.getD x 0]) fd
/-- places found one behind the other -/
def fp (T : List (List Nat)) : Nat → Nat → List Nat → List Nat
  | 0, _, fd => fd
  | n + 1, i, fd => if i < fd.length then fp T n (i + 1) (addT T (fd.getD i 0) fd) else fd
def bfs (T : List (List Nat)) (n first : Nat) : List Nat := fp T (n + 1) 0 [first]
/-- tables of n places -/
def OkT (n : Nat) (T : List (List Nat)) : Prop := ∀ r ∈ T, r.length = n ∧ ∀ x ∈ r, x < n
section
variable {T : List (List Nat)} {n x : Nat} {fd : List Nat}
theorem OkT.get (h : OkT n T) {r : List Nat} (hr : r ∈ T) (hx : x < n) : r.getD x 0 < n := by
  obtain ⟨h1, h2⟩ := h r hr
  rw [List.getD_eq_getElem?_getD, List.getElem?_eq_getElem (show x < r.length by omega)]
  exact h2 _ (List.getElem_mem _)
/-- what is found so far: different places -/
structure FdOk (n : Nat) (fd : List Nat) : Prop where
  nd : fd.Nodup
  lt : ∀ x ∈ fd, x < n
theorem FdOk.len (h : FdOk n fd) : fd.length ≤ n := by
  have := List.Nodup.length_le_of_subset h.nd (fun x hx => List.mem_range.mpr (h.lt x hx) : fd ⊆ List.range n)
  rwa [List.length_range] at this
theorem FdOk.one (h : x < n) : FdOk n [x] := ⟨(by simp : [x].Nodup), fun y hy => by rw [List.mem_singleton.mp hy]; exact h⟩
theorem FdOk.snoc (h : FdOk n fd) (hx : x < n) (m : ¬ x ∈ fd) : FdOk n (fd ++ [x]) := by
  refine ⟨List.nodup_append.mpr ⟨h.nd, (by simp : [x].Nodup), fun a ha b hb e => m (by rw [List.mem_singleton.mp hb] at e; exact e ▸ ha)⟩, fun y hy => ?_⟩
  rcases List.mem_append.mp hy with z | z
  · exact h.lt y z
  · rw [List.mem_singleton.mp z]
    exact hx
theorem FdOk.add (hT : OkT n T) (h : FdOk n fd) (hx : x < n) : FdOk n (addT T x fd) := by
  unfold addT
  induction T generalizing fd with
  | nil => exact h
  | cons r T ih =>
    rw [List.foldl_cons]
    have hT' : OkT n T := fun s hs => hT s (List.mem_cons_of_mem _ hs)
    refine ih hT' ?_
    by_cases c : r.getD x 0 ∈ fd
    · rw [if_pos c]
      exact h
    · rw [if_neg c]
      exact h.snoc (hT.get (List.mem_cons_self ..) hx) c
theorem addT_pre (T : List (List Nat)) (x : Nat) (fd : List Nat) : ∃ q, addT T x fd = fd ++ q := by
  unfold addT
  induction T generalizing fd with
  | nil => exact ⟨[], (List.append_nil _).symm⟩
  | cons r T ih =>
    rw [List.foldl_cons]
    obtain ⟨q, hq⟩ := ih (if r.getD x 0 ∈ fd then fd else fd ++ [r.getD x 0])
    rw [hq]
    by_cases c : r.getD x 0 ∈ fd
    · rw [if_pos c]
      exact ⟨q, rfl⟩
    · rw [if_neg c]
      exact ⟨[r.getD x 0] ++ q, by rw [List.append_assoc]⟩
theorem addT_snoc (T : List (List Nat)) (r : List Nat) (x : Nat) (fd : List Nat) : addT (T ++ [r]) x fd = if r.getD x 0 ∈ addT T x fd then addT T x fd else addT T x fd ++ [r.getD x 0] := by
  unfold addT
  rw [List.foldl_append]
  rfl
theorem fp_ok (hT : OkT n T) : ∀ (m i : Nat) {fd : List Nat}, FdOk n fd → FdOk n (fp T m i fd)
  | 0, _, _, h => h
  | m + 1, i, fd, h => by
    show FdOk n (if i < fd.length then fp T m (i + 1) (addT T (fd.getD i 0) fd) else fd)
    by_cases c : i < fd.length
    · rw [if_pos c]
      exact fp_ok hT m (i + 1) (h.add hT (h.lt _ (by rw [List.getD_eq_getElem?_getD, List.getElem?_eq_getElem c]; exact List.getElem_mem _)))
    · rw [if_neg c]
      exact h
theorem fp_pre (T : List (List Nat)) : ∀ (m i : Nat) (fd : List Nat), ∃ q, fp T m i fd = fd ++ q
  | 0, _, fd => ⟨[], (List.append_nil _).symm⟩
  | m + 1, i, fd => by
    show ∃ q, (if i < fd.length then fp T m (i + 1) (addT T (fd.getD i 0) fd) else fd) = fd ++ q
    by_cases c : i < fd.length
    · rw [if_pos c]
      obtain ⟨a, ha⟩ := addT_pre T (fd.getD i 0) fd
      obtain ⟨b, hb⟩ := fp_pre T m (i + 1) (addT T (fd.getD i 0) fd)
      exact ⟨a ++ b, by rw [hb, ha, List.append_assoc]⟩
    · rw [if_neg c]
      exact ⟨[], (List.append_nil _).symm⟩
theorem bfs_ok (hT : OkT n T) (h : x < n) : FdOk n (bfs T n x) := fp_ok hT _ _ (.one h)
end
end Cw
set_option Elab.async false
set_option linter.all false
set_option maxRecDepth 100000
set_option maxHeartbeats 4000000
/-! text.replace(letter, "", 1): the first such letter is left out -/
namespace Cw
open PySem PySem.Spec L2 PyProof.Rows Builtin Builtin.Str
theorem occ_one {p q : List Nat} {c : Nat} (hp : ¬ c ∈ p) : occurrences (tx (p ++ c :: q)) (tx [c]) 0 (tx (p ++ c :: q)).length 1 = [p.length] := by
  have hat : ∀ i, StrLaws.At (tx (p ++ c :: q)) (tx [c]) (tx (p ++ c :: q)).length i ↔ (p ++ c :: q)[i]? = some c := fun i => StrLaws.subAt_one (tx (p ++ c :: q)) c i
  have h0 : (p ++ c :: q)[p.length]? = some c := by rw [List.getElem?_append_right (Nat.le_refl _), Nat.sub_self]; rfl
  have hl := StrLaws.occ_length_le (tx (p ++ c :: q)) (tx [c]) 0 (tx (p ++ c :: q)).length 1
  rcases StrLaws.occ_head (tx (p ++ c :: q)) (tx [c]) 1 (Nat.le_refl _) with ⟨_, h⟩ | ⟨i, r, e, h1, h2⟩
  · exact absurd ((hat _).mpr h0) (h _)
  · rw [e] at hl ⊢
    have hr : r = [] := by
      cases r with
      | nil => rfl
      | cons a r => simp at hl
    have hi := (hat i).mp h1
    have e1 : ¬ i < p.length := by
      intro z
      rw [List.getElem?_append_left z] at hi
      exact hp (List.mem_of_getElem? hi)
    have e2 : ¬ p.length < i := fun z => h2 _ z ((hat _).mpr h0)
    rw [hr, show i = p.length by omega]
/-! ### def without_first(way, kind): return way.replace(kind, "", 1) -/
end Cw
set_option Elab.async false
set_option linter.all false
set_option maxRecDepth 100000
set_option maxHeartbeats 4000000
/-! plans that are not equal, in plain words -/
namespace Cw
open PySem PySem.Spec L2
theorem pairsOf_nodup (f : List (List Nat)) : (pairsOf f).Nodup := by
  have h : ∀ l : List Nat, l.Nodup → (l.flatMap fun a => (LET.filter fun b => decide ([a, b] ∈ f)).map fun b => [a, b]).Nodup := by
    intro l
    induction l with
    | nil => intro _; exact List.nodup_nil
    | cons c r ih =>
      intro hn
      rw [List.nodup_cons] at hn
      rw [List.flatMap_cons, List.nodup_append]
      refine ⟨?_, ih hn.2, ?_⟩
      · have : (LET.filter fun b => decide ([c, b] ∈ f)).Nodup := (LET_nodup.filter fun b => decide ([c, b] ∈ f))
        generalize LET.filter (fun b => decide ([c, b] ∈ f)) = m at this ⊢
        induction m with
        | nil => exact List.nodup_nil
        | cons x y ih2 =>
          rw [List.nodup_cons] at this
          rw [List.map_cons, List.nodup_cons]
          refine ⟨?_, ih2 this.2⟩
          intro z
          obtain ⟨w, hw, e⟩ := List.mem_map.mp z
          injection e with _ e
          injection e with e
          exact this.1 (e ▸ hw)
      · intro p hp q hq e
        subst e
        obtain ⟨b, _, e1⟩ := List.mem_map.mp hp
        obtain ⟨a, ha, hm⟩ := List.mem_flatMap.mp hq
        obtain ⟨b', _, e2⟩ := List.mem_map.mp hm
        have e3 := e1.trans e2.symm
        injection e3 with e3
        exact hn.1 (e3 ▸ ha)
  exact h LET LET_nodup
section
variable {K : PySem.W.Frag} {H : Hp} {Q : VK} {p q : Addr} {n m : Int} {a b : List Nat}
end
end Cw
set_option Elab.async false
set_option linter.all false
set_option maxRecDepth 100000
set_option maxHeartbeats 4000000
/-! names in plain words: no letter stands behind a greater or an equal one that it could be exchanged back to -/
namespace Cw
structure CrOk (cr : Nat → List Nat) : Prop where
  sym : ∀ a b, a ∈ cr b → b ∈ cr a
  irr : ∀ a, ¬ a ∈ cr a
/-- s may stand behind the letters of the list (the nearest first) -/
def okAt (cr : Nat → List Nat) (s : Nat) : List Nat → Prop
  | [] => True
  | t :: r => t ≠ s ∧ (t ∈ cr s → t < s ∧ okAt cr s r)
/-- a name, its last letter first -/
def NFr (cr : Nat → List Nat) : List Nat → Prop
  | [] => True
  | s :: r => okAt cr s r ∧ NFr cr r
def NF (cr : Nat → List Nat) (w : List Nat) : Prop := NFr cr w.reverse
section
variable {cr : Nat → List Nat} {s k x : Nat} {d e : List Nat}
theorem okAt_app : ∀ {q : List Nat}, okAt cr s (q ++ e) → (∀ y ∈ q, y ∈ cr s) → okAt cr s e
  | [], h, _ => h
  | y :: q, h, hq => okAt_app (q := q) (h.2 (hq y (List.mem_cons_self ..))).2 fun z hz => hq z (List.mem_cons_of_mem _ hz)
theorem okAt_lt : ∀ {q : List Nat}, okAt cr s (q ++ e) → (∀ y ∈ q, y ∈ cr s) → ∀ y ∈ q, y < s
  | [], _, _, y, hy => nomatch hy
  | z :: q, h, hq, y, hy => by
    have h2 := h.2 (hq z (List.mem_cons_self ..))
    rcases List.mem_cons.mp hy with rfl | hy
    · exact h2.1
    · exact okAt_lt h2.2 (fun z hz => hq z (List.mem_cons_of_mem _ hz)) y hy
theorem okAt_remove (hk : k ∈ cr s) : ∀ {q : List Nat}, okAt cr s (q ++ k :: e) → okAt cr s (q ++ e)
  | [], h => (h.2 hk).2
  | y :: q, h => ⟨h.1, fun z => ⟨(h.2 z).1, okAt_remove hk (h.2 z).2⟩⟩
theorem okAt_insert (hk : k ≠ s) : ∀ {q : List Nat}, okAt cr s (q ++ e) → ((∀ y ∈ q, y ∈ cr s) → k < s) → okAt cr s (q ++ k :: e)
  | [], h, hl => ⟨hk, fun _ => ⟨hl (fun _ z => nomatch z), h⟩⟩
  | y :: q, h, hl => ⟨h.1, fun z => ⟨(h.2 z).1, okAt_insert hk (h.2 z).2 fun hq => hl fun w hw => by
      rcases List.mem_cons.mp hw with rfl | hw
      · exact z
      · exact hq w hw⟩⟩
theorem NFr_right : ∀ {a b : List Nat}, NFr cr (a ++ b) → NFr cr b
  | [], _, h => h
  | _ :: a, b, h => NFr_right (a := a) h.2
theorem NFr_remove (ok : CrOk cr) : ∀ {d : List Nat}, (∀ y ∈ d, y ∈ cr k) → NFr cr (d ++ k :: e) → NFr cr (d ++ e)
  | [], _, h => h.2
  | y :: d, hd, h => ⟨okAt_remove (ok.sym _ _ (hd y (List.mem_cons_self ..))) h.1, NFr_remove ok (fun z hz => hd z (List.mem_cons_of_mem _ hz)) h.2⟩
theorem NFr_insert (ok : CrOk cr) {h0 : Nat} (hh : k < h0) (hok : okAt cr k e) : ∀ {d : List Nat}, (∀ y ∈ d, y ∈ cr k) → NFr cr (d ++ h0 :: e) → h0 ∈ cr k → NFr cr (d ++ h0 :: k :: e)
  | [], _, h, hc => ⟨okAt_insert (q := []) (by omega) h.1 fun _ => hh, hok, h.2⟩
  | y :: d, hd, h, hc => by
    have hy := hd y (List.mem_cons_self ..)
    refine ⟨?_, NFr_insert ok hh hok (fun z hz => hd z (List.mem_cons_of_mem _ hz)) h.2 hc⟩
    have h1 : okAt cr y ((d ++ [h0]) ++ e) := by
      rw [List.append_assoc]
      exact h.1
    have h2 : okAt cr y ((d ++ [h0]) ++ k :: e) := okAt_insert (fun z : k = y => ok.irr k (by rw [← z] at hy; exact hy)) h1 fun hq => by
      have := okAt_lt h1 hq h0 (by simp)
      omega
    rw [List.append_assoc] at h2
    exact h2
/-! ### what a step does -/
theorem splitB_spec (part : List Nat) : ∀ ra b : List Nat, ∃ c, (splitB part ra b).2 = c ++ b ∧ (∀ y ∈ c, y ∈ part) ∧ ra = c.reverse ++ (splitB part ra b).1 ∧ ∀ y, (splitB part ra b).1.head? = some y → ¬ y ∈ part
  | [], b => ⟨[], rfl, fun _ z => (nomatch z), rfl, fun _ z => (nomatch z)⟩
  | y :: r, b => by
    unfold splitB
    by_cases h : y ∈ part
    · rw [if_pos h]
      obtain ⟨c, h1, h2, h3, h4⟩ := splitB_spec part r (y :: b)
      refine ⟨c ++ [y], by rw [h1, List.append_assoc]; rfl, fun z hz => ?_, ?_, h4⟩
      · rcases List.mem_append.mp hz with z | z
        · exact h2 _ z
        · rw [List.mem_singleton.mp z]
          exact h
      · rw [List.reverse_append]
        show y :: r = y :: (c.reverse ++ _)
        rw [← h3]
    · rw [if_neg h]
      refine ⟨[], rfl, fun _ z => (nomatch z), rfl, fun z hz => ?_⟩
      injection hz with hz
      exact hz ▸ h
/-- the two ways of a step, the name's last letter first: d are exchanged, then the kind is found or not -/
theorem stepOf_cases (part name : List Nat) (k : Nat) : ∃ d e : List Nat, name.reverse = d ++ e ∧ (∀ y ∈ d, y ∈ part) ∧ (∀ y, e.head? = some y → ¬ y ∈ part) ∧
    ((∃ e', e = k :: e' ∧ (stepOf part name k).reverse = d ++ e') ∨ (e.head? ≠ some k ∧ (stepOf part name k).reverse = (putIn k d.reverse).reverse ++ e)) := by
  obtain ⟨c, h1, h2, h3, h4⟩ := splitB_spec part name.reverse []
  rw [List.append_nil] at h1
  refine ⟨c.reverse, (splitB part name.reverse []).1, h3, fun y hy => h2 y (List.mem_reverse.mp hy), h4, ?_⟩
  unfold stepOf
  rw [h1]
  generalize (splitB part name.reverse []).1 = ra
  unfold stepAt
  by_cases hc : ra.head? = some k
  · rw [if_pos hc]
    cases ra with
    | nil => cases hc
    | cons y r =>
      injection hc with hc
      subst hc
      exact .inl ⟨r, rfl, by simp⟩
  · rw [if_neg hc]
    exact .inr ⟨hc, by simp⟩
/-- the letters below k, the others -/
theorem putIn_split (k : Nat) (b : List Nat) : ∃ b1 b2, b = b1 ++ b2 ∧ putIn k b = b1 ++ k :: b2 ∧ (∀ y ∈ b1, y < k) ∧ ∀ y, b2.head? = some y → ¬ y < k := by
  refine ⟨b.takeWhile (fun c => decide (c < k)), b.dropWhile (fun c => decide (c < k)), List.takeWhile_append_dropWhile.symm, rfl, fun y hy => ?_, fun y hy => ?_⟩
  · have := List.all_eq_true.mp (List.all_takeWhile (p := fun c => decide (c < k)) (l := b)) y hy
    exact of_decide_eq_true this
  · have := List.head?_dropWhile_not (fun c => decide (c < k)) b
    rw [hy] at this
    simpa using this
theorem okAt_all : ∀ {q : List Nat}, (∀ y ∈ q, y < k) → okAt cr k e → (∀ y ∈ q, y ∈ cr k) → okAt cr k (q ++ e)
  | [], _, h, _ => h
  | y :: q, hl, h, hq => ⟨by have := hl y (List.mem_cons_self ..); omega, fun _ => ⟨hl y (List.mem_cons_self ..), okAt_all (fun z hz => hl z (List.mem_cons_of_mem _ hz)) h fun z hz => hq z (List.mem_cons_of_mem _ hz)⟩⟩
theorem okAt_stop (h1 : e.head? ≠ some k) (h2 : ∀ y, e.head? = some y → ¬ y ∈ cr k) : okAt cr k e := by
  cases e with
  | nil => trivial
  | cons y r => exact ⟨fun z => h1 (by rw [z]; rfl), fun z => absurd z (h2 y rfl)⟩
theorem NF_step (ok : CrOk cr) {name : List Nat} (h : NF cr name) : NF cr (stepOf (cr k) name k) := by
  obtain ⟨d, e, e1, hd, he, hc⟩ := stepOf_cases (cr k) name k
  unfold NF at h ⊢
  rw [e1] at h
  rcases hc with ⟨e', rfl, e2⟩ | ⟨hk, e2⟩
  · rw [e2]
    exact NFr_remove ok hd h
  · rw [e2]
    obtain ⟨b1, b2, eb, ep, hb1, hb2⟩ := putIn_split k d.reverse
    have ed : d = b2.reverse ++ b1.reverse := by
      have := congrArg List.reverse eb
      rw [List.reverse_reverse, List.reverse_append] at this
      exact this
    rw [ep, List.reverse_append, List.reverse_cons]
    have hd1 : ∀ y ∈ b1.reverse, y ∈ cr k := fun y hy => hd y (by rw [ed]; exact List.mem_append_right _ hy)
    have hok : okAt cr k (b1.reverse ++ e) := okAt_all (fun y hy => hb1 y (List.mem_reverse.mp hy)) (okAt_stop hk he) hd1
    have hn : NFr cr (b1.reverse ++ e) := by
      rw [ed, List.append_assoc] at h
      exact NFr_right h
    cases b2 with
    | nil =>
      show NFr cr (([] ++ [k] ++ b1.reverse) ++ e)
      exact ⟨hok, hn⟩
    | cons y r =>
      have hy : ¬ y < k := hb2 y rfl
      have hyc : y ∈ cr k := hd y (by rw [ed]; simp)
      have hne : y ≠ k := fun z => ok.irr k (z ▸ hyc)
      have e3 : ((y :: r).reverse ++ [k] ++ b1.reverse) ++ e = r.reverse ++ y :: k :: (b1.reverse ++ e) := by simp
      rw [e3]
      refine NFr_insert ok (by omega) hok (fun z hz => hd z (by rw [ed, List.reverse_cons]; exact List.mem_append_left _ (List.mem_append_left _ hz))) ?_ hyc
      rw [ed] at h
      have e4 : ((y :: r).reverse ++ b1.reverse) ++ e = r.reverse ++ y :: (b1.reverse ++ e) := by simp
      rw [e4] at h
      exact h
/-- a name with one letter more, if it is one -/
theorem step_snoc {name : List Nat} (h : okAt cr k name.reverse) : stepOf (cr k) name k = name ++ [k] := by
  obtain ⟨d, e, e1, hd, he, hc⟩ := stepOf_cases (cr k) name k
  rw [e1] at h
  have h2 := okAt_app h hd
  have h3 := okAt_lt h hd
  rcases hc with ⟨e', rfl, e2⟩ | ⟨hk, e2⟩
  · exact absurd rfl h2.1
  · obtain ⟨b1, b2, eb, ep, hb1, hb2⟩ := putIn_split k d.reverse
    have : b2 = [] := by
      cases b2 with
      | nil => rfl
      | cons y r =>
        have hy := hb2 y rfl
        have : y ∈ d := List.mem_reverse.mp (by rw [eb]; simp)
        exact absurd (h3 y this) hy
    rw [this] at ep eb
    rw [List.append_nil] at eb
    rw [ep, ← eb] at e2
    have e5 := congrArg List.reverse e2
    rw [List.reverse_reverse] at e5
    rw [e5]
    have e6 := congrArg List.reverse e1
    rw [List.reverse_reverse] at e6
    rw [e6]
    simp
end
/-! ### ways -/
def joinC (cr : Nat → List Nat) (name way : List Nat) : List Nat := way.foldl (fun n k => stepOf (cr k) n k) name
section
variable {cr : Nat → List Nat}
theorem joinC_app (name a b : List Nat) : joinC cr name (a ++ b) = joinC cr (joinC cr name a) b := by
  unfold joinC
  rw [List.foldl_append]
theorem NF_join (ok : CrOk cr) : ∀ {way name : List Nat}, NF cr name → NF cr (joinC cr name way)
  | [], _, h => h
  | k :: r, name, h => NF_join (way := r) ok (NF_step ok h)
theorem NF_nil : NF cr [] := trivial
theorem NF_left {a b : List Nat} (h : NF cr (a ++ b)) : NF cr a := by
  unfold NF at h ⊢
  rw [List.reverse_append] at h
  exact NFr_right h
theorem join_NF : ∀ {way name : List Nat}, NF cr (name ++ way) → joinC cr name way = name ++ way
  | [], name, _ => (List.append_nil name).symm
  | k :: r, name, h => by
    have e : name ++ k :: r = (name ++ [k]) ++ r := by simp
    rw [e] at h ⊢
    have h1 : NF cr (name ++ [k]) := NF_left h
    have h2 : okAt cr k name.reverse := by
      unfold NF at h1
      rw [List.reverse_append] at h1
      exact h1.1
    show joinC cr (stepOf (cr k) name k) r = _
    rw [step_snoc h2]
    exact join_NF h
theorem is_NF (ok : CrOk cr) {w : List Nat} : joinC cr [] w = w ↔ NF cr w := ⟨fun h => h ▸ NF_join ok NF_nil, fun h => join_NF (name := []) h⟩
/-- the same by any two letters -/
theorem NF.two {w : List Nat} (h : NF cr w) {p q r : List Nat} {t s : Nat} (e : w = p ++ t :: (q ++ s :: r)) (hq : ∀ y ∈ q, y ∈ cr s) : t ≠ s ∧ (t ∈ cr s → t < s) := by
  unfold NF at h
  have e2 : w.reverse = r.reverse ++ s :: (q.reverse ++ t :: p.reverse) := by rw [e]; simp
  rw [e2] at h
  have h1 := (NFr_right h).1
  have h2 := okAt_app h1 fun y hy => hq y (List.mem_reverse.mp hy)
  exact ⟨h2.1, fun z => (h2.2 z).1⟩
end
end Cw
set_option Elab.async false
set_option linter.all false
set_option maxRecDepth 100000
set_option maxHeartbeats 4000000
/-! the vectors of the laws, in plain words -/
namespace Cw
/-- one coordinate of the marks, behind the door d -/
def thr (cr : Nat → List Nat) (d : Nat) (f : Nat → Int) : Nat → Int := fun e => if e = d then - f d else if e ∈ cr d then f e else f e + 2 * f d
/-- the first letter of the list is the last door -/
def act (cr : Nat → List Nat) (w : List Nat) (f : Nat → Int) : Nat → Int := w.foldr (thr cr) f
def unit (x : Nat) : Nat → Int := fun e => if e = x then 1 else 0
section
variable {cr : Nat → List Nat} {a b d e k : Nat} {f : Nat → Int} {w : List Nat}
theorem act_app (u v : List Nat) (f : Nat → Int) : act cr (u ++ v) f = act cr u (act cr v f) := by
  unfold act
  rw [List.foldr_append]
theorem thr_self : thr cr d f d = - f d := if_pos rfl
theorem thr_cr (ok : CrOk cr) (h : e ∈ cr d) : thr cr d f e = f e := by
  unfold thr
  rw [if_neg (fun z : e = d => ok.irr d (by rw [z] at h; exact h)), if_pos h]
theorem thr_not (h : e ≠ d) (h2 : ¬ e ∈ cr d) : thr cr d f e = f e + 2 * f d := by
  unfold thr
  rw [if_neg h, if_neg h2]
theorem thr_thr (ok : CrOk cr) : thr cr d (thr cr d f) = f := by
  funext e
  by_cases h : e = d
  · subst h
    rw [thr_self, thr_self]
    omega
  · by_cases h2 : e ∈ cr d
    · rw [thr_cr ok h2, thr_cr ok h2]
    · rw [thr_not h h2, thr_not h h2, thr_self]
      omega
theorem thr_comm (ok : CrOk cr) (h : a ∈ cr b) : thr cr a (thr cr b f) = thr cr b (thr cr a f) := by
  have h' := ok.sym _ _ h
  have ne : a ≠ b := fun z => ok.irr b (z ▸ h)
  funext e
  by_cases e1 : e = a
  · subst e1
    rw [thr_self, thr_cr ok h, thr_cr ok h, thr_self]
  · by_cases e2 : e = b
    · subst e2
      rw [thr_cr ok h', thr_self, thr_self, thr_cr ok h']
    · by_cases c1 : e ∈ cr a
      · by_cases c2 : e ∈ cr b
        · rw [thr_cr ok c1, thr_cr ok c2, thr_cr ok c2, thr_cr ok c1]
        · rw [thr_cr ok c1, thr_not e2 c2, thr_not e2 c2, thr_cr ok c1, thr_cr ok h']
      · by_cases c2 : e ∈ cr b
        · rw [thr_not e1 c1, thr_cr ok c2, thr_cr ok h, thr_cr ok c2, thr_not e1 c1]
        · rw [thr_not e1 c1, thr_not e2 c2, thr_cr ok h, thr_not e2 c2, thr_not e1 c1, thr_cr ok h']
          omega
theorem act_comm (ok : CrOk cr) : ∀ {q : List Nat}, (∀ y ∈ q, y ∈ cr k) → act cr q (thr cr k f) = thr cr k (act cr q f)
  | [], _ => rfl
  | y :: q, h => by
    show thr cr y (act cr q (thr cr k f)) = thr cr k (thr cr y (act cr q f))
    rw [act_comm ok fun z hz => h z (List.mem_cons_of_mem _ hz), thr_comm ok (h y (List.mem_cons_self ..))]
theorem act_step (ok : CrOk cr) (name : List Nat) (k : Nat) (f : Nat → Int) : act cr (stepOf (cr k) name k) f = act cr (name ++ [k]) f := by
  obtain ⟨d, e, e1, hd, he, hc⟩ := stepOf_cases (cr k) name k
  have e1' := congrArg List.reverse e1
  rw [List.reverse_reverse, List.reverse_append] at e1'
  have hd' : ∀ y ∈ d.reverse, y ∈ cr k := fun y hy => hd y (List.mem_reverse.mp hy)
  rcases hc with ⟨e', rfl, e2⟩ | ⟨hk, e2⟩
  · have e3 := congrArg List.reverse e2
    rw [List.reverse_reverse, List.reverse_append] at e3
    rw [e3, e1', List.reverse_cons, act_app, act_app, act_app, act_app]
    show _ = act cr e'.reverse (thr cr k (act cr d.reverse (thr cr k f)))
    rw [act_comm ok hd', thr_thr ok]
  · have e3 := congrArg List.reverse e2
    rw [List.reverse_reverse, List.reverse_append, List.reverse_reverse] at e3
    obtain ⟨b1, b2, eb, ep, hb1, hb2⟩ := putIn_split k d.reverse
    rw [e3, e1', ep, eb]
    have h2 : ∀ y ∈ b2, y ∈ cr k := fun y hy => hd' y (by rw [eb]; exact List.mem_append_right _ hy)
    simp only [act_app]
    show act cr e.reverse (act cr b1 (thr cr k (act cr b2 f))) = act cr e.reverse (act cr b1 (act cr b2 (thr cr k f)))
    rw [act_comm ok h2]
theorem act_join (ok : CrOk cr) : ∀ (way name : List Nat) (f : Nat → Int), act cr (joinC cr name way) f = act cr (name ++ way) f
  | [], name, f => by rw [List.append_nil]; rfl
  | k :: r, name, f => by
    show act cr (joinC cr (stepOf (cr k) name k) r) f = _
    rw [act_join ok r, act_app, act_step ok, ← act_app, List.append_assoc]
    rfl
/-! ### doors that lead back -/
def desc (cr : Nat → List Nat) (s : Nat) : List Nat → Prop
  | [] => False
  | t :: r => t = s ∨ (t ∈ cr s ∧ desc cr s r)
def Red (cr : Nat → List Nat) : List Nat → Prop
  | [] => True
  | t :: r => ¬ desc cr t r ∧ Red cr r
theorem desc_split {s : Nat} : ∀ {w : List Nat}, desc cr s w → ∃ p q, w = p ++ s :: q ∧ ∀ y ∈ p, y ∈ cr s
  | [], h => h.elim
  | t :: r, h => by
    rcases h with rfl | ⟨h1, h2⟩
    · exact ⟨[], r, rfl, fun _ z => (nomatch z)⟩
    · obtain ⟨p, q, rfl, hp⟩ := desc_split h2
      refine ⟨t :: p, q, rfl, fun y hy => ?_⟩
      rcases List.mem_cons.mp hy with rfl | hy
      · exact h1
      · exact hp y hy
theorem desc_of {s : Nat} : ∀ {p q : List Nat}, (∀ y ∈ p, y ∈ cr s) → desc cr s (p ++ s :: q)
  | [], _, _ => .inl rfl
  | y :: p, q, h => .inr ⟨h y (List.mem_cons_self ..), desc_of fun z hz => h z (List.mem_cons_of_mem _ hz)⟩
theorem desc_pass {s : Nat} (ok : CrOk cr) {q : List Nat} : ∀ {p : List Nat}, (∀ y ∈ p, y ∈ cr s) → (desc cr s (p ++ q) ↔ desc cr s q)
  | [], _ => Iff.rfl
  | y :: p, h => by
    have hy := h y (List.mem_cons_self ..)
    have ih := desc_pass (q := q) ok (p := p) fun z hz => h z (List.mem_cons_of_mem _ hz)
    constructor
    · rintro (rfl | ⟨_, h2⟩)
      · exact absurd hy (ok.irr _)
      · exact ih.mp h2
    · exact fun z => .inr ⟨hy, ih.mpr z⟩
/-- taken out: the door before its letter keeps what it is -/
theorem desc_out {s t : Nat} (ok : CrOk cr) (h : s ∈ cr t) {q : List Nat} : ∀ {p : List Nat}, desc cr t (p ++ q) → desc cr t (p ++ s :: q)
  | [], z => .inr ⟨h, z⟩
  | y :: p, z => by
    rcases z with z | ⟨z1, z2⟩
    · exact .inl z
    · exact .inr ⟨z1, desc_out ok h z2⟩
theorem Red_out {s : Nat} (ok : CrOk cr) {q : List Nat} : ∀ {p : List Nat}, (∀ y ∈ p, y ∈ cr s) → Red cr (p ++ s :: q) → Red cr (p ++ q)
  | [], _, h => h.2
  | y :: p, hp, h => ⟨fun z => h.1 (desc_out ok (ok.sym _ _ (hp y (List.mem_cons_self ..))) z), Red_out ok (fun z hz => hp z (List.mem_cons_of_mem _ hz)) h.2⟩
theorem Red_right : ∀ {p q : List Nat}, Red cr (p ++ q) → Red cr q
  | [], _, h => h
  | _ :: p, _, h => Red_right (p := p) h.2
/-- what is taken out of a reduced way -/
theorem Red_desc {s : Nat} (ok : CrOk cr) (h : Red cr w) (hs : desc cr s w) : ∃ u, Red cr u ∧ ¬ desc cr s u ∧ u.length + 1 = w.length ∧ (∀ f, act cr w f = thr cr s (act cr u f)) ∧ ∀ y ∈ u, y ∈ w := by
  obtain ⟨p, q, rfl, hp⟩ := desc_split hs
  refine ⟨p ++ q, Red_out ok hp h, ?_, by simp; omega, fun f => ?_, fun y hy => ?_⟩
  · rw [desc_pass ok hp]
    exact (Red_right h).1
  · rw [act_app, act_app]
    show act cr p (thr cr s (act cr q f)) = _
    rw [act_comm ok hp]
  · rcases List.mem_append.mp hy with z | z
    · exact List.mem_append_left _ z
    · exact List.mem_append_right _ (List.mem_cons_of_mem _ z)
end
/-- all coordinates are at least nought, one is above -/
def Pos (ls : List Nat) (v : Nat → Int) : Prop := (∀ x ∈ ls, 0 ≤ v x) ∧ ∃ x ∈ ls, 0 < v x
theorem mul_nn {c x : Int} (h : 0 ≤ c) (h2 : 0 ≤ x) : 0 ≤ c * x := Int.mul_nonneg h h2
theorem Pos.comb {ls : List Nat} {u v : Nat → Int} {c b : Int} (hu : Pos ls u) (hv : Pos ls v) (hc : 0 ≤ c) (hb : 0 < b) : Pos ls fun x => c * u x + b * v x := by
  refine ⟨fun x hx => ?_, ?_⟩
  · have := mul_nn hc (hu.1 x hx)
    have := mul_nn (Int.le_of_lt hb) (hv.1 x hx)
    show 0 ≤ c * u x + b * v x
    omega
  · obtain ⟨x, hx, h⟩ := hv.2
    refine ⟨x, hx, ?_⟩
    have := mul_nn hc (hu.1 x hx)
    have := Int.mul_pos hb h
    show 0 < c * u x + b * v x
    omega
theorem Pos.congr {ls : List Nat} {u v : Nat → Int} (hu : Pos ls u) (h : ∀ x ∈ ls, v x = u x) : Pos ls v := by
  refine ⟨fun x hx => h x hx ▸ hu.1 x hx, ?_⟩
  obtain ⟨x, hx, p⟩ := hu.2
  exact ⟨x, hx, h x hx ▸ p⟩
/-- the mark of the door e behind the way w, coordinate by coordinate -/
def mark (cr : Nat → List Nat) (w : List Nat) (e : Nat) : Nat → Int := fun x => act cr w (unit x) e
section
variable {cr : Nat → List Nat} {ls : List Nat}
theorem mark_pos (ok : CrOk cr) : ∀ (n : Nat) (w : List Nat), w.length = n → Red cr w → (∀ y ∈ w, y ∈ ls) →
    (∀ s ∈ ls, ¬ desc cr s w → Pos ls (mark cr w s)) ∧
    (∀ s ∈ ls, ∀ t ∈ ls, s ≠ t → ¬ s ∈ cr t → desc cr s w → ¬ desc cr t w → ∀ a b : Int, 0 ≤ a → a ≤ b → 0 < b → Pos ls fun x => a * mark cr w s x + b * mark cr w t x) := by
  intro n
  induction n using Nat.strongRecOn with
  | ind n ih =>
    intro w hn hr hw
    refine ⟨fun s hs hd => ?_, fun s hs t ht ne nc hd hd2 a b ha hab hb => ?_⟩
    · cases w with
      | nil =>
        refine ⟨fun x _ => ?_, s, hs, ?_⟩
        · show 0 ≤ unit x s
          unfold unit
          split <;> omega
        · show 0 < unit s s
          unfold unit
          rw [if_pos rfl]
          omega
      | cons t r =>
        have hr' : r.length < n := by rw [← hn]; simp
        have ht : t ∈ ls := hw t (List.mem_cons_self ..)
        have ne : s ≠ t := fun z => hd (.inl z.symm)
        obtain ⟨i1, i2⟩ := ih r.length hr' r rfl hr.2 fun y hy => hw y (List.mem_cons_of_mem _ hy)
        by_cases hc : s ∈ cr t
        · have hsr : ¬ desc cr s r := fun z => hd (.inr ⟨ok.sym _ _ hc, z⟩)
          refine (i1 s hs hsr).congr fun x _ => ?_
          show thr cr t (act cr r (unit x)) s = _
          rw [thr_cr ok hc]
          rfl
        · have key : ∀ x ∈ ls, mark cr (t :: r) s x = 1 * mark cr r s x + 2 * mark cr r t x := by
            intro x _
            show thr cr t (act cr r (unit x)) s = _
            rw [thr_not ne hc]
            show mark cr r s x + 2 * mark cr r t x = _
            omega
          by_cases hsr : desc cr s r
          · exact (i2 s hs t ht ne hc hsr hr.1 1 2 (by decide) (by decide) (by decide)).congr key
          · exact ((i1 s hs hsr).comb (i1 t ht hr.1) (by decide) (by decide)).congr key
    · obtain ⟨u, ru, du, lu, au, mu⟩ := Red_desc ok hr hd
      obtain ⟨i1, i2⟩ := ih u.length (by omega) u rfl ru fun y hy => hw y (mu y hy)
      have nc' : ¬ t ∈ cr s := fun z => nc (ok.sym _ _ z)
      have key : ∀ x ∈ ls, a * mark cr w s x + b * mark cr w t x = b * mark cr u t x + (2 * b - a) * mark cr u s x := by
        intro x _
        have e1 : mark cr w s x = - mark cr u s x := by
          show act cr w (unit x) s = _
          rw [au, thr_self]
          rfl
        have e2 : mark cr w t x = mark cr u t x + 2 * mark cr u s x := by
          show act cr w (unit x) t = _
          rw [au, thr_not ne.symm nc']
          rfl
        rw [e1, e2, Int.mul_neg, Int.mul_add, Int.sub_mul, ← Int.mul_assoc, Int.mul_comm b 2]
        omega
      by_cases htu : desc cr t u
      · exact (i2 t ht s hs ne.symm nc' htu du b (2 * b - a) (by omega) (by omega) (by omega)).congr key
      · exact ((i1 t ht htu).comb (i1 s hs du) (by omega) (by omega)).congr key
/-- a door leads back just if a coordinate of its mark is below nought -/
theorem mark_neg (ok : CrOk cr) {w : List Nat} (hr : Red cr w) (hw : ∀ y ∈ w, y ∈ ls) {s : Nat} (hs : s ∈ ls) : (∃ x ∈ ls, mark cr w s x < 0) ↔ desc cr s w := by
  constructor
  · rintro ⟨x, hx, h⟩
    by_cases hd : desc cr s w
    · exact hd
    · have := ((mark_pos ok _ w rfl hr hw).1 s hs hd).1 x hx
      omega
  · intro hd
    obtain ⟨u, ru, du, lu, au, mu⟩ := Red_desc ok hr hd
    obtain ⟨x, hx, h⟩ := ((mark_pos ok _ u rfl ru fun y hy => hw y (mu y hy)).1 s hs du).2
    refine ⟨x, hx, ?_⟩
    show act cr w (unit x) s < 0
    rw [au, thr_self]
    have : 0 < act cr u (unit x) s := h
    omega
/-! ### names by marks -/
theorem NF.tail {c : Nat} {r : List Nat} (h : NF cr (c :: r)) : NF cr r := by
  unfold NF at h ⊢
  rw [List.reverse_cons] at h
  have key : ∀ {a b : List Nat}, NFr cr (a ++ b) → NFr cr a := by
    intro a b
    induction a with
    | nil => intro _; trivial
    | cons s a ih =>
      intro h
      refine ⟨?_, ih h.2⟩
      have h1 := h.1
      clear h ih
      induction a with
      | nil => trivial
      | cons t a ih => exact ⟨h1.1, fun z => ⟨(h1.2 z).1, ih (h1.2 z).2⟩⟩
  exact key h
theorem NF.red : ∀ {w : List Nat}, NF cr w → Red cr w
  | [], _ => trivial
  | t :: r, h => by
    refine ⟨fun z => ?_, NF.red h.tail⟩
    obtain ⟨p, q, rfl, hp⟩ := desc_split z
    exact (h.two (p := []) (q := p) (r := q) rfl hp).1 rfl
/-- the first letter is the least door back -/
theorem NF.least {c s : Nat} {r : List Nat} (h : NF cr (c :: r)) (hs : desc cr s (c :: r)) : c ≤ s := by
  rcases hs with rfl | ⟨h1, h2⟩
  · exact Nat.le_refl _
  · obtain ⟨p, q, rfl, hp⟩ := desc_split h2
    exact Nat.le_of_lt ((h.two (p := []) (q := p) (r := q) rfl hp).2 h1)
/-- two names with the same marks are the same -/
theorem NF.uniq (ok : CrOk cr) : ∀ {w v : List Nat}, NF cr w → NF cr v → (∀ y ∈ w, y ∈ ls) → (∀ y ∈ v, y ∈ ls) → (∀ x ∈ ls, ∀ s, act cr w (unit x) s = act cr v (unit x) s) → w = v
  | [], [], _, _, _, _, _ => rfl
  | [], c :: v, h, h', hw, hv, he => by
    have := (mark_neg ok h'.red hv (hv c (List.mem_cons_self ..))).mpr (.inl rfl)
    obtain ⟨x, hx, z⟩ := this
    have := (mark_neg ok h.red hw (hv c (List.mem_cons_self ..))).mp ⟨x, hx, by unfold mark; rw [he x hx]; exact z⟩
    exact this.elim
  | c :: w, [], h, h', hw, hv, he => by
    have := (mark_neg ok h.red hw (hw c (List.mem_cons_self ..))).mpr (.inl rfl)
    obtain ⟨x, hx, z⟩ := this
    have := (mark_neg ok h'.red hv (hw c (List.mem_cons_self ..))).mp ⟨x, hx, by unfold mark; rw [← he x hx]; exact z⟩
    exact this.elim
  | c :: w, b :: v, h, h', hw, hv, he => by
    have hc := hw c (List.mem_cons_self ..)
    have hb := hv b (List.mem_cons_self ..)
    have h1 : desc cr c (b :: v) := by
      obtain ⟨x, hx, z⟩ := (mark_neg ok h.red hw hc).mpr (.inl rfl)
      exact (mark_neg ok h'.red hv hc).mp ⟨x, hx, by unfold mark; rw [← he x hx]; exact z⟩
    have h2 : desc cr b (c :: w) := by
      obtain ⟨x, hx, z⟩ := (mark_neg ok h'.red hv hb).mpr (.inl rfl)
      exact (mark_neg ok h.red hw hb).mp ⟨x, hx, by unfold mark; rw [he x hx]; exact z⟩
    have e1 := h.least h2
    have e2 := h'.least h1
    have e : c = b := by omega
    subst e
    congr 1
    refine NF.uniq ok h.tail h'.tail (fun y hy => hw y (List.mem_cons_of_mem _ hy)) (fun y hy => hv y (List.mem_cons_of_mem _ hy)) fun x hx s => ?_
    have e3 : act cr (c :: w) (unit x) = act cr (c :: v) (unit x) := funext (he x hx)
    have e4 := congrArg (thr cr c) e3
    have e5 : thr cr c (thr cr c (act cr w (unit x))) = thr cr c (thr cr c (act cr v (unit x))) := e4
    rw [thr_thr ok, thr_thr ok] at e5
    rw [e5]
end
end Cw
set_option Elab.async false
set_option linter.all false
set_option maxRecDepth 100000
set_option maxHeartbeats 4000000
/-! a drawn floor, in plain words -/
namespace Cw
/-- the letters of a drawn floor and which cross -/
structure Fl (ls : List Nat) (f : Nat → List Nat) : Prop where
  tab : Tab ls f
  ok : CrOk f
  asc : ls.Pairwise (· < ·)
  pos : 0 < ls.length
theorem Flr.fl {num : Nat} {ls : List Nat} {rel : Nat → Nat → Bool} (h : Flr num ls rel) : Fl ls (crossBy ls rel) where
  tab := h.tab
  asc := cut_lt' h.cut
  pos := (cut_len h.cut).2.2
  ok := by
    refine ⟨fun a b hab => ?_, fun a ha => ?_⟩
    · obtain ⟨h1, h2⟩ := List.mem_filter.mp hab
      have h3 := h.ok.in b a h2
      refine List.mem_filter.mpr ⟨h3.1, ?_⟩
      rw [h.ok.sym]
      exact h2
    · obtain ⟨h1, h2⟩ := List.mem_filter.mp ha
      exact (h.ok.in a a h2).2.2 rfl
theorem Fl.plain {ls : List Nat} {f : Nat → List Nat} (h : Fl ls f) : Fl ls (fun _ => []) where
  tab := ⟨h.tab.nd, h.tab.lt, h.tab.len, fun _ _ _ z => (nomatch z), fun _ _ => by simp⟩
  ok := ⟨fun _ _ z => (nomatch z), fun _ z => (nomatch z)⟩
  asc := h.asc
  pos := h.pos
section
variable {ls : List Nat} {f : Nat → List Nat}
theorem joinC_mem' {cr : Nat → List Nat} {c : Nat} : ∀ {way name : List Nat}, c ∈ joinC cr name way → c ∈ name ∨ c ∈ way
  | [], name, h => .inl h
  | k :: r, name, h => by
    rcases joinC_mem' (way := r) (name := stepOf (cr k) name k) h with z | z
    · rcases stepOf_mem z with e | e
      · exact .inr (e ▸ List.mem_cons_self ..)
      · exact .inl e
    · exact .inr (List.mem_cons_of_mem _ z)
/-- the name of a way -/
abbrev nameOf (f : Nat → List Nat) (w : List Nat) : List Nat := joinC f [] w
theorem name_mem {w : List Nat} {c : Nat} (h : c ∈ nameOf f w) : c ∈ w := (joinC_mem' h).elim (fun z => (nomatch z)) id
theorem name_NF (ok : CrOk f) (w : List Nat) : NF f (nameOf f w) := NF_join ok NF_nil
/-- two ways with the same marks have one name -/
theorem name_eq (ok : CrOk f) {v w : List Nat} (h : ∀ g, act f v g = act f w g) : nameOf f v = nameOf f w := by
  refine NF.uniq (ls := v ++ w) ok (name_NF ok v) (name_NF ok w) (fun y hy => List.mem_append_left _ (name_mem hy)) (fun y hy => List.mem_append_right _ (name_mem hy)) fun x _ s => ?_
  have e1 := act_join ok v [] (unit x)
  have e2 := act_join ok w [] (unit x)
  rw [List.nil_append] at e1 e2
  rw [show act f (nameOf f v) (unit x) = act f v (unit x) from e1, show act f (nameOf f w) (unit x) = act f w (unit x) from e2, h]
theorem name_act (ok : CrOk f) (w : List Nat) (g : Nat → Int) : act f (nameOf f w) g = act f w g := act_join ok w [] g
theorem name_twice (ok : CrOk f) (a : List Nat) (k : Nat) : nameOf f (a ++ [k] ++ [k]) = nameOf f a := by
  refine name_eq ok fun g => ?_
  rw [List.append_assoc, act_app]
  show act f a (thr f k (thr f k g)) = _
  rw [thr_thr ok]
end
end Cw
set_option Elab.async false
set_option linter.all false
set_option maxRecDepth 100000
set_option maxHeartbeats 4000000
/-! ways turned back; the doors that lead nearer -/
namespace Cw
section
variable {cr f : Nat → List Nat} {ls : List Nat}
theorem act_rev (ok : CrOk f) : ∀ (w : List Nat) (g : Nat → Int), act f w.reverse (act f w g) = g
  | [], g => rfl
  | k :: r, g => by
    rw [List.reverse_cons, act_app]
    show act f r.reverse (thr f k (thr f k (act f r g))) = g
    rw [thr_thr ok, act_rev ok r]
theorem act_rev' (ok : CrOk f) (w : List Nat) (g : Nat → Int) : act f w (act f w.reverse g) = g := by
  have := act_rev ok w.reverse g
  rw [List.reverse_reverse] at this
  exact this
theorem act_rev_eq (ok : CrOk f) {v w : List Nat} (h : ∀ g, act f v g = act f w g) (g : Nat → Int) : act f v.reverse g = act f w.reverse g := by
  have e1 := act_rev' ok w g
  rw [← h] at e1
  have e2 := congrArg (act f v.reverse) e1
  rw [act_rev ok] at e2
  exact e2.symm
theorem name_catR (ok : CrOk f) (a b : List Nat) : nameOf f (a ++ nameOf f b) = nameOf f (a ++ b) := name_eq ok fun g => by
  rw [act_app, act_app, name_act ok]
theorem name_back (ok : CrOk f) (a : List Nat) : nameOf f (a.reverse ++ a) = [] := name_eq (w := []) ok fun g => by
  rw [act_app, act_rev ok]
  rfl
theorem name_there (ok : CrOk f) (a b : List Nat) : nameOf f (a ++ (a.reverse ++ b)) = nameOf f b := name_eq ok fun g => by
  rw [act_app, act_app, act_rev' ok]
/-- the way from one room to another one -/
def wayC (f : Nat → List Nat) (a b : List Nat) : List Nat := nameOf f (a.reverse ++ b)
theorem way_self (ok : CrOk f) (a : List Nat) : wayC f a a = [] := name_back ok a
theorem way_goes (ok : CrOk f) (a b : List Nat) : nameOf f (a ++ wayC f a b) = nameOf f b := by
  unfold wayC
  rw [name_catR ok, name_there ok]
/-! ### odd and even -/
/-! ### doors nearer -/
instance descDec (cr : Nat → List Nat) (s : Nat) : (w : List Nat) → Decidable (desc cr s w)
  | [] => isFalse id
  | t :: r => by
    have := descDec cr s r
    exact inferInstanceAs (Decidable (t = s ∨ (t ∈ cr s ∧ desc cr s r)))
theorem Red_iff : ∀ {w : List Nat}, Red cr w ↔ ∀ p t q r, w = p ++ t :: (q ++ t :: r) → ¬ ∀ y ∈ q, y ∈ cr t
  | [] => ⟨fun _ p t q r e => (by cases p <;> cases e), fun _ => trivial⟩
  | x :: w => by
    constructor
    · intro h p t q r e hq
      cases p with
      | nil =>
        injection e with e1 e2
        subst e1
        exact h.1 (e2 ▸ desc_of hq)
      | cons y p =>
        injection e with e1 e2
        exact Red_iff.mp h.2 p t q r e2 hq
    · intro h
      refine ⟨fun z => ?_, Red_iff.mpr fun p t q r e hq => h (x :: p) t q r (by rw [e]; rfl) hq⟩
      obtain ⟨p, q, e, hp⟩ := desc_split z
      exact h [] x p q (by rw [e]; rfl) hp
theorem Red.rev {w : List Nat} (h : Red cr w) : Red cr w.reverse := by
  rw [Red_iff]
  intro p t q r e hq
  have e2 := congrArg List.reverse e
  rw [List.reverse_reverse] at e2
  refine Red_iff.mp h r.reverse t q.reverse p.reverse ?_ fun y hy => hq y (List.mem_reverse.mp hy)
  rw [e2]
  simp
theorem step_len_desc (ok : CrOk cr) (name : List Nat) (k : Nat) : (desc cr k name.reverse → (stepOf (cr k) name k).length + 1 = name.length) ∧ (¬ desc cr k name.reverse → (stepOf (cr k) name k).length = name.length + 1) := by
  obtain ⟨d, e, e1, hd, he, hc⟩ := stepOf_cases (cr k) name k
  have l1 := congrArg List.length e1
  rw [List.length_reverse, List.length_append] at l1
  rw [e1]
  have hp := desc_pass (q := e) ok hd
  rcases hc with ⟨e', rfl, e2⟩ | ⟨hk, e2⟩
  · have l2 := congrArg List.length e2
    rw [List.length_reverse, List.length_append] at l2
    rw [List.length_cons] at l1
    exact ⟨fun _ => by omega, fun z => absurd (hp.mpr (.inl rfl)) z⟩
  · have l2 := congrArg List.length e2
    rw [List.length_reverse, List.length_append, List.length_reverse, putIn_len, List.length_reverse] at l2
    refine ⟨fun z => ?_, fun _ => by omega⟩
    have z := hp.mp z
    cases e with
    | nil => exact z.elim
    | cons y r =>
      rcases z with z | ⟨z, _⟩
      · exact absurd (by rw [z]; rfl) hk
      · exact absurd z (he y rfl)
/-- letters of a way that all before them cross -/
def frees (f : Nat → List Nat) (ks : List Nat) (p : List Nat) : List Nat := p.foldl (fun free k => free.filter fun o => decide (o ∈ f k)) ks
end
end Cw
set_option Elab.async false
set_option linter.all false
set_option maxRecDepth 100000
set_option maxHeartbeats 4000000
/-! walls in plain words: two doors of one kind lie in one wall just if their marks agree but for the sign -/
namespace Cw
/-! ### sums of coordinates -/
def sumL : List Nat → (Nat → Int) → Int
  | [], _ => 0
  | x :: r, v => v x + sumL r v
theorem sumL_congr {u v : Nat → Int} : ∀ {ls : List Nat}, (∀ x ∈ ls, u x = v x) → sumL ls u = sumL ls v
  | [], _ => rfl
  | x :: r, h => by
    show u x + sumL r u = v x + sumL r v
    rw [h x (List.mem_cons_self ..), sumL_congr fun y hy => h y (List.mem_cons_of_mem _ hy)]
theorem sumL_comb (a b : Int) (u v : Nat → Int) : ∀ ls : List Nat, sumL ls (fun x => a * u x + b * v x) = a * sumL ls u + b * sumL ls v
  | [] => by simp [sumL]
  | x :: r => by
    show (a * u x + b * v x) + sumL r _ = a * (u x + sumL r u) + b * (v x + sumL r v)
    rw [sumL_comb a b u v r, Int.mul_add, Int.mul_add]
    omega
theorem sumL_nonneg {v : Nat → Int} : ∀ {ls : List Nat}, (∀ x ∈ ls, 0 ≤ v x) → 0 ≤ sumL ls v
  | [], _ => by simp [sumL]
  | x :: r, h => by
    show 0 ≤ v x + sumL r v
    have := h x (List.mem_cons_self ..)
    have := sumL_nonneg (ls := r) fun y hy => h y (List.mem_cons_of_mem _ hy)
    omega
theorem sumL_nonpos {v : Nat → Int} : ∀ {ls : List Nat}, (∀ x ∈ ls, v x ≤ 0) → sumL ls v ≤ 0
  | [], _ => by simp [sumL]
  | x :: r, h => by
    show v x + sumL r v ≤ 0
    have := h x (List.mem_cons_self ..)
    have := sumL_nonpos (ls := r) fun y hy => h y (List.mem_cons_of_mem _ hy)
    omega
theorem sumL_pos {v : Nat → Int} : ∀ {ls : List Nat}, Pos ls v → 1 ≤ sumL ls v
  | [], h => by
    obtain ⟨x, hx, _⟩ := h.2
    cases hx
  | y :: r, h => by
    show 1 ≤ v y + sumL r v
    have h1 := h.1 y (List.mem_cons_self ..)
    have h2 := sumL_nonneg (ls := r) fun z hz => h.1 z (List.mem_cons_of_mem _ hz)
    obtain ⟨x, hx, hp⟩ := h.2
    rcases List.mem_cons.mp hx with rfl | hx
    · omega
    · have := sumL_pos (ls := r) ⟨fun z hz => h.1 z (List.mem_cons_of_mem _ hz), x, hx, hp⟩
      omega
theorem sumL_out {g : Nat → Int} {s : Nat} : ∀ {ls : List Nat}, ¬ s ∈ ls → sumL ls (fun x => g x * unit x s) = 0
  | [], _ => rfl
  | y :: r, h => by
    show g y * unit y s + sumL r _ = 0
    rw [sumL_out fun z => h (List.mem_cons_of_mem _ z)]
    unfold unit
    rw [if_neg fun z : s = y => h (z ▸ List.mem_cons_self ..)]
    simp
theorem sumL_unit {g : Nat → Int} {s : Nat} : ∀ {ls : List Nat}, ls.Nodup → s ∈ ls → sumL ls (fun x => g x * unit x s) = g s
  | [], _, h => nomatch h
  | y :: r, hn, h => by
    show g y * unit y s + sumL r _ = g s
    have hn' := List.nodup_cons.mp hn
    by_cases e : s = y
    · subst e
      rw [sumL_out hn'.1]
      unfold unit
      rw [if_pos rfl]
      omega
    · rw [sumL_unit hn'.2 ((List.mem_cons.mp h).resolve_left e)]
      unfold unit
      rw [if_neg e]
      omega
theorem sumL_one {s : Nat} {ls : List Nat} (hn : ls.Nodup) (hs : s ∈ ls) : sumL ls (fun x => unit x s) = 1 := by
  have := sumL_unit (g := fun _ => 1) hn hs
  rw [← this]
  exact sumL_congr fun x _ => by omega
section
variable {f : Nat → List Nat} {ls : List Nat} {s t : Nat}
/-- a way acts as a matrix of whole numbers -/
theorem act_lin (hn : ls.Nodup) (ok : CrOk f) (g : Nat → Int) : ∀ {w : List Nat} {s : Nat}, (∀ y ∈ w, y ∈ ls) → s ∈ ls → act f w g s = sumL ls fun x => g x * mark f w s x
  | [], s, _, hs => (sumL_unit hn hs).symm
  | t :: r, s, hw, hs => by
    have ht := hw t (List.mem_cons_self ..)
    have hr : ∀ y ∈ r, y ∈ ls := fun y hy => hw y (List.mem_cons_of_mem _ hy)
    show thr f t (act f r g) s = _
    by_cases e : s = t
    · subst e
      rw [thr_self, act_lin hn ok g hr hs]
      have := sumL_comb (-1) 0 (fun x => g x * mark f r s x) (fun _ => 0) ls
      have e2 : sumL ls (fun x => g x * mark f (s :: r) s x) = sumL ls fun x => -1 * (g x * mark f r s x) + 0 * 0 := sumL_congr fun x _ => by
        show g x * thr f s (act f r (unit x)) s = _
        rw [thr_self, Int.mul_neg]
        show -(g x * mark f r s x) = _
        omega
      rw [e2, this]
      omega
    · by_cases c : s ∈ f t
      · rw [thr_cr ok c, act_lin hn ok g hr hs]
        refine sumL_congr fun x _ => ?_
        show _ = g x * thr f t (act f r (unit x)) s
        rw [thr_cr ok c]
        rfl
      · rw [thr_not e c, act_lin hn ok g hr hs, act_lin hn ok g hr ht]
        have := sumL_comb 1 2 (fun x => g x * mark f r s x) (fun x => g x * mark f r t x) ls
        have e2 : sumL ls (fun x => g x * mark f (t :: r) s x) = sumL ls fun x => 1 * (g x * mark f r s x) + 2 * (g x * mark f r t x) := sumL_congr fun x _ => by
          show g x * thr f t (act f r (unit x)) s = _
          rw [thr_not e c]
          show g x * (mark f r s x + 2 * mark f r t x) = _
          rw [Int.mul_add, ← Int.mul_assoc, Int.mul_comm (g x) 2, Int.mul_assoc]
          omega
        rw [e2, this]
        omega
theorem mark_nn (ok : CrOk f) {w : List Nat} (hr : Red f w) (hw : ∀ y ∈ w, y ∈ ls) (hs : s ∈ ls) (hd : ¬ desc f s w) : Pos ls (mark f w s) := (mark_pos ok _ w rfl hr hw).1 s hs hd
theorem mark_np (ok : CrOk f) {w : List Nat} (hr : Red f w) (hw : ∀ y ∈ w, y ∈ ls) (hs : s ∈ ls) (hd : desc f s w) : ∀ x ∈ ls, mark f w s x ≤ 0 := by
  intro x hx
  obtain ⟨u, ru, du, lu, au, mu⟩ := Red_desc ok hr hd
  have := (mark_nn ok ru (fun y hy => hw y (mu y hy)) hs du).1 x hx
  show act f w (unit x) s ≤ 0
  rw [au, thr_self]
  have : 0 ≤ act f u (unit x) s := this
  omega
/-- a way that leaves the mark of a kind goes through kinds that cross it -/
theorem mark_fix (hn : ls.Nodup) (ok : CrOk f) (hs : s ∈ ls) : ∀ {w : List Nat}, Red f w → (∀ y ∈ w, y ∈ ls) → (∀ x ∈ ls, mark f w s x = unit x s) → ∀ y ∈ w, y ∈ f s
  | [], _, _, _, y, hy => nomatch hy
  | t :: r, hr, hw, he, y, hy => by
    have ht := hw t (List.mem_cons_self ..)
    have hr' : ∀ y ∈ r, y ∈ ls := fun y hy => hw y (List.mem_cons_of_mem _ hy)
    have S1 : sumL ls (mark f (t :: r) s) = 1 := by rw [sumL_congr he, sumL_one hn hs]
    have Pt := sumL_pos (mark_nn ok hr.2 hr' ht hr.1)
    by_cases e : s = t
    · subst e
      have e2 : sumL ls (mark f (s :: r) s) = sumL ls fun x => -1 * mark f r s x + 0 * mark f r s x := sumL_congr fun x _ => by
        show thr f s (act f r (unit x)) s = _
        rw [thr_self]
        show - mark f r s x = _
        omega
      rw [e2, sumL_comb] at S1
      omega
    · by_cases c : s ∈ f t
      · have ih := mark_fix hn ok hs hr.2 hr' fun x hx => by
          rw [← he x hx]
          show act f r (unit x) s = thr f t (act f r (unit x)) s
          rw [thr_cr ok c]
        rcases List.mem_cons.mp hy with rfl | hy
        · exact ok.sym _ _ c
        · exact ih y hy
      · have e2 : sumL ls (mark f (t :: r) s) = sumL ls fun x => 1 * mark f r s x + 2 * mark f r t x := sumL_congr fun x _ => by
          show thr f t (act f r (unit x)) s = _
          rw [thr_not e c]
          show mark f r s x + 2 * mark f r t x = _
          omega
        rw [e2, sumL_comb] at S1
        by_cases d : desc f s r
        · have := sumL_pos ((mark_pos ok _ r rfl hr.2 hr').2 s hs t ht e c d hr.1 1 1 (by decide) (by decide) (by decide))
          rw [sumL_comb] at this
          omega
        · have := sumL_pos (mark_nn ok hr.2 hr' hs d)
          omega
theorem mark_zero (ok : CrOk f) {x : Nat} : ∀ {w : List Nat} {s : Nat}, ¬ x ∈ w → x ≠ s → mark f w s x = 0
  | [], s, _, h => by
    show unit x s = 0
    unfold unit
    rw [if_neg fun z : s = x => h z.symm]
  | t :: r, s, hw, h => by
    have h1 : ¬ x ∈ r := fun z => hw (List.mem_cons_of_mem _ z)
    have h2 : x ≠ t := fun z => hw (z ▸ List.mem_cons_self ..)
    have e1 := mark_zero ok h1 h
    have e2 := mark_zero ok h1 h2
    show thr f t (act f r (unit x)) s = 0
    have e1 : act f r (unit x) s = 0 := e1
    have e2 : act f r (unit x) t = 0 := e2
    unfold thr
    split
    · omega
    · split <;> omega
theorem act_of_name (ok : CrOk f) (w : List Nat) (g : Nat → Int) : act f (nameOf f w).reverse g = act f w.reverse g := act_rev_eq ok (name_act ok w) g
/-- two rooms from which no door of a kind that crosses s leads back, with one mark of s, are one -/
theorem wall_uniq (hn : ls.Nodup) (ok : CrOk f) (hs : s ∈ ls) {m n : List Nat} (hm : NF f m) (hn' : NF f n) (im : ∀ y ∈ m, y ∈ ls) (in' : ∀ y ∈ n, y ∈ ls)
    (dm : ∀ t ∈ f s, ¬ desc f t m.reverse) (dn : ∀ t ∈ f s, ¬ desc f t n.reverse) (he : ∀ x ∈ ls, mark f m.reverse s x = mark f n.reverse s x) : m = n := by
  have imr : ∀ y ∈ m.reverse, y ∈ ls := fun y hy => im y (List.mem_reverse.mp hy)
  have inr' : ∀ y ∈ n.reverse, y ∈ ls := fun y hy => in' y (List.mem_reverse.mp hy)
  have au : ∀ g, act f (wayC f n m).reverse g = act f m.reverse (act f n g) := fun g => by
    unfold wayC
    rw [act_of_name ok, List.reverse_append, List.reverse_reverse, act_app]
  have iu : ∀ y ∈ (wayC f n m).reverse, y ∈ ls := fun y hy => by
    rcases List.mem_append.mp (name_mem (List.mem_reverse.mp hy)) with z | z
    · exact in' y (List.mem_reverse.mp z)
    · exact im y z
  have ru : Red f (wayC f n m).reverse := (name_NF ok _).red.rev
  have fx : ∀ x ∈ ls, mark f (wayC f n m).reverse s x = unit x s := by
    intro x hx
    show act f (wayC f n m).reverse (unit x) s = _
    rw [au, act_lin hn ok _ imr hs, sumL_congr (v := fun y => act f n (unit x) y * mark f n.reverse s y) fun y hy => by rw [he y hy], ← act_lin hn ok _ inr' hs, act_rev ok]
  have uin := mark_fix hn ok hs ru iu fx
  have hg := way_goes ok n m
  have am : ∀ g, act f m.reverse g = act f (wayC f n m).reverse (act f n.reverse g) := fun g => by
    rw [← act_app, ← List.reverse_append, ← act_of_name ok (n ++ wayC f n m), hg, act_of_name ok]
  cases hu : (wayC f n m).reverse with
  | nil =>
    have : wayC f n m = [] := by simpa using hu
    rw [this, List.append_nil] at hg
    have e1 : nameOf f n = n := (is_NF ok).mpr hn'
    have e2 : nameOf f m = m := (is_NF ok).mpr hm
    rw [e1, e2] at hg
    exact hg.symm
  | cons t r =>
    have tin : t ∈ f s := uin t (by rw [hu]; exact List.mem_cons_self ..)
    have tls : t ∈ ls := iu t (by rw [hu]; exact List.mem_cons_self ..)
    have hd : desc f t (wayC f n m).reverse := by rw [hu]; exact .inl rfl
    obtain ⟨x, hx, hp⟩ := (mark_nn ok hm.red.rev imr tls (dm t tin)).2
    have e1 : mark f m.reverse t x = sumL ls fun y => act f n.reverse (unit x) y * mark f (wayC f n m).reverse t y := by
      show act f m.reverse (unit x) t = _
      rw [am, act_lin hn ok _ iu tls]
    have e2 : (sumL ls fun y => act f n.reverse (unit x) y * mark f (wayC f n m).reverse t y) ≤ 0 := by
      refine sumL_nonpos fun y hy => ?_
      have np := mark_np ok ru iu tls hd y hy
      by_cases c : y ∈ f s
      · have := (mark_nn ok hn'.red.rev inr' hy (dn y c)).1 x hx
        have this : 0 ≤ act f n.reverse (unit x) y := this
        exact Int.mul_nonpos_of_nonneg_of_nonpos this np
      · have z := mark_zero ok (x := y) (w := (wayC f n m).reverse) (s := t) (fun z => c (uin y z)) (fun z => c (z ▸ tin))
        rw [z]
        omega
    omega
/-! ### the end of a way that may be left off -/
/-- letters out of free that may be brought ahead, and the rest -/
def splitA (f : Nat → List Nat) : List Nat → List Nat → List Nat × List Nat
  | _, [] => ([], [])
  | free, k :: r => if k ∈ free then (k :: (splitA f free r).1, (splitA f free r).2) else ((splitA f (free.filter fun o => decide (o ∈ f k)) r).1, k :: (splitA f (free.filter fun o => decide (o ∈ f k)) r).2)
theorem splitA_in (f : Nat → List Nat) : ∀ (w free : List Nat), ∀ y ∈ (splitA f free w).1, y ∈ free
  | [], _, y, hy => nomatch hy
  | k :: r, free, y, hy => by
    unfold splitA at hy
    by_cases c : k ∈ free
    · rw [if_pos c] at hy
      rcases List.mem_cons.mp hy with rfl | hy
      · exact c
      · exact splitA_in f r free y hy
    · rw [if_neg c] at hy
      exact (List.mem_filter.mp (splitA_in f r _ y hy)).1
theorem splitA_mem1 (f : Nat → List Nat) : ∀ (w free : List Nat), ∀ y ∈ (splitA f free w).1, y ∈ w
  | [], _, y, hy => nomatch hy
  | k :: r, free, y, hy => by
    unfold splitA at hy
    by_cases c : k ∈ free
    · rw [if_pos c] at hy
      rcases List.mem_cons.mp hy with rfl | hy
      · exact List.mem_cons_self ..
      · exact List.mem_cons_of_mem _ (splitA_mem1 f r free y hy)
    · rw [if_neg c] at hy
      exact List.mem_cons_of_mem _ (splitA_mem1 f r _ y hy)
theorem splitA_mem2 (f : Nat → List Nat) : ∀ (w free : List Nat), ∀ y ∈ (splitA f free w).2, y ∈ w
  | [], _, y, hy => nomatch hy
  | k :: r, free, y, hy => by
    unfold splitA at hy
    by_cases c : k ∈ free
    · rw [if_pos c] at hy
      exact List.mem_cons_of_mem _ (splitA_mem2 f r free y hy)
    · rw [if_neg c] at hy
      rcases List.mem_cons.mp hy with rfl | hy
      · exact List.mem_cons_self ..
      · exact List.mem_cons_of_mem _ (splitA_mem2 f r _ y hy)
theorem splitA_len (f : Nat → List Nat) : ∀ (w free : List Nat), (splitA f free w).1.length + (splitA f free w).2.length = w.length
  | [], _ => rfl
  | k :: r, free => by
    unfold splitA
    by_cases c : k ∈ free
    · rw [if_pos c]
      have := splitA_len f r free
      simp only [List.length_cons]
      omega
    · rw [if_neg c]
      have := splitA_len f r (free.filter fun o => decide (o ∈ f k))
      simp only [List.length_cons]
      omega
theorem splitA_act (ok : CrOk f) (g : Nat → Int) : ∀ (w free : List Nat), act f ((splitA f free w).1 ++ (splitA f free w).2) g = act f w g
  | [], _ => rfl
  | k :: r, free => by
    unfold splitA
    by_cases c : k ∈ free
    · rw [if_pos c]
      show thr f k (act f ((splitA f free r).1 ++ (splitA f free r).2) g) = thr f k (act f r g)
      rw [splitA_act ok g r free]
    · rw [if_neg c]
      show act f ((splitA f _ r).1 ++ k :: (splitA f _ r).2) g = thr f k (act f r g)
      rw [← splitA_act ok g r (free.filter fun o => decide (o ∈ f k)), act_app, act_app]
      show act f (splitA f _ r).1 (thr f k (act f (splitA f _ r).2 g)) = _
      rw [act_comm ok fun y hy => of_decide_eq_true (List.mem_filter.mp (splitA_in f r _ y hy)).2]
theorem splitA_desc (ok : CrOk f) : ∀ (w free : List Nat), ∀ t ∈ free, ¬ desc f t (splitA f free w).2
  | [], _, t, _ => id
  | k :: r, free, t, ht => by
    unfold splitA
    by_cases c : k ∈ free
    · rw [if_pos c]
      exact splitA_desc ok r free t ht
    · rw [if_neg c]
      rintro (z | ⟨z1, z2⟩)
      · exact c (z ▸ ht)
      · exact splitA_desc ok r _ t (List.mem_filter.mpr ⟨ht, decide_eq_true (ok.sym _ _ z1)⟩) z2
theorem splitA_back {k : Nat} : ∀ {w free : List Nat}, (∀ y ∈ free, y ∈ f k) → desc f k (splitA f free w).2 → desc f k w
  | [], _, _, h => h
  | c :: r, free, hf, h => by
    unfold splitA at h
    by_cases e : c ∈ free
    · rw [if_pos e] at h
      exact .inr ⟨hf c e, splitA_back hf h⟩
    · rw [if_neg e] at h
      rcases h with h | ⟨h1, h2⟩
      · exact .inl h
      · exact .inr ⟨h1, splitA_back (fun y hy => hf y (List.mem_filter.mp hy).1) h2⟩
theorem okAt_rest {k : Nat} : ∀ {w free : List Nat}, (∀ y ∈ free, y ∈ f k) → okAt f k w → okAt f k (splitA f free w).2
  | [], _, _, h => h
  | c :: r, free, hf, h => by
    unfold splitA
    by_cases e : c ∈ free
    · rw [if_pos e]
      exact okAt_rest hf (h.2 (hf c e)).2
    · rw [if_neg e]
      exact ⟨h.1, fun z => ⟨(h.2 z).1, okAt_rest (fun y hy => hf y (List.mem_filter.mp hy).1) (h.2 z).2⟩⟩
theorem NFr_rest : ∀ {w free : List Nat}, NFr f w → NFr f (splitA f free w).2
  | [], _, h => h
  | c :: r, free, h => by
    unfold splitA
    by_cases e : c ∈ free
    · rw [if_pos e]
      exact NFr_rest h.2
    · rw [if_neg e]
      exact ⟨okAt_rest (fun y hy => of_decide_eq_true (List.mem_filter.mp hy).2) h.1, NFr_rest h.2⟩
/-! ### where a wall begins -/
def nearC (f : Nat → List Nat) (name : List Nat) (s : Nat) : List Nat := if desc f s name.reverse then stepOf (f s) name s else name
def startC (f : Nat → List Nat) (name : List Nat) (s : Nat) : List Nat := (splitA f (f s) (nearC f name s).reverse).2.reverse
theorem near_not (ok : CrOk f) {name : List Nat} (h : NF f name) (s : Nat) : ¬ desc f s (nearC f name s).reverse := by
  unfold nearC
  by_cases c : desc f s name.reverse
  · rw [if_pos c]
    intro z
    have l1 := (step_len_desc ok name s).1 c
    have l2 := (step_len_desc ok (stepOf (f s) name s) s).1 z
    have e : stepOf (f s) (stepOf (f s) name s) s = name := by
      have e1 : nameOf f name = name := (is_NF ok).mpr h
      have e2 := name_twice ok name s
      rw [e1] at e2
      have e3 : nameOf f (name ++ [s] ++ [s]) = stepOf (f s) (stepOf (f s) (nameOf f name) s) s := by
        show joinC f [] (name ++ [s] ++ [s]) = _
        rw [joinC_app, joinC_app]
        rfl
      rw [e3, e1] at e2
      exact e2
    rw [e] at l2
    omega
  · rw [if_neg c]
    exact c
theorem near_NF (ok : CrOk f) {name : List Nat} (h : NF f name) (s : Nat) : NF f (nearC f name s) := by
  unfold nearC
  split
  · exact NF_step ok h
  · exact h
theorem near_mem {name : List Nat} {s c : Nat} (h : c ∈ nearC f name s) : c = s ∨ c ∈ name := by
  unfold nearC at h
  split at h
  · exact stepOf_mem h
  · exact .inr h
theorem start_NF (ok : CrOk f) {name : List Nat} (h : NF f name) (s : Nat) : NF f (startC f name s) := by
  unfold startC NF
  rw [List.reverse_reverse]
  exact NFr_rest (near_NF ok h s)
theorem start_not (ok : CrOk f) {name : List Nat} (h : NF f name) (s : Nat) : ¬ desc f s (startC f name s).reverse := by
  unfold startC
  rw [List.reverse_reverse]
  exact fun z => near_not ok h s (splitA_back (fun y hy => hy) z)
theorem start_free (ok : CrOk f) (name : List Nat) (s : Nat) : ∀ t ∈ f s, ¬ desc f t (startC f name s).reverse := by
  unfold startC
  rw [List.reverse_reverse]
  exact splitA_desc ok _ _
theorem start_mem {name : List Nat} {s c : Nat} (h : c ∈ startC f name s) : c = s ∨ c ∈ name := near_mem (List.mem_reverse.mp (splitA_mem2 f _ _ c (List.mem_reverse.mp h)))
theorem mark_along (ok : CrOk f) {g : Nat → Int} {v : List Nat} : ∀ {u : List Nat}, (∀ y ∈ u, y ∈ f s) → act f (u ++ v) g s = act f v g s
  | [], _ => rfl
  | y :: u, h => by
    show thr f y (act f (u ++ v) g) s = _
    rw [thr_cr ok (ok.sym _ _ (h y (List.mem_cons_self ..))), mark_along ok fun z hz => h z (List.mem_cons_of_mem _ hz)]
theorem start_mark (ok : CrOk f) (name : List Nat) (s : Nat) (g : Nat → Int) : act f (startC f name s).reverse g s = act f (nearC f name s).reverse g s := by
  unfold startC
  rw [List.reverse_reverse, ← splitA_act ok g (nearC f name s).reverse (f s)]
  exact (mark_along ok (splitA_in f _ _)).symm
theorem near_mark (ok : CrOk f) (name : List Nat) (s : Nat) (g : Nat → Int) : act f (nearC f name s).reverse g s = if desc f s name.reverse then - act f name.reverse g s else act f name.reverse g s := by
  unfold nearC
  by_cases c : desc f s name.reverse
  · rw [if_pos c, if_pos c, act_rev_eq ok (fun g => act_step ok name s g), List.reverse_append]
    show thr f s (act f name.reverse g) s = _
    rw [thr_self]
  · rw [if_neg c, if_neg c]
end
end Cw
set_option Elab.async false
set_option linter.all false
set_option maxRecDepth 100000
set_option maxHeartbeats 4000000
/-! more of walls in plain words -/
namespace Cw
section
variable {f : Nat → List Nat} {ls : List Nat} {s t : Nat}
end
end Cw
set_option Elab.async false
set_option linter.all false
set_option maxRecDepth 100000
set_option maxHeartbeats 4000000
/-! rooms beyond a wall, by the marks of the doors of a shortest way -/
namespace Cw
section
variable {f : Nat → List Nat} {ls : List Nat} {s c : Nat}
theorem unit_thr {x e : Nat} (hx : x ≠ c) : thr f c (unit x) e = unit x e := by
  have h0 : unit x c = 0 := by
    unfold unit
    rw [if_neg hx.symm]
  unfold thr
  by_cases h : e = c
  · rw [if_pos h, h, h0]
    rfl
  · rw [if_neg h]
    split
    · rfl
    · rw [h0]
      omega
end
end Cw
set_option Elab.async false
set_option linter.all false
set_option maxRecDepth 100000
set_option maxHeartbeats 4000000
/-! text.index(letter); vectors turned by one kind -/
namespace Cw
open PySem PySem.Spec PyProof.Rows L2
def rIdx : V → List V → Hp → VK → Prop := fun x xs H Q => ∃ a b i rest, x = .str a ∧ xs = [.str b] ∧ Builtin.Str.occurrences a b 0 a.length 1 = i :: rest ∧ Q (.int (i : Nat)) H
/-- the first place of a letter -/
def ixOf (l : List Nat) (c : Nat) : Nat := l.idxOf c
theorem lt_ixOf : ∀ {l : List Nat} {c j : Nat}, j < l.idxOf c → l[j]? ≠ some c
  | [], c, j, h => by simp
  | a :: r, c, j, h => by
    rw [List.idxOf_cons] at h
    by_cases e : a = c
    · subst e
      simp at h
    · have e' : (a == c) = false := beq_eq_false_iff_ne.mpr e
      rw [e'] at h
      simp only [cond_false] at h
      cases j with
      | zero =>
        rw [List.getElem?_cons_zero]
        exact fun z => e (Option.some.inj z)
      | succ j =>
        rw [List.getElem?_cons_succ]
        exact lt_ixOf (by omega)
theorem v_index {H : Hp} {Q : VK} {l : List Nat} {c : Nat} (h : c ∈ l) (q : Q (.int ((ixOf l c : Nat) : Int)) H) : rIdx (.str (tx l)) [.str (tx [c])] H Q := by
  have hi : ixOf l c < l.length := List.idxOf_lt_length_iff.mpr h
  have e : l = l.take (ixOf l c) ++ c :: l.drop (ixOf l c + 1) := by
    have e1 : l[ixOf l c] = c := List.getElem_idxOf hi
    conv => lhs; rw [← List.take_append_drop (ixOf l c) l, List.drop_eq_getElem_cons hi, e1]
  have hn : ¬ c ∈ l.take (ixOf l c) := fun m => by
    obtain ⟨j, hj, ej⟩ := List.getElem_of_mem m
    rw [List.length_take] at hj
    rw [List.getElem_take] at ej
    have hj2 : j < ixOf l c := by omega
    exact lt_ixOf hj2 (by rw [List.getElem?_eq_getElem (show j < l.length by omega), ej])
  refine ⟨_, _, ixOf l c, [], rfl, rfl, ?_, q⟩
  have o := occ_one (q := l.drop (ixOf l c + 1)) hn
  rw [← e] at o
  rw [o, List.length_take, Nat.min_eq_left (by omega)]
theorem ixOf_get {l : List Nat} {c : Nat} (h : c ∈ l) : ixOf l c < l.length ∧ l.getD (ixOf l c) 0 = c := by
  have hi : ixOf l c < l.length := List.idxOf_lt_length_iff.mpr h
  refine ⟨hi, ?_⟩
  rw [List.getD_eq_getElem?_getD, List.getElem?_eq_getElem hi]
  exact List.getElem_idxOf hi
/-! ### one turn of a vector -/
end Cw
set_option Elab.async false
set_option linter.all false
set_option maxRecDepth 100000
set_option maxHeartbeats 4000000
/-! text.find(letter) -/
namespace Cw
open PySem PySem.Spec PyProof.Rows L2
def rFind : V → List V → Hp → VK → Prop := fun x xs H Q => ∃ a b, x = .str a ∧ xs = [.str b] ∧ Q (.int (match Builtin.Str.occurrences a b 0 a.length 1 with | i :: _ => (i : Int) | [] => -1)) H
theorem mt_find {X : Cx} : MtR X "str.find" rFind := by
  rintro pins s σ H x xs v us Q I rx rs ⟨a, b, rfl, rfl, q⟩
  obtain ⟨t, rfl⟩ := rx
  match us, rs with
  | [_], .cons r1 .nil =>
    obtain ⟨t2, rfl⟩ := r1
    exact PySem.SC.find ⟨.int (match Builtin.Str.occurrences a b 0 a.length 1 with | i :: _ => (i : Int) | [] => -1), H, I.tok _, ⟨_, rfl⟩, q⟩
theorem pe_find {X : Cx} {o e : Expr} {to te : TE} {apos pos : PySem.Pos} (ho : PE X o to) (he : PE X e te) (hs : starEach [e] X.env = [(false, eval e X.env)] := by rfl) (hbase : attributeBase o "find" X.env (eval o X.env) = eval o X.env := by rfl) (hline : (apos.endLine == pos.line) = true := by rfl) :
    PE X (.Call (.Attribute o "find" apos) [e] [] pos) (tM1 rFind to te) := pe_m1 F.slot_str_find F.type_str_find mt_find ho he hs hbase hline
theorem v_find {H : Hp} {Q : VK} {l : List Nat} {c : Nat} (h : c ∈ l) (q : Q (.int ((ixOf l c : Nat) : Int)) H) : rFind (.str (tx l)) [.str (tx [c])] H Q := by
  obtain ⟨a, b, i, rest, e1, e2, ho, e3⟩ := v_index (H := H) (Q := fun v _ => v = .int ((ixOf l c : Nat) : Int)) h rfl
  injection e1 with e1
  injection e2 with e2
  injection e2 with e2
  subst e1 e2
  refine ⟨_, _, rfl, rfl, ?_⟩
  rw [ho]
  injection e3 with e3
  show Q (.int (i : Int)) H
  rw [e3]
  exact q
end Cw
set_option Elab.async false
set_option linter.all false
set_option maxRecDepth 100000
set_option maxHeartbeats 4000000
/-! more operators of classes of one's own: o + text, o[text], o == text -/
namespace PySem.W
open PySem PySem.Calls PyProof.Rows Builtin
section
variable {prog : Program} {w : World} {A : Around} {E : Value → Shared → Prop} {s : Shared} {K : Frag} {x C L f : Addr} {h0 : Heap} {m : Str → Option Value} {ox : Obj} {od : Option Obj}
end
end PySem.W
namespace Cw
open PySem PySem.Spec L2
section
variable {X : Cx} {CX : CXT} {k : Nat} {C : Addr} {m : Str} {ps : List Str} {sp : Sp} {E : XK}
/-- o op text, by the class's own method -/
def rMS (C : Addr) (sp : Sp) (E : XK) : R2 := fun x y H Q => ∃ a dx fs z, x = .ref a ∧ y = .str z ∧ H a = some (.ins C dx fs) ∧ sp [.ref a, .str z] H Q E
end
section
variable {σ : St} {H : Hp} {Q : VK} {K : PySem.W.Frag}
theorem v_MS {C : Addr} {sp : Sp} {E : XK} {a dx : Addr} {fs : List (Str × V)} {z : Str} (h : H a = some (.ins C dx fs)) (q : sp [.ref a, .str z] H Q E) : rMS C sp E (.ref a) (.str z) H Q := ⟨a, dx, fs, z, rfl, rfl, h, q⟩
end
end Cw
set_option Elab.async false
set_option linter.all false
set_option maxRecDepth 100000
set_option maxHeartbeats 4000000
/-! tables of vectors -/
namespace Cw
open PySem PySem.Spec L2
def marksKV (ls : List Nat) (A : Nat → Addr) : List (Key × V) := ls.map fun c => ((Sum.inr (tx [c]) : Key), V.ref (A c))
def vecV (ls : List Nat) (v : Nat → Int) : List V := ls.map fun x => V.int (v x)
structure MarksAt (H : Hp) (m : Addr) (ls : List Nat) (M : Nat → Nat → Int) : Prop where
  ex : ∃ A : Nat → Addr, H m = some (.dK (marksKV ls A)) ∧ ∀ c ∈ ls, H (A c) = some (.tup (vecV ls (M c)))
theorem MarksAt.same {H H' : Hp} {m : Addr} {ls : List Nat} {M : Nat → Nat → Int} (h : MarksAt H m ls M) (s : Same H H') : MarksAt H' m ls M := by
  obtain ⟨A, a, b⟩ := h.ex
  exact ⟨A, s _ _ a, fun c hc => s _ _ (b c hc)⟩
theorem MarksAt.congr {H : Hp} {m : Addr} {ls : List Nat} {M M' : Nat → Nat → Int} (h : MarksAt H m ls M) (e : ∀ c ∈ ls, ∀ x ∈ ls, M c x = M' c x) : MarksAt H m ls M' := by
  obtain ⟨A, a, b⟩ := h.ex
  refine ⟨A, a, fun c hc => ?_⟩
  rw [b c hc]
  congr 2
  exact List.map_congr_left fun x hx => by rw [e c hc x hx]
/-- the keys of a table by letters -/
theorem walk_let {d : Addr} {o : Obj} {ls : List Nat} {g : Nat → V} : Walk (Itk d o (ls.map fun c => ((Sum.inr (tx [c]) : Key), g c))) ls.length (fun H => H d = some (.frz o (.dK (ls.map fun c => ((Sum.inr (tx [c]) : Key), g c))))) (YFn fun k => .str (tx [ls.getD k 0])) := by
  have w := walk_keys (d := d) (o := o) (kvs := ls.map fun c => ((Sum.inr (tx [c]) : Key), g c))
  rw [List.length_map] at w
  refine w.mono (fun _ z => z) fun i H x H' hi _ y => ?_
  obtain ⟨rfl, kk, vv, hkv, rfl⟩ := y
  refine ⟨rfl, ?_⟩
  rw [List.getElem?_map, List.getElem?_eq_getElem hi] at hkv
  injection hkv with hkv
  injection hkv with a b
  show _ = V.str (tx [ls.getD i 0])
  rw [← a, List.getD_eq_getElem?_getD, List.getElem?_eq_getElem hi]
  rfl
section
variable {K : PySem.W.Frag} {a : Addr} {ls : List Nat} {f : Nat → V}
end
section
variable {σ : St} {H : Hp} {Q : VK} {te : TE} {K : PySem.W.Frag}
theorem e_iT {R : It → Hp → Prop} (q : te σ H fun x H1 => ∃ a, x = .ref a ∧ (∃ xs, SqT K H1 a xs) ∧ R (Itt K a) H1) : iTup K te σ H R := q
theorem v_ixT {p : Addr} {xs : List V} {a : Int} {v : V} (h : H p = some (.tup xs)) (c : atI xs a = some v) (q : Q v H) : rIxT K (.ref p) (.int a) H Q := ⟨p, xs, a, v, rfl, rfl, SqT.of h, c, q⟩
theorem vals_some {σ : St} {i : Nat} {tt : TT} {te : TE} {P : Addr → Hp → Prop} {J : It} {G : Hp → Prop} {ls : List Nat} {it f : Nat → V} {b : Nat → Bool} (w : Walk J ls.length G (YFn fun k => it (ls.getD k 0))) (hG : ∀ H', Same H H' → G H') (hn : ls.length ≤ 1000000)
    (ht : ∀ c ∈ ls, ∀ H1, Same H H1 → ∀ R : Bool → Hp → Prop, (∀ H2, Same H1 H2 → R (b c) H2) → tt ((wipe σ [i]).set i (some (it c))) H1 R)
    (he : ∀ c ∈ ls, b c = true → ∀ H1, Same H H1 → ∀ R : VK, (∀ H2, Same H1 H2 → R (f c) H2) → te ((wipe σ [i]).set i (some (it c))) H1 R)
    (q : ∀ D H', H D = none → Same H H' → H' D = some (.lst ((ls.filter b).map f)) → P D H') :
    ∀ D, H D = none → ∃ W : Nat → Nat → Hp → Prop, (∃ m, W 0 m (upd H D (.lst []))) ∧ ∀ k m H, W k m H →
      (J.stop k H ∧ P D H) ∨ (J.go k H ∧ ∃ Nx : Hp → Prop, (∀ H', Nx H' → ∃ m', m' < m ∧ W (k + 1) m' H') ∧ ∀ x H', J.yld k H x H' → (gName i) x (wipe σ [i]) H' fun s2 H2 => wipe s2 [i] = wipe σ [i] ∧ tt s2 H2 fun c H3 =>
        if c = true then te s2 H3 fun y H4 => ∃ acc, H4 D = some (.lst acc) ∧ acc.length < sizeLine ∧ Nx (upd H4 D (.lst (acc ++ [y]))) else Nx H3) := by
  refine lc_gen (b := fun k => b (ls.getD k 0)) (f := fun k => f (ls.getD k 0)) w hG hn (fun k hk H1 s1 R r => ht _ (getD_mem hk) H1 s1 R r) (fun k hk c H1 s1 R r => he _ (getD_mem hk) c H1 s1 R r) (fun D H' hD s' e => q D H' hD s' ?_)
  rw [e, range_map ls b f]
end
end Cw
namespace Cw
open PySem PySem.Spec L2
end Cw
set_option Elab.async false
set_option linter.all false
set_option maxRecDepth 100000
set_option maxHeartbeats 4000000
/-! places found: nothing leads out of them; tables numbered anew -/
namespace Cw
open PySem PySem.Spec L2
section
variable {T : List (List Nat)} {n x : Nat} {fd : List Nat}
theorem addT_sub (T : List (List Nat)) (x : Nat) (fd : List Nat) : ∀ y ∈ fd, y ∈ addT T x fd := fun y hy => by
  obtain ⟨q, hq⟩ := addT_pre T x fd
  rw [hq]
  exact List.mem_append_left _ hy
theorem addT_has : ∀ {T : List (List Nat)} {fd : List Nat}, ∀ r ∈ T, r.getD x 0 ∈ addT T x fd
  | [], _, r, hr => nomatch hr
  | s :: T, fd, r, hr => by
    show r.getD x 0 ∈ addT T x (if s.getD x 0 ∈ fd then fd else fd ++ [s.getD x 0])
    rcases List.mem_cons.mp hr with rfl | hr
    · refine addT_sub _ _ _ _ ?_
      by_cases c : r.getD x 0 ∈ fd
      · rw [if_pos c]
        exact c
      · rw [if_neg c]
        exact List.mem_append_right _ (List.mem_singleton.mpr rfl)
    · exact addT_has r hr
theorem fp_closed (hT : OkT n T) : ∀ (m i : Nat) {fd : List Nat}, FdOk n fd → m + i = n + 1 → i ≤ fd.length → (∀ j, j < i → ∀ r ∈ T, r.getD (fd.getD j 0) 0 ∈ fd) → ∀ y ∈ fp T m i fd, ∀ r ∈ T, r.getD y 0 ∈ fp T m i fd
  | 0, i, fd, ok, hm, hi, _ => by
    have := ok.len
    omega
  | m + 1, i, fd, ok, hm, hi, h => by
    show ∀ y ∈ (if i < fd.length then fp T m (i + 1) (addT T (fd.getD i 0) fd) else fd), ∀ r ∈ T, r.getD y 0 ∈ (if i < fd.length then fp T m (i + 1) (addT T (fd.getD i 0) fd) else fd)
    by_cases c : i < fd.length
    · rw [if_pos c]
      have hx : fd.getD i 0 < n := ok.lt _ (getD_mem c)
      obtain ⟨q, hq⟩ := addT_pre T (fd.getD i 0) fd
      have gj : ∀ j, j < fd.length → (addT T (fd.getD i 0) fd).getD j 0 = fd.getD j 0 := fun j hj => by
        rw [hq, List.getD_eq_getElem?_getD, List.getElem?_append_left hj, ← List.getD_eq_getElem?_getD]
      refine fp_closed hT m (i + 1) (ok.add hT hx) (by omega) (by rw [hq, List.length_append]; omega) fun j hj r hr => ?_
      rw [gj j (by omega)]
      by_cases e : j = i
      · rw [e]
        exact addT_has r hr
      · exact addT_sub _ _ _ _ (h j (by omega) r hr)
    · rw [if_neg c]
      intro y hy r hr
      obtain ⟨j, hj, e⟩ := List.getElem_of_mem hy
      have z := h j (by omega) r hr
      have g : fd.getD j 0 = y := by rw [List.getD_eq_getElem?_getD, List.getElem?_eq_getElem hj, ← e]; rfl
      rw [g] at z
      exact z
theorem bfs_closed (hT : OkT n T) (h : x < n) : ∀ y ∈ bfs T n x, ∀ r ∈ T, r.getD y 0 ∈ bfs T n x := fp_closed hT (n + 1) 0 (.one h) rfl (Nat.zero_le _) fun _ z => absurd z (Nat.not_lt_zero _)
/-- the tables of the places found, numbered in their order -/
def rowN (fd r : List Nat) : List Nat := fd.map fun p => ixOf fd (r.getD p 0)
def numT (T : List (List Nat)) (fd : List Nat) : List (List Nat) := T.map (rowN fd)
theorem numT_ok (hT : OkT n T) (h : x < n) : OkT (bfs T n x).length (numT T (bfs T n x)) := fun r hr => by
  obtain ⟨s, hs, rfl⟩ := List.mem_map.mp hr
  refine ⟨List.length_map _, fun y hy => ?_⟩
  obtain ⟨p, hp, rfl⟩ := List.mem_map.mp hy
  exact (ixOf_get (bfs_closed hT h p hp s hs)).1
end
end Cw
set_option Elab.async false
set_option linter.all false
set_option maxRecDepth 100000
set_option maxHeartbeats 4000000
/-! {x: i for i, x in enumerate(list)} of different numbers -/
namespace Cw
open PySem PySem.Spec L2
theorem ix_snoc {l : List Nat} {c d : Nat} (h : c ∈ l) : ixOf (l ++ [d]) c = ixOf l c := by
  unfold ixOf
  rw [List.idxOf_append, if_pos h]
theorem ix_last {l : List Nat} {d : Nat} (h : ¬ d ∈ l) : ixOf (l ++ [d]) d = l.length := by
  unfold ixOf
  rw [List.idxOf_append, if_neg h, List.idxOf_cons_self, Nat.zero_add]
section
variable {K : PySem.W.Frag} {σ : L2.St} {H : Hp} {i j : Nat} {tt : TT} {tk tv : TE} {P : Addr → Hp → Prop} {a : Addr}
/-- the turns of a dict comprehension, told by what holds before each -/
theorem dc_turns {J : It} {n : Nat} {G : Hp → Prop} {Y : Nat → Hp → V → Hp → Prop} (w : Walk J n G Y) {g : TG} {vs : List Nat} {H1 : Hp} {D : Addr} {Qd : Hp → Prop} (Pv : Nat → Hp → Prop) (h0 : Pv 0 (upd H1 D (.dK []))) (hG : ∀ k H, k ≤ n → Pv k H → G H)
    (hs : ∀ k x H H', k < n → Pv k H → Y k H x H' → g x (wipe σ vs) H' fun σ2 H2 => wipe σ2 vs = wipe σ vs ∧ tt σ2 H2 fun b H3 => if b = true then tk σ2 H3 fun y H4 => tv σ2 H4 fun z H5 => ∃ kvs k', y = kV k' ∧ H5 D = some (.dK kvs) ∧ kvs.length < sizeLine ∧ Pv (k + 1) (upd H5 D (.dK (putK kvs k' z))) else Pv (k + 1) H3) (hd : ∀ H, Pv n H → Qd H) :
    ∃ W : Nat → Nat → Hp → Prop, (∃ m, W 0 m (upd H1 D (.dK []))) ∧ ∀ k m H, W k m H →
      (J.stop k H ∧ Qd H) ∨ (J.go k H ∧ ∃ Nx : Hp → Prop, (∀ H', Nx H' → ∃ m', m' < m ∧ W (k + 1) m' H') ∧ ∀ x H', J.yld k H x H' → g x (wipe σ vs) H' fun σ2 H2 => wipe σ2 vs = wipe σ vs ∧ tt σ2 H2 fun b H3 =>
        if b = true then tk σ2 H3 fun y H4 => tv σ2 H4 fun z H5 => ∃ kvs k', y = kV k' ∧ H5 D = some (.dK kvs) ∧ kvs.length < sizeLine ∧ Nx (upd H5 D (.dK (putK kvs k' z))) else Nx H3) := by
  refine ⟨fun k m H => m + k = n ∧ Pv k H, ⟨n, by omega, h0⟩, fun k m H ⟨hm, p⟩ => ?_⟩
  have gg := hG k H (by omega) p
  cases m with
  | zero =>
    obtain rfl : k = n := by omega
    exact .inl ⟨w.stops H gg, hd H p⟩
  | succ m => exact .inr ⟨w.goes k H (by omega) gg, Pv (k + 1), fun H' p' => ⟨m, by omega, by omega, p'⟩, fun x H' y => hs k x H H' (by omega) p (w.yields k H x H' (by omega) gg y)⟩
theorem dc_numE {fd : List Nat} (hij : i ≠ j) (nd : fd.Nodup) (e : H a = some (.lst (numV fd))) (hn : fd.length ≤ 1000000)
    (ht : ∀ σ' H1, ∀ R : Bool → Hp → Prop, R true H1 → tt σ' H1 R)
    (hk : ∀ k x, ∀ H1, ∀ R : VK, R x H1 → tk (((wipe σ [i, j]).set i (some (.int ((k : Nat) : Int)))).set j (some x)) H1 R)
    (hv : ∀ k x, ∀ H1, ∀ R : VK, R (.int ((k : Nat) : Int)) H1 → tv (((wipe σ [i, j]).set i (some (.int ((k : Nat) : Int)))).set j (some x)) H1 R)
    (q : ∀ D H', H D = none → Same H H' → H' D = some (.dK (nKV fd fun p => .int ((ixOf fd p : Nat) : Int))) → P D H') :
    ∀ D, H D = none → ∃ W : Nat → Nat → Hp → Prop, (∃ m, W 0 m (upd H D (.dK []))) ∧ ∀ k m H, W k m H →
      ((Ite K a).stop k H ∧ P D H) ∨ ((Ite K a).go k H ∧ ∃ Nx : Hp → Prop, (∀ H', Nx H' → ∃ m', m' < m ∧ W (k + 1) m' H') ∧ ∀ x H', (Ite K a).yld k H x H' → (gTup K 2 (gCons (gName i) (gCons (gName j) gNil))) x (wipe σ [i, j]) H' fun s2 H2 => wipe s2 [i, j] = wipe σ [i, j] ∧ tt s2 H2 fun c H3 =>
        if c = true then tk s2 H3 fun y H4 => tv s2 H4 fun z H5 => ∃ kvs k', y = kV k' ∧ H5 D = some (.dK kvs) ∧ kvs.length < sizeLine ∧ Nx (upd H5 D (.dK (putK kvs k' z))) else Nx H3) := by
  intro D hD
  have lnm : (numV fd).length = fd.length := List.length_map _
  have w := walk_enumL (K := K) (a := a) (xs := numV fd)
  rw [lnm] at w
  refine dc_turns w (vs := [i, j]) (σ := σ) (g := gTup K 2 (gCons (gName i) (gCons (gName j) gNil))) (tt := tt) (tk := tk) (tv := tv) (Qd := fun H' => P D H') (fun k H' => Same H H' ∧ H' D = some (.dK (nKV (fd.take k) fun p => .int ((ixOf (fd.take k) p : Nat) : Int))))
    ⟨Same.new hD, upd_same⟩ (fun k H' _ p => p.1 _ _ e) (fun k x H1 H2 hkl p y => ?_) (fun H' p => q D H' hD p.1 (by rw [p.2, List.take_length]))
  obtain ⟨p1, p2⟩ := p
  obtain ⟨T, x0, rfl, hT, rfl, hx⟩ := y
  have hx1 : fd[k]? = some fd[k] := List.getElem?_eq_getElem hkl
  have hx0 : x0 = .int ((fd[k] : Nat) : Int) := by
    unfold numV at hx
    rw [List.getElem?_map, hx1] at hx
    exact (Option.some.inj hx).symm
  subst hx0
  have nk : ¬ fd[k] ∈ fd.take k := by
    have z := take_notin nd hkl
    rwa [List.getD_eq_getElem?_getD, hx1] at z
  refine v_gTup2 rfl upd_same ?_
  have s2 : Same H1 (upd H1 T (.tup [.int ((k : Nat) : Int), .int ((fd[k] : Nat) : Int)])) := Same.new hT
  refine ⟨?_, ht _ _ _ ?_⟩
  · show (((((σ.set j none).set i none).set i _).set j _).set j none).set i none = (σ.set j none).set i none
    rw [List.set_set, List.set_set, List.set_comm _ _ hij, List.set_set, List.set_set]
  rw [if_pos rfl]
  refine hk k _ _ _ ?_
  refine hv k _ _ _ ?_
  have e2 := s2 _ _ p2
  refine ⟨_, Sum.inl ((fd[k] : Nat) : Int), rfl, e2, szlt (by unfold nKV; rw [List.length_map, List.length_take]; omega), fun b o hb => ?_, ?_⟩
  · rw [upd_ne (ne_of_none hb hD)]
    exact s2 _ _ (p1 _ _ hb)
  · rw [upd_same]
    refine congrArg (fun z => some (HO.dK z)) ?_
    unfold putK
    rw [if_neg (by rw [valV_any, nKV_none nk]; exact Bool.false_ne_true)]
    have et : fd.take (k + 1) = fd.take k ++ [fd[k]] := by rw [List.take_succ, hx1]; rfl
    have lt : (fd.take k).length = k := by rw [List.length_take]; omega
    rw [et]
    unfold nKV
    rw [List.map_append]
    have e3 : ((fd.take k).map fun (c : Nat) => ((Sum.inl ((c : Nat) : Int) : Key), V.int ((ixOf (fd.take k ++ [fd[k]]) c : Nat) : Int))) = (fd.take k).map fun (c : Nat) => ((Sum.inl ((c : Nat) : Int) : Key), V.int ((ixOf (fd.take k) c : Nat) : Int)) := List.map_congr_left fun c hc => by rw [ix_snoc hc]
    show _ = _ ++ [((Sum.inl ((fd[k] : Nat) : Int) : Key), V.int ((ixOf (fd.take k ++ [fd[k]]) fd[k] : Nat) : Int))]
    rw [e3, ix_last nk, lt]
end
end Cw
set_option Elab.async false
set_option linter.all false
set_option maxRecDepth 100000
set_option maxHeartbeats 4000000
/-! zip(text, tuple) -/
namespace Cw
open PySem PySem.Spec L2
/-- the letters of x and the items at a, in new pairs -/
def Itzs (K : PySem.W.Frag) (x : Str) (a : Addr) (xs : List V) : It :=
  ⟨fun i H => i < xs.length ∧ SqT K H a xs, fun i H v H' => ∃ T c y, v = .ref T ∧ H T = none ∧ H' = upd H T (.tup [.str ⟨#[c]⟩, y]) ∧ x.cps[i]? = some c ∧ xs[i]? = some y, fun i H => xs.length ≤ i ∧ SqT K H a xs⟩
theorem turn_zipS {P : Program} {w : World} {K : PySem.W.Frag} {elts : List Expr} {kk : Nat} {tpos : PySem.Pos} {x : Str} {tx' : Tok} {a z TI TO i1 i2 : Addr} {xs : List V} (hx : x.cps.size = xs.length) (ne : a ≠ i2) (S : ZipSep2 z TI TO i1 i2 [i1] [i2, a]) :
    Turn P w K (.Tuple elts kk tpos) (Itzs K x a xs) [z, TI, TO, i1, i2] z (fun i h => i ≤ xs.length ∧ IsZip h z TI TO .none ∧ IsTupOf2 h TI (.ref i1) (.ref i2) ∧ (∃ u v, IsTupOf2 h TO u v) ∧ h.IsStrIter i1 (strIterType x) x tx' i ∧ h.IsTupleIter i2 a i) where
  mem := List.mem_cons_self ..
  obj := fun i h st b hb => by
    obtain ⟨_, st1, st2, ⟨u, v, st3⟩, ⟨o4, q4, _, d4⟩, ⟨o5, q5, _, d5⟩⟩ := st
    simp only [List.mem_cons, List.not_mem_nil, or_false] at hb
    rcases hb with rfl | rfl | rfl | rfl | rfl
    · exact ⟨_, st1, fun v q => nomatch q⟩
    · exact ⟨_, st2, fun v q => nomatch q⟩
    · exact ⟨_, st3, fun v q => nomatch q⟩
    · exact ⟨o4, q4, fun v q => by rw [d4] at q; cases q⟩
    · exact ⟨o5, q5, fun v q => by rw [d5] at q; cases q⟩
  keep := fun i h h' st k => by
    obtain ⟨st0, st1, st2, ⟨u, v, st3⟩, ⟨o4, q4, r4⟩, ⟨o5, q5, r5⟩⟩ := st
    exact ⟨st0, k z (by simp) _ st1, k TI (by simp) _ st2, ⟨u, v, k TO (by simp) _ st3⟩, ⟨o4, k i1 (by simp) _ q4, r4⟩, ⟨o5, k i2 (by simp) _ q5, r5⟩⟩
  item := by
    intro X hP hw hK hc i pins s σ H E I hf st hg
    subst hP hw hK
    obtain ⟨hi, hq⟩ := hg
    obtain ⟨y, hy⟩ : ∃ y, xs[i]? = some y := ⟨_, List.getElem?_eq_getElem hi⟩
    obtain ⟨its, rv, p, hz⟩ := I.tuple hq
    obtain ⟨u, hu, ru⟩ := rv.get hy
    have pT : s.heap.IsTuple a its.toArray := p
    have li : i < its.toArray.size := by
      have := (List.getElem?_eq_some_iff.mp hu).1
      simpa using this
    have lt : its.toArray.size = xs.length := by
      have := rv.length
      rw [List.size_toArray]
      omega
    have W := WalksT.zipD2 (A := X.A) S (Draws.text (prog := X.prog) (w := X.w) (A := X.A.in1) (I.ok.hd hc) i1 x tx') (Draws.tuple (prog := X.prog) (w := X.w) (A := X.A.in1) (I.ok.hd hc) i2 a ne its.toArray)
    obtain ⟨_, st1, st2, st3, st4, st5⟩ := st
    have lz : z < s.heap.objs.size := Heap.lt_size st1
    have lTI : TI < s.heap.objs.size := Heap.lt_size st2
    have lTO : TO < s.heap.objs.size := by obtain ⟨_, _, q⟩ := st3; exact Heap.lt_size q
    have l1 : i1 < s.heap.objs.size := by obtain ⟨_, q, _⟩ := st4; exact Heap.lt_size q
    have l2 : i2 < s.heap.objs.size := by obtain ⟨_, q, _⟩ := st5; exact Heap.lt_size q
    refine W.item i s _ E (by rw [hx, lt]; omega) ⟨st1, st2, st3, st4, st5, pT⟩ fun T vals h' tk hv hT isT mid kp => ⟨_, rfl, W.go elts kk tpos i T { s with heap := h', toks := tk } _ E mid fun h2 sn kp2 => ?_⟩
    obtain ⟨y1, y2, ⟨c, uc, hc1, rfl⟩, hy2, rfl⟩ := hv
    obtain rfl : y2 = u := by
      have zz : its.toArray[i]? = some u := by simpa using hu
      rw [zz] at hy2
      exact (Option.some.inj hy2).symm
    have hTw := W.apart i T h' mid
    obtain ⟨o, ho, r⟩ := isT
    have isT2 : h2.IsTuple T #[.str ⟨#[c]⟩ uc, y2] := ⟨o, kp2 T o hTw ho, r⟩
    have fresh : ∀ b, b ∈ [z, TI, TO, i1, i2] → b < T := fun b hb => by
      simp only [List.mem_cons, List.not_mem_nil, or_false] at hb
      rcases hb with rfl | rfl | rfl | rfl | rfl <;> exact Nat.lt_of_lt_of_le (by assumption) hT
    have new : ObjOk X.prog X.w (upd H T (.tup [.str ⟨#[c]⟩, y])) h2 T (.tup [.str ⟨#[c]⟩, y]) := ⟨by show 2 ≤ sizeLine; decide, [.str ⟨#[c]⟩ uc, y2], .cons ⟨_, rfl⟩ (.cons ru .nil), isT2⟩
    have notW : ∀ b, b ∉ [z, TI, TO, i1, i2] → b ∉ [z, TO, i1, i2] := fun b hb q => hb (by
      simp only [List.mem_cons, List.not_mem_nil, or_false] at q ⊢
      rcases q with q | q | q | q
      · exact .inl q
      · exact .inr (.inr (.inl q))
      · exact .inr (.inr (.inr (.inl q)))
      · exact .inr (.inr (.inr (.inr q))))
    refine ⟨.ref T, _, I.turnedNew (ch := [z, TI, TO, i1, i2]) (t' := tk) (fun b ob hb q => kp2 b ob (notW b hb) (kp b ob (notW b hb) q)) hf hT new, rfl, ⟨T, c, y, rfl, I.hok.fresh hT, rfl, hc1, hy⟩, ⟨hi, sn.1, sn.2.1, sn.2.2.1, sn.2.2.2.1, sn.2.2.2.2.1⟩, fun b hb => ?_⟩
    rw [upd_ne (Nat.ne_of_lt (fresh b hb))]
    exact (hf b hb).1
  done := by
    intro X hP hw hK hc i pins s σ H E I hf st hg
    subst hP hw hK
    obtain ⟨hi, hq⟩ := hg
    obtain ⟨h0, st1, st2, st3, st4, st5⟩ := st
    obtain ⟨its, rv, p, hz⟩ := I.tuple hq
    have pT : s.heap.IsTuple a its.toArray := p
    have hl := rv.length
    have lt : its.toArray.size = xs.length := by
      rw [List.size_toArray]
      omega
    have W := WalksT.zipD2 (A := X.A) S (Draws.text (prog := X.prog) (w := X.w) (A := X.A.in1) (I.ok.hd hc) i1 x tx') (Draws.tuple (prog := X.prog) (w := X.w) (A := X.A.in1) (I.ok.hd hc) i2 a ne its.toArray)
    have em : min x.cps.size its.toArray.size = i := by
      rw [hx, lt, Nat.min_self]
      omega
    rw [em] at W
    exact W.done s _ E ⟨st1, st2, st3, st4, st5, pT⟩ fun h' tk kp => ⟨rfl, I.turnedL (ch := [z, TI, TO, i1, i2]) (fun b o hb q => kp b o (fun q' => hb (by
      simp only [List.mem_cons, List.not_mem_nil, or_false] at q' ⊢
      rcases q' with q | q | q | q
      · exact .inl q
      · exact .inr (.inr (.inl q))
      · exact .inr (.inr (.inr (.inl q)))
      · exact .inr (.inr (.inr (.inr q))))) q) hf⟩
  self := fun A i s Q E st h => wpAny_pyIter_zip st.2.1 h
def iZipS (K : PySem.W.Frag) (ta : TA) : TI := fun σ H R => ta σ H fun vs H1 => ∃ x a xs, vs = [.str x, .ref a] ∧ SqT K H1 a xs ∧ x.cps.size = xs.length ∧ R (Itzs K x a xs) H1
theorem pi_zipS {X : Cx} {e e2 : Expr} {ta : TA} {p pos tpos : PySem.Pos} {elts : List Expr} {kk : Nat} (hg : Gl X "zip") (hm : X.mg "zip" = none) (ha : PA X [e, e2] ta)
    (hs : starEach [e, e2] X.env = (false, eval e X.env) :: starEach [e2] X.env := by rfl) (hpl : (backTo pos (starEach [e2] X.env)).any (·.1) = false := by rfl) :
    PI X (.Tuple elts kk tpos) (.Call (.Name "zip" p) [e, e2] [] pos) (iZipS X.K ta) := by
  refine ⟨fun pins s σ H R I h => ?_⟩
  refine PyProof.Rows.Call_ (ld_blt I hg hm PyProof.Rows.boot_zip (PyProof.Rows.callWith_type1 (thn (ha.run pos pins s σ H _ I h) fun us s1 ⟨vs, H1, I1, r1, x, a, xs, ex, hq, hx, q⟩ => ?_) hs hpl))
  subst ex
  obtain ⟨u1, u2, rfl, ru1, ru2⟩ := vals2 r1
  obtain ⟨t, rfl⟩ := ru1
  cases ru2
  obtain ⟨its, rv, p', hz⟩ := I1.tuple hq
  have al : a < s1.heap.objs.size := by
    obtain ⟨o, ho, _⟩ := p'
    exact Heap.lt_size ho
  refine zip_begins2 (begins_text x t) (begins_tuple a its.toArray) trivial p' fun h' hz' hTI hTO g1 g2 hsz hk => wpAny_pyIter_zip hz' ?_
  have I2 : L2.Inv X pins σ H1 { s1 with heap := h' } := I1.kept (t' := s1.toks) hk
  refine ⟨s1.heap.objs.size + 4, [s1.heap.objs.size + 4, s1.heap.objs.size + 2, s1.heap.objs.size + 3, s1.heap.objs.size, s1.heap.objs.size + 1], _, _, H1, rfl, I2, turn_zipS (tx' := t) hx (Nat.ne_of_lt (Nat.lt_succ_of_lt al)) (zip_sep2 (N := s1.heap.objs.size) (fp1 := []) (fp2 := [a]) (fun _ z => nomatch z) fun b hb => by rw [List.mem_singleton.mp hb]; exact al), ⟨Nat.zero_le _, hz', hTI, ⟨_, _, hTO⟩, ⟨_, g1, rfl, rfl⟩, ⟨_, g2, rfl, rfl⟩⟩, fun b hb => ?_, q⟩
  have hle : s1.heap.objs.size ≤ b := by
    simp only [List.mem_cons, List.not_mem_nil, or_false] at hb
    rcases hb with rfl | rfl | rfl | rfl | rfl
    · exact Nat.le_add_right _ _
    · exact Nat.le_add_right _ _
    · exact Nat.le_add_right _ _
    · exact Nat.le_refl _
    · exact Nat.le_add_right _ _
  exact I1.fpOk hle (I1.hok.fresh hle)
end Cw
set_option Elab.async false
set_option linter.all false
set_option maxRecDepth 100000
set_option maxHeartbeats 4000000
/-! more words: >, upper, list + list, parts of texts, values that are no texts -/
namespace Cw
open PySem PySem.Spec L2
section
variable {X : Cx}
end
section
variable {σ : St} {H : Hp} {Q : VK} {K : PySem.W.Frag}
theorem v_cat {l b : Addr} {xs zs : List V} (h1 : H l = some (.lst xs)) (h2 : H b = some (.lst zs)) (hl : xs.length + zs.length ≤ 1000000) (q : ∀ p H', H p = none → Same H H' → H' p = some (.lst (xs ++ zs)) → Q (.ref p) H') : rCat (.ref l) (.ref b) H Q :=
  ⟨l, b, xs, zs, rfl, rfl, h1, h2, szl hl, fun p hp => q p _ hp (Same.new hp) upd_same⟩
end
end Cw
set_option Elab.async false
set_option linter.all false
set_option maxRecDepth 100000
set_option maxHeartbeats 4000000
/-! classes without defaults; == with an object of another class -/
namespace Cw
open PySem PySem.Spec L2
section
variable {P : Program} {w : World} {K : PySem.W.Frag} {mg : Str → Option Value} {base : Heap} {CX : CXT} {k : Nat} {C : Addr} {x qual : Str} {ps N : List Str} {sp sp0 : Sp} {st : Stmt}
/-- C(..) by its __init__, which has no defaults -/
structure CMk0 (P : Program) (w : World) (K : PySem.W.Frag) (mg : Str → Option Value) (base : Heap) (CX : CXT) (k : Nat) (x : Str) (C : Addr) (sp : Sp) (ps : List Str) (qual : Str) (st : Stmt) : Prop where
  ex : ∃ f fd sp0, mg x = some (.ref C) ∧ Mk K C f ∧ Binds K fd ps [] ∧ FnOk P w K mg base CX k f fd ps sp0 ∧ Conv C sp0 sp ∧ Fun K "__init__" qual st f fd
theorem CMk0.cdef (D : CMk0 P w K mg base CX k x C sp ps qual st) : CDef P w K mg base CX k x C sp := by
  obtain ⟨f, fd, sp0, a, b, c, d, e, _⟩ := D.ex
  exact ⟨f, fd, ps, sp0, a, b, c, d, e⟩
theorem MAt.make0 (F : MAt K C "__init__" qual st) (cf : ClsF K mg x C) (S : FnScope N ps (defScope st))
    (hb : ∀ (kV doc pm : Value) (an : Option Addr) (cdv ct : Value) (us : List Value), us.length = ps.length → bindArgs (PySem.W.fnOf "__init__" qual (defArgs st) (defBody st) (defScope st) .none kV doc pm an cdv ct) ⟨us, []⟩ = pure (ps.zip us))
    (len : ∀ vs H Q E, sp0 vs H Q E → vs.length = ps.length) (cv : Conv C sp0 sp)
    (hbody : ∀ (f : Addr) (cdv : Value) (A : Around) (outer : List Env) (s : Shared) (H : Hp) (vs : List V) (Q : VK) (E : XK), Room k (A.deeper (PyProof.Rows.envOfC qual (defScope st) s.heap.objs.size f cdv)) → sp0 vs H Q E →
      ∃ t, PSs (cxOf CX0 P w K mg base N qual (defScope st) f cdv A outer s H E).nox (defBody st) t ∧ t { nx := fun _ H' => Q .non H', rt := Q } (start N vs) H) : CMk0 P w K mg base CX0 (k + 1) x C sp ps qual st := by
  obtain ⟨f, fd, h1, h2, F⟩ := F.ex
  exact ⟨f, fd, sp0, cf.at, ⟨cf.mks, h1, h2, cf.kp⟩, F.binds hb, F.ok S len fun cdv A outer s H vs Q E hr h => hbody f cdv A outer s H vs Q E hr h, cv, F⟩
theorem CMk0.kw (D : CMk0 P w K mg base CX k x C sp ps qual st) (n : Nat) (ks : List Str) (ss : List Src)
    (h : ∀ (kV doc pm : Value) (an : Option Addr) (cdv ct : Value) (us ws : List Value), us.length = n + 1 → ws.length = ks.length → bindArgs (PySem.W.fnOf "__init__" qual (defArgs st) (defBody st) (defScope st) .none kV doc pm an cdv ct) ⟨us, ks.zip ws⟩ = pure (ps.zip (gS (.pos 0 :: ss.map Src.up) us [] ws))) : CDefN P w K mg base CX k x C sp n ks ss [] := by
  obtain ⟨f, fd, sp0, a, b, c, d, e, G⟩ := D.ex
  refine ⟨f, fd, ps, sp0, a, b, ?_, d, e⟩
  obtain ⟨oc, od, kV, doc, pm, an, cdv, ct, osl, rfl, _⟩ := G.ex
  exact kb_of (h kV doc pm an cdv ct)
end
section
variable {X : Cx} {CX : CXT} {k : Nat} {C C' : Addr} {m : Str} {ps : List Str} {sp : Sp} {E : XK}
end
end Cw
set_option Elab.async false
set_option linter.all false
set_option maxRecDepth 100000
set_option maxHeartbeats 4000000
/-! list(text) -/
namespace Cw
open PySem PySem.Spec L2
end Cw
set_option Elab.async false
set_option linter.all false
set_option maxRecDepth 100000
set_option maxHeartbeats 4000000
/-! ascending pairs of kinds -/
namespace Cw
open PySem PySem.Spec L2
def pairLt (p q : List Nat) : Prop := p.getD 0 0 < q.getD 0 0 ∨ (p.getD 0 0 = q.getD 0 0 ∧ p.getD 1 0 < q.getD 1 0)
theorem pairLt_mk {a b c d : Nat} : pairLt [a, b] [c, d] ↔ a < c ∨ (a = c ∧ b < d) := Iff.rfl
theorem LET_asc : LET.Pairwise (· < ·) := by decide +kernel
theorem pairsOf_sorted (f : List (List Nat)) : (pairsOf f).Pairwise pairLt := by
  unfold pairsOf
  have key : ∀ l : List Nat, l.Pairwise (· < ·) → (l.flatMap fun a => (LET.filter fun b => decide ([a, b] ∈ f)).map fun b => [a, b]).Pairwise pairLt := by
    intro l
    induction l with
    | nil => intro _; exact .nil
    | cons a r ih =>
      intro h
      obtain ⟨h1, h2⟩ := List.pairwise_cons.mp h
      rw [List.flatMap_cons]
      refine List.pairwise_append.mpr ⟨?_, ih h2, ?_⟩
      · refine List.pairwise_map.mpr ((List.Pairwise.filter _ LET_asc).imp fun {x y} h => ?_)
        exact .inr ⟨rfl, h⟩
      · intro p hp q hq
        obtain ⟨x, _, rfl⟩ := List.mem_map.mp hp
        obtain ⟨c, hc, hq⟩ := List.mem_flatMap.mp hq
        obtain ⟨y, _, rfl⟩ := List.mem_map.mp hq
        exact .inl (h1 c hc)
  exact key LET LET_asc
theorem pairLt_irr {p q : List Nat} (h : pairLt p q) : p ≠ q := by
  rintro rfl
  unfold pairLt at h
  omega
/-- the pairs of a plan with the kinds ls, ascending -/
structure Prs (ls : List Nat) (ps : List (List Nat)) : Prop where
  srt : ps.Pairwise pairLt
  mem : ∀ p ∈ ps, ∃ a b, p = [a, b] ∧ a < b ∧ a ∈ ls ∧ b ∈ ls
theorem prs_eq {ls : List Nat} {ps f : List (List Nat)} (h : Prs ls ps) (hl : ∀ c ∈ ls, c ∈ LET) (e : ∀ a b, a ∈ LET → b ∈ LET → ([a, b] ∈ f ↔ [a, b] ∈ ps)) : pairsOf f = ps := by
  have nd1 : (pairsOf f).Nodup := pairsOf_nodup f
  have nd2 : ps.Nodup := h.srt.imp fun {a b} z => pairLt_irr z
  have p : (pairsOf f).Perm ps := (List.perm_ext_iff_of_nodup nd1 nd2).mpr fun q => by
    rw [pairsOf_mem]
    constructor
    · rintro ⟨a, b, rfl, ha, hb, hm⟩
      exact (e a b ha hb).mp hm
    · intro hq
      obtain ⟨a, b, rfl, _, ha, hb⟩ := h.mem q hq
      exact ⟨a, b, rfl, hl a ha, hl b hb, (e a b (hl a ha) (hl b hb)).mpr hq⟩
  refine p.eq_of_pairwise (le := pairLt) (fun a b ha hb h1 h2 => ?_) (pairsOf_sorted f) h.srt
  unfold pairLt at h1 h2
  omega
theorem Prs.app {ls : List Nat} {ps : List (List Nat)} (h : Prs ls ps) {a b : Nat} (ha : a ∈ ls) (hb : b ∈ ls) (lt : a < b) (up : ∀ p ∈ ps, pairLt p [a, b]) : Prs ls (ps ++ [[a, b]]) := by
  refine ⟨List.pairwise_append.mpr ⟨h.srt, List.pairwise_singleton _ _, fun p hp q hq => ?_⟩, fun p hp => ?_⟩
  · rw [List.mem_singleton.mp hq]
    exact up p hp
  · rcases List.mem_append.mp hp with z | z
    · exact h.mem p z
    · rw [List.mem_singleton.mp z]
      exact ⟨a, b, rfl, lt, ha, hb⟩
theorem Prs.filter {ls : List Nat} {ps : List (List Nat)} (h : Prs ls ps) (t : List Nat → Bool) : Prs ls (ps.filter t) := ⟨h.srt.sublist List.filter_sublist, fun p hp => h.mem p (List.mem_filter.mp hp).1⟩
theorem crossOf_mem {ls : List Nat} {ps : List (List Nat)} {a b : Nat} : b ∈ crossOf ls ps a ↔ b ∈ ls ∧ ([a, b] ∈ ps ∨ [b, a] ∈ ps) := by
  unfold crossOf
  rw [List.mem_filter, Bool.or_eq_true, decide_eq_true_iff, decide_eq_true_iff]
theorem Prs.in_ls {ls : List Nat} {ps : List (List Nat)} (h : Prs ls ps) {a b : Nat} (m : [a, b] ∈ ps) : a < b ∧ a ∈ ls ∧ b ∈ ls := by
  obtain ⟨x, y, e, l, hx, hy⟩ := h.mem _ m
  injection e with e1 e2
  injection e2 with e2 _
  subst e1
  subst e2
  exact ⟨l, hx, hy⟩
theorem Prs.ok {ls : List Nat} {ps : List (List Nat)} (h : Prs ls ps) : CrOk (crossOf ls ps) where
  sym a b hb := by
    obtain ⟨h1, h2⟩ := crossOf_mem.mp hb
    refine crossOf_mem.mpr ⟨?_, h2.symm⟩
    rcases h2 with z | z
    · exact (h.in_ls z).2.1
    · exact (h.in_ls z).2.2
  irr a ha := by
    obtain ⟨_, h2⟩ := crossOf_mem.mp ha
    rcases h2 with z | z
    · exact Nat.lt_irrefl _ (h.in_ls z).1
    · exact Nat.lt_irrefl _ (h.in_ls z).1
theorem Prs.tab {ls : List Nat} {ps : List (List Nat)} (h : Prs ls ps) (nd : ls.Nodup) (lt : ∀ c ∈ ls, c ∈ LET) (l8 : ls.length ≤ 8) : Tab ls (crossOf ls ps) where
  nd := nd
  lt := lt
  len := l8
  sub a ha b hb := by
    obtain ⟨h1, h2⟩ := crossOf_mem.mp hb
    refine ⟨h1, fun e => ?_, crossOf_mem.mpr ⟨ha, h2.symm⟩⟩
    subst e
    rcases h2 with z | z
    · exact Nat.lt_irrefl _ (h.in_ls z).1
    · exact Nat.lt_irrefl _ (h.in_ls z).1
  gl a ha := Nat.le_trans (List.length_filter_le _ _) l8
theorem asc_two {a b : Nat} (ha : a ∈ LET) (hb : b ∈ LET) (h : a < b) : ascOf [a, b] = [a, b] ∧ ascOf [b, a] = [a, b] := by
  have p : (ascOf [a, b]).Perm [a, b] := by
    refine (List.perm_ext_iff_of_nodup (ascOf_nodup _) (by simp; omega)).mpr fun c => ?_
    rw [ascOf_mem]
    refine ⟨fun z => z.2, fun z => ⟨?_, z⟩⟩
    simp only [List.mem_cons, List.not_mem_nil, or_false] at z
    rcases z with rfl | rfl
    · exact ha
    · exact hb
  have s1 : (ascOf [a, b]).Pairwise (· < ·) := List.Pairwise.filter _ LET_asc
  have e : ascOf [a, b] = [a, b] := p.eq_of_pairwise (fun a b _ _ h1 h2 => by omega) s1 (by simp [h])
  exact ⟨e, by rw [ascOf_congr (b := [a, b]) fun c => by simp [or_comm]]; exact e⟩
/-- pairs told in any way -/
theorem Prs.told {ls : List Nat} {ps q : List (List Nat)} (h : Prs ls ps) (lt : ∀ c ∈ ls, c ∈ LET) (h1 : ∀ p ∈ q, ∃ r ∈ ps, p = r ∨ p = r.reverse) (h2 : ∀ p ∈ ps, p ∈ q ∨ p.reverse ∈ q) : pairsOf (q.map ascOf) = ps := by
  refine prs_eq h lt fun a b ha hb => ?_
  rw [List.mem_map]
  have key : ∀ r ∈ ps, ascOf r = r ∧ ascOf r.reverse = r := fun r hr => by
    obtain ⟨x, y, rfl, l, hx, hy⟩ := h.mem r hr
    exact asc_two (lt x hx) (lt y hy) l
  constructor
  · rintro ⟨p, hp, e⟩
    obtain ⟨r, hr, z⟩ := h1 p hp
    rcases z with z | z
    · rw [z, (key r hr).1] at e
      exact e ▸ hr
    · rw [z, (key r hr).2] at e
      exact e ▸ hr
  · intro m
    rcases h2 _ m with z | z
    · exact ⟨_, z, (key _ m).1⟩
    · exact ⟨_, z, (key _ m).2⟩
end Cw
set_option Elab.async false
set_option linter.all false
set_option maxRecDepth 100000
set_option maxHeartbeats 4000000
/-! text[lo:hi:step] with a step that is drawn -/
namespace Cw
open PySem PySem.Spec L2
section
variable {X : Cx}
end
end Cw
set_option Elab.async false
set_option linter.all false
set_option maxRecDepth 100000
set_option maxHeartbeats 4000000
/-! [e for i, x in enumerate(text)] -/
namespace Cw
open PySem PySem.Spec L2
section
variable {σ : L2.St} {H : Hp} {i j : Nat} {tt : TT} {te : TE} {P : Addr → Hp → Prop}
end
end Cw
set_option Elab.async false
set_option linter.all false
set_option maxRecDepth 100000
set_option maxHeartbeats 4000000
/-! sorted of texts, any number of them -/
namespace Cw
open PySem PySem.Spec L2 PyProof.Rows SrtO
/-- the codes of a text -/
def sv : Value → List Nat
  | .str x _ => x.cps.toList
  | _ => []
def ltSv (v u : Value) : Bool := decide (sv v < sv u)
theorem swo_str : Swo ltSv := by
  refine ⟨fun x y h => ?_, fun x y z h1 h2 => ?_⟩
  · have a := of_decide_eq_true (p := sv x < sv y) h
    exact decide_eq_false (p := sv y < sv x) (List.lt_asymm a)
  · have a := of_decide_eq_false (p := sv y < sv x) h1
    have b := of_decide_eq_false (p := sv z < sv y) h2
    exact decide_eq_false (p := sv z < sv x) fun c => by
      by_cases d : sv z < sv y
      · exact b d
      · exact a (List.lt_of_le_of_lt (List.not_lt.mp d) c)
section
variable {prog : Program} {w : World} {A : Around} {s : Shared}
theorem str_sortable {a : Addr} {vs : List Value} {ss : List Str} (hS : StrsAre vs ss) (h2 : 2 ≤ vs.length) : SortableO prog w A s a vs ltSv := by
  intro h' _
  refine ⟨oneType', fun Q E hq => ?_, fun p q hm hm' => ?_⟩
  · match vs, hS, h2 with
    | v1 :: v2 :: rest, hS, _ =>
      rw [keyKind_strs hS]
      exact wpAny_pure hq
    | [], _, h => exact absurd h (by decide)
    | [v], _, h => exact absurd h (by simp)
  · obtain ⟨x, t, e⟩ := hS.all _ hm
    obtain ⟨y, u, e'⟩ := hS.all _ hm'
    show wpAny (model prog w) A (keyLt' oneType' p.1 q.1) (fun r s' => s' = { s with heap := h' } ∧ r = ltSv p.1 q.1) (fun _ _ => False) { s with heap := h' }
    rw [e, e', keyLt'_oneType]
    exact oneLt_str ⟨rfl, rfl⟩
end
theorem sv_str {vs : List Value} {ls : List (List Nat)} (h : StrsAre vs (ls.map tx)) : vs.map sv = ls := by
  have key : ∀ {vs : List Value} {ss : List Str}, StrsAre vs ss → vs.map sv = ss.map fun x => x.cps.toList := by
    intro vs ss h
    induction h with
    | nil => rfl
    | cons x t r ih => rw [List.map_cons, List.map_cons, ih]; rfl
  rw [key h, List.map_map]
  have : ((fun x : Str => x.cps.toList) ∘ tx) = id := funext fun l => rfl
  rw [this, List.map_id]
theorem str_sv {vs : List Value} (h : ∀ v ∈ vs, ∃ x t, v = Value.str x t) : StrsAre vs ((vs.map sv).map tx) := by
  have e : (vs.map sv).map tx = vs.map strOf := by
    rw [List.map_map]
    refine List.map_congr_left fun v hv => ?_
    obtain ⟨x, t, rfl⟩ := h v hv
    show tx x.cps.toList = x
    exact tx_eq.symm
  rw [e]
  exact strsAre_map vs h
/-- sorted(xs), texts, any number of them -/
def rSortedS (K : PySem.W.Frag) : List V → Hp → VK → Prop := fun vs H Q => ∃ (a : Addr) (ls : List (List Nat)), vs = [V.ref a] ∧ SqL K H a (ls.map fun l => V.str (tx l)) ∧
  ∀ (ls' : List (List Nat)) (p : Addr), ls'.Perm ls → ls'.Pairwise (fun a b => ¬ b < a) → H p = none → Q (.ref p) (upd H p (.lst (ls'.map fun l => V.str (tx l))))
theorem map_tx (ls : List (List Nat)) : (ls.map fun l => V.str (tx l)) = (ls.map tx).map V.str := by rw [List.map_map]; rfl
section
variable {X : Cx}
theorem cr_sortedT : CallR X (.builtin "sorted") (rSortedS X.K) := by
  intro pins s σ H vs us Q I r h
  obtain ⟨a, ls, rfl, hs, q⟩ := h
  rw [map_tx] at hs
  obtain ⟨its, rv, hl, hz⟩ := I.list hs
  rw [Vals.ref1 r]
  have hi := rv.strs
  refine sorted_ord swo_str hl.isList (by rw [← rv.length]; exact hz) (fun h2 h₁ a' _ _ => str_sortable hi h2) fun out h1 h2 => ?_
  have all := fun v hv => hi.all v (h2.perm.mem_iff.mp hv)
  have k1 : StrsAre out ((out.map sv).map tx) := str_sv all
  have k2 : (out.map sv).Perm ls := by
    have := h2.perm.map sv
    rw [sv_str hi] at this
    exact this
  have k3 : (out.map sv).Pairwise (fun a b => ¬ b < a) := List.pairwise_map.mpr (h1.imp fun {x y} h => of_decide_eq_false (p := sv y < sv x) h)
  obtain ⟨ep, he'⟩ := sortedAll_at s.heap its out.toArray
  have hlen : (((out.map sv).map tx).map V.str).length ≤ sizeLine := by
    rw [List.length_map, List.length_map, k2.length_eq]
    rw [List.length_map, List.length_map] at hz
    exact hz
  have q := q _ (s.heap.objs.size + 1) k2 k3 (I.hok.fresh (Nat.le_succ _))
  rw [map_tx] at q
  exact ⟨.ref _, upd H (s.heap.objs.size + 1) (.lst (((out.map sv).map tx).map V.str)), I.laid (t' := s.toks) (fun _ _ => sortedAll_old) (Nat.le_succ _) ⟨hlen, out, ep, vals_of_strs k1, he'⟩, rfl, q⟩
end
end Cw
set_option Elab.async false
set_option linter.all false
set_option maxRecDepth 100000
set_option maxHeartbeats 4000000
/-! sets of texts that can be walked: set(a list of texts), sorted(set(..)) -/
namespace Cw
open PySem PySem.Spec L2 PyProof.Rows SrtO
def strK (e : Int × Value) : Str := match e.2 with | .str x _ => x | _ => Str.empty
def GoodS (P : Program) (w : World) (e : Int × Value) : Prop := ∃ x t, e.2 = Value.str x t ∧ e.1 = (PySem.strKind P w).hash x
/-- the set at a holds just the texts of l, each once -/
def SetS (P : Program) (w : World) (h : Heap) (a : Addr) (l : List Str) : Prop :=
  ∃ o es ep t, h.get? a = some o ∧ o.ExactSet ∧ o.data = .set es ep t ∧ (∀ e ∈ es.toList, GoodS P w e) ∧ (es.toList.map strK).Perm l ∧ l.Nodup ∧
    es.size < scanBound ∧ t.fits es.size = true ∧ Ris t.place.toList ∧ (w.params.followText "set-order" = true ∨ t.led = true)
section
variable {P : Program} {w : World} {h h' : Heap} {a : Addr} {l : List Str}
theorem SetS.at (R : SetS P w h a l) (k : ∀ o, h.get? a = some o → h'.get? a = some o) : SetS P w h' a l := by
  obtain ⟨o, es, ep, t, ho, r⟩ := R
  exact ⟨o, es, ep, t, k o ho, r⟩
end
section
variable {P : Program} {w : World} {A : Around} {E : Value → Shared → Prop} {s : Shared} {a : Addr} {l : List Str}
end
section
variable {P : Program} {w : World} {A : Around} {R : Result → Shared → Prop} {J : Addr} {fp wr : List Addr} {n : Nat} {Y : Nat → Value → Prop} {St : Nat → Heap → Prop}
end
section
variable {P : Program} {w : World} {A : Around} {E : Value → Shared → Prop} {s : Shared}
end
/-! ### sorted(set), and the layer -/
theorem nodup_le {α : Type} [DecidableEq α] : ∀ {a b : List α}, a.Nodup → (∀ x ∈ a, x ∈ b) → a.length ≤ b.length
  | [], _, _, _ => Nat.zero_le _
  | x :: a, b, nd, h => by
    obtain ⟨n1, n2⟩ := List.nodup_cons.mp nd
    have hx := h x (List.mem_cons_self ..)
    have := nodup_le (b := b.erase x) n2 fun y hy => (List.mem_erase_of_ne fun e : y = x => n1 (e ▸ hy)).mpr (h y (List.mem_cons_of_mem _ hy))
    rw [List.length_erase_of_mem hx] at this
    have := List.length_pos_of_mem hx
    rw [List.length_cons]
    omega
section
variable {X : Cx}
end
end Cw
set_option Elab.async false
set_option linter.all false
set_option maxRecDepth 100000
set_option maxHeartbeats 4000000
/-! ascending pairs: of any pairs, sorted, told in any way -/
namespace Cw
open PySem PySem.Spec L2
theorem pair_ltL {a b c d : Nat} : ([a, b] : List Nat) < [c, d] ↔ a < c ∨ (a = c ∧ b < d) := by
  rw [List.cons_lt_cons_iff, List.cons_lt_cons_iff]
  simp
theorem asc_pw (l : List Nat) : (ascOf l).Pairwise (· < ·) := List.Pairwise.filter _ LET_asc
theorem prs_of {ls : List Nat} {f : List (List Nat)} (h : PairsIn ls f) : Prs ls (pairsOf (f.map ascOf)) := by
  refine ⟨pairsOf_sorted _, fun p hp => ?_⟩
  obtain ⟨a, b, rfl, ha, hb, m⟩ := pairsOf_mem.mp hp
  obtain ⟨r, hr, e⟩ := List.mem_map.mp m
  obtain ⟨x, y, rfl, n, hx, hy⟩ := h r hr
  have s : ([a, b] : List Nat).Pairwise (· < ·) := e ▸ asc_pw [x, y]
  have ma : a ∈ ascOf [x, y] := by rw [e]; simp
  have mb : b ∈ ascOf [x, y] := by rw [e]; simp
  have i : ∀ c ∈ ascOf [x, y], c ∈ ls := fun c hc => by
    have z := (ascOf_mem.mp hc).2
    simp only [List.mem_cons, List.not_mem_nil, or_false] at z
    rcases z with rfl | rfl
    · exact hx
    · exact hy
  exact ⟨a, b, rfl, by simpa using s, i a ma, i b mb⟩
theorem Prs.nd {ls : List Nat} {ps : List (List Nat)} (h : Prs ls ps) : ps.Nodup := h.srt.imp fun {a b} z => pairLt_irr z
theorem pairs_len (la lb : List Nat) : (la.flatMap fun a => lb.map fun b => [a, b]).length = la.length * lb.length := by
  induction la with
  | nil => simp
  | cons a r ih => rw [List.flatMap_cons, List.length_append, List.length_map, ih, List.length_cons, Nat.succ_mul, Nat.add_comm]
theorem Prs.len {ls : List Nat} {ps : List (List Nat)} (h : Prs ls ps) (l8 : ls.length ≤ 8) : ps.length ≤ 64 := by
  refine Nat.le_trans (nodup_le (b := ls.flatMap fun a => ls.map fun b => [a, b]) h.nd fun p hp => ?_) ?_
  · obtain ⟨a, b, rfl, _, ha, hb⟩ := h.mem p hp
    exact List.mem_flatMap.mpr ⟨a, ha, List.mem_map.mpr ⟨b, hb, rfl⟩⟩
  · rw [pairs_len]
    exact Nat.mul_le_mul l8 l8
/-- the letters and the pairs of a drawn plan -/
structure LPlan (ls : List Nat) (ps : List (List Nat)) : Prop where
  prs : Prs ls ps
  asc : ls.Pairwise (· < ·)
  lt : ∀ c ∈ ls, c ∈ LET
  nz : ∀ c ∈ ls, c ≠ 122
  l8 : ls.length ≤ 8
theorem LPlan.lp {ls : List Nat} {ps : List (List Nat)} (h : LPlan ls ps) : ps.length ≤ 64 := h.prs.len h.l8
theorem LPlan.nd {ls : List Nat} {ps : List (List Nat)} (h : LPlan ls ps) : ls.Nodup := h.asc.imp fun {a b} z e => by omega
theorem LPlan.of {ls : List Nat} {ps f : List (List Nat)} (h : LPlan ls ps) (hf : PairsIn ls f) : LPlan ls (pairsOf (f.map ascOf)) := ⟨prs_of hf, h.asc, h.lt, h.nz, h.l8⟩
theorem LPlan.tail {ls : List Nat} {ps : List (List Nat)} (h : LPlan ls ps) (n : Nat) : LPlan ls (ps.drop n) := ⟨⟨h.prs.srt.sublist (List.drop_sublist _ _), fun p hp => h.prs.mem p (List.mem_of_mem_drop hp)⟩, h.asc, h.lt, h.nz, h.l8⟩
theorem Prs.pin {ls : List Nat} {ps : List (List Nat)} (h : Prs ls ps) : PairsIn ls ps := fun p hp => by
  obtain ⟨a, b, e, l, ha, hb⟩ := h.mem p hp
  exact ⟨a, b, e, by omega, ha, hb⟩
/-- pairs sorted, each once -/
theorem sorted_pairs {ls : List Nat} {ws f : List (List Nat)} (nd : ws.Nodup) (pw : ws.Pairwise fun a b => ¬ b < a) (hm : ∀ p, p ∈ ws ↔ p ∈ f) (hf : ∀ p ∈ f, ∃ a b, p = [a, b] ∧ a < b ∧ a ∈ ls ∧ b ∈ ls) (lt : ∀ c ∈ ls, c ∈ LET) : ws = pairsOf (f.map ascOf) := by
  have hp : Prs ls ws := by
    refine ⟨?_, fun p hp => hf p ((hm p).mp hp)⟩
    refine List.Pairwise.imp_of_mem (fun {a b} ha hb h => ?_) (List.Pairwise.and nd pw)
    obtain ⟨n, l⟩ := h
    obtain ⟨x, y, rfl, _, _, _⟩ := hf a ((hm a).mp ha)
    obtain ⟨u, v, rfl, _, _, _⟩ := hf b ((hm b).mp hb)
    rw [pair_ltL] at l
    refine pairLt_mk.mpr ?_
    have : ¬ (x = u ∧ y = v) := fun e => n (by rw [e.1, e.2])
    omega
  refine (prs_eq hp lt fun a b ha hb => ?_).symm
  rw [hm]
  have key : ∀ r ∈ f, ascOf r = r := fun r hr => by
    obtain ⟨x, y, rfl, l, hx, hy⟩ := hf r hr
    exact (asc_two (lt x hx) (lt y hy) l).1
  rw [List.mem_map]
  constructor
  · rintro ⟨r, hr, e⟩
    rw [key r hr] at e
    exact e ▸ hr
  · intro h
    exact ⟨_, h, key _ h⟩
theorem perm_ones {ws : List (List Nat)} {ls : List Nat} (h : ws.Perm (ls.map fun c => [c])) : ∃ l' : List Nat, ws = l'.map (fun c => [c]) ∧ l'.Perm ls := by
  refine ⟨ws.map fun w => w.getD 0 0, ?_, ?_⟩
  · rw [List.map_map]
    have : ∀ w ∈ ws, w = ((fun c => [c]) ∘ fun w : List Nat => w.getD 0 0) w := fun w hw => by
      obtain ⟨c, _, rfl⟩ := List.mem_map.mp (h.subset hw)
      rfl
    conv => lhs; rw [← List.map_id ws]
    exact List.map_congr_left fun w hw => this w hw
  · have := h.map fun w : List Nat => w.getD 0 0
    rw [List.map_map] at this
    have e : ((fun w : List Nat => w.getD 0 0) ∘ fun c => [c]) = id := rfl
    rw [e, List.map_id] at this
    exact this
theorem PairsIn.sub {l m : List Nat} {ps : List (List Nat)} (h : PairsIn l ps) (s : ∀ c ∈ l, c ∈ m) : PairsIn m ps := fun q hq => by
  obtain ⟨a, b, e, n, ha, hb⟩ := h q hq
  exact ⟨a, b, e, n, s a ha, s b hb⟩
/-- the plan of some of the kinds -/
theorem LPlan.part {ls low : List Nat} {ps : List (List Nat)} (h : LPlan ls ps) (s : low.Sublist ls) : LPlan low (ps.filter fun p => decide (p.getD 0 0 ∈ low) && decide (p.getD 1 0 ∈ low)) where
  prs := by
    refine ⟨h.prs.srt.sublist List.filter_sublist, fun p hp => ?_⟩
    obtain ⟨hp, c⟩ := List.mem_filter.mp hp
    obtain ⟨a, b, rfl, l, _, _⟩ := h.prs.mem p hp
    rw [Bool.and_eq_true, decide_eq_true_iff, decide_eq_true_iff] at c
    exact ⟨a, b, rfl, l, c.1, c.2⟩
  asc := h.asc.sublist s
  lt c hc := h.lt c (s.subset hc)
  nz c hc := h.nz c (s.subset hc)
  l8 := Nat.le_trans s.length_le h.l8
theorem LPlan.kinds {ls : List Nat} {ps : List (List Nat)} (h : LPlan ls ps) : ascOf ls = ls := by
  have h1 : (ascOf ls).Perm ls := by
    refine (List.perm_ext_iff_of_nodup (ascOf_nodup ls) h.nd).mpr fun c => ?_
    rw [ascOf_mem]
    exact ⟨fun z => z.2, fun z => ⟨h.lt c z, z⟩⟩
  exact h1.eq_of_pairwise (fun a b _ _ h1 h2 => by omega) (asc_pw ls) h.asc
/-- pairs of a plan sorted, each once: the pairs of the plan that is told by them -/
theorem LPlan.sorted {ls : List Nat} {ps ws f : List (List Nat)} (h : LPlan ls ps) (nd : ws.Nodup) (pw : ws.Pairwise fun a b => ¬ b < a) (hm : ∀ p, p ∈ ws ↔ p ∈ f) (hf : ∀ p ∈ f, ∃ a b, p = [a, b] ∧ a < b ∧ a ∈ ls ∧ b ∈ ls) : ws = pairsOf (f.map ascOf) := sorted_pairs nd pw hm hf h.lt
end Cw
set_option Elab.async false
set_option linter.all false
set_option maxRecDepth 100000
set_option maxHeartbeats 4000000
/-! ~o by o's own method; o == any value; str(bool); three names at once -/
namespace Cw
open PySem PySem.Spec PyProof.Rows L2
section
variable {X : Cx} {CX : CXT} {k : Nat} {C : Addr} {ps : List Str} {sp : Sp} {E : XK}
end
theorem v_gTup3 {K : PySem.W.Frag} {n i j l : Nat} {σ : L2.St} {H : Hp} {Q : L2.St → Hp → Prop} {p : Addr} {a b c : V} (hn : n = 3) (h : H p = some (.tup [a, b, c])) (q : Q (((σ.set i (some a)).set j (some b)).set l (some c)) H) : gTup K n (gCons (gName i) (gCons (gName j) (gCons (gName l) gNil))) (.ref p) σ H Q :=
  ⟨p, _, rfl, SqT.of h, hn.symm, a, [b, c], rfl, b, [c], rfl, c, [], rfl, rfl, q⟩
end Cw
set_option Elab.async false
set_option linter.all false
set_option maxRecDepth 100000
set_option maxHeartbeats 4000000
/-! a tuple turned about by a slice -/
namespace CwR
open PySem PySem.Spec PySem.Calls PyProof.Rows
section
variable {prog : Program} {w : World} {A : Around} {E : Value → Shared → Prop} {s : Shared}
end
end CwR
namespace Cw
open PySem PySem.Spec PyProof.Rows L2
section
variable {X : Cx} {K : PySem.W.Frag}
end
end Cw
set_option Elab.async false
set_option linter.all false
set_option maxRecDepth 100000
set_option maxHeartbeats 4000000
/-! sorted(xs, key=len) of texts, any number of them: stable -/
namespace Cw
open PySem PySem.Spec PyProof.Rows Srt SrtO
section
variable {prog : Program} {w : World} {A : Around} {E : Value → Shared → Prop} {s : Shared} {a kS : Addr} {vs : List Value} {keys : Array Value} {e e1 : Nat} {R : PySem.Fin → Shared → Prop}
end
end Cw
set_option Elab.async false
set_option linter.all false
set_option maxRecDepth 100000
set_option maxHeartbeats 4000000
/-! the expression sorted(xs, key=len) -/
namespace Cw
open PySem PySem.Spec L2
def rStrS : List V → Hp → VK → Prop := fun xs H Q => ∃ a, xs = [.str a] ∧ Q (.str a) H
theorem c_strS {X : Cx} : CallR X (.type "str") rStrS := SkE.call_str_str
theorem cr_sortedTK {X : Cx} {K : PySem.W.Frag} (h : X.K = K) : CallR X (.builtin "sorted") (rSortedS K) := h ▸ cr_sortedT
end Cw
set_option Elab.async false
set_option linter.all false
set_option maxRecDepth 100000
set_option maxHeartbeats 4000000
/-! some of a list of texts -/
namespace Cw
open PySem PySem.Spec L2
end Cw
set_option Elab.async false
set_option linter.all false
set_option maxRecDepth 100000
set_option maxHeartbeats 4000000
/-! d.update(e) of dicts, xs.index(n) of numbers, d.get(n, e) of numbers -/
namespace Cw
open PySem PySem.Spec L2 PyProof.Rows
def rDUpd71 : V → List V → Hp → VK → Prop := fun x vs H Q => ∃ (a b : Addr) (kvs more : List (Key × V)), x = .ref a ∧ vs = [.ref b] ∧ a ≠ b ∧ H a = some (.dK kvs) ∧ H b = some (.dK more) ∧ kvs.length + more.length ≤ 1000000 ∧ Q .non (upd H a (.dK (mergeK kvs more)))
theorem mtd_upd71 {X : Cx} : MtR X "dict.update" rDUpd71 := by
  intro pins s σ H x vs v us Q I rx rv h
  obtain ⟨a, b, kvs, more, rfl, rfl, ne, ha, hb, hl, q⟩ := h
  obtain rfl : v = Value.ref a := rx
  obtain ⟨u, rfl, ru⟩ := vals1 rv
  obtain rfl : u = Value.ref b := ru
  obtain ⟨z, hd, xs, rel, dd⟩ := dk_of I.hok ha
  obtain ⟨z2, hd2, ys, rel2, dd2⟩ := dk_of I.hok hb
  have l1 : xs.length + ys.length ≤ 1000000 := by rw [← rel.length, ← rel2.length]; exact hl
  have sz : (1000000 : Nat) ≤ sizeLine := by decide
  refine call_meetsIn PySem.F.slot_dict_update dd.typeIs PySem.F.entry_dict_update (PySem.F.args_dict_update_2 _ _) (meets_dict_update (mixKind X.prog X.w) a b ne hd2) ⟨xs, ys, dd, dd2, Nat.le_trans l1 sz, fun h' dd' _ hs => ?_⟩
  have he : ∃ q, h'.get? a = some q := let ⟨q, _, _, hq, _⟩ := dd'; ⟨q, hq⟩
  have lm : (mergeK kvs more).length ≤ sizeLine := Nat.le_trans (length_mergeK more kvs) (Nat.le_trans hl sz)
  exact ⟨.non, _, d_write (t' := s.toks) I (by rw [ha]; exact True.intro) hs he (dk_new lm hd (KV.merge rel2 rel) dd'), rfl, q⟩
section
variable {X : Cx} {o e f : Expr} {to te : TE} {apos cpos : PySem.Pos}
theorem pe_upd71 (ho : PE X o to) (he : PE X e te) (hbase : attributeBase o "update" X.env (eval o X.env) = eval o X.env := by rfl)
    (hfew : ((backTo cpos (starEach [e] X.env)).all (fun x => !x.1) && (backToKw cpos (keywordEach [] X.env)).all (fun x => x.1.isSome) && decide ([e].length + ([] : List Keyword).length + (if ([] : List Keyword).isEmpty then 0 else 1) < 30)) = true := by rfl)
    (hline : (apos.endLine == cpos.line) = true := by rfl) (hs : starEach [e] X.env = (false, eval e X.env) :: starEach [] X.env := by rfl) (hplain : (backTo cpos (starEach [] X.env)).any (·.1) = false := by rfl) :
    PE X (.Call (.Attribute o "update" apos) [e] [] cpos) (tBM X.K "dict" rDUpd71 to (tCons te tNil)) := pe_bm PySem.F.plainAttrs_dict PySem.F.slot_dict_update PySem.F.type_dict_update mtd_upd71 ho (pa_cons he pa_nil hs) hbase hfew hline hs hplain
theorem pe_updK71 {K : PySem.W.Frag} (h : X.K = K) (ho : PE X o to) (he : PE X e te) (hbase : attributeBase o "update" X.env (eval o X.env) = eval o X.env := by rfl)
    (hfew : ((backTo cpos (starEach [e] X.env)).all (fun x => !x.1) && (backToKw cpos (keywordEach [] X.env)).all (fun x => x.1.isSome) && decide ([e].length + ([] : List Keyword).length + (if ([] : List Keyword).isEmpty then 0 else 1) < 30)) = true := by rfl)
    (hline : (apos.endLine == cpos.line) = true := by rfl) (hs : starEach [e] X.env = (false, eval e X.env) :: starEach [] X.env := by rfl) (hplain : (backTo cpos (starEach [] X.env)).any (·.1) = false := by rfl) :
    PE X (.Call (.Attribute o "update" apos) [e] [] cpos) (tBM K "dict" rDUpd71 to (tCons te tNil)) := h ▸ pe_upd71 ho he hbase hfew hline hs hplain
theorem pe_indexK71 {K : PySem.W.Frag} (h : X.K = K) (ho : PE X o to) (he : PE X e te) (hbase : attributeBase o "index" X.env (eval o X.env) = eval o X.env := by rfl)
    (hfew : ((backTo cpos (starEach [e] X.env)).all (fun x => !x.1) && (backToKw cpos (keywordEach [] X.env)).all (fun x => x.1.isSome) && decide ([e].length + ([] : List Keyword).length + (if ([] : List Keyword).isEmpty then 0 else 1) < 30)) = true := by rfl)
    (hline : (apos.endLine == cpos.line) = true := by rfl) (hs : starEach [e] X.env = (false, eval e X.env) :: starEach [] X.env := by rfl) (hplain : (backTo cpos (starEach [] X.env)).any (·.1) = false := by rfl) :
    PE X (.Call (.Attribute o "index" apos) [e] [] cpos) (tBM K "list" (rIndex K) to (tCons te tNil)) := h ▸ pe_bm PySem.F.plainAttrs_list PySem.F.slot_list_index PySem.F.type_list_index mt_index ho (pa_cons he pa_nil hs) hbase hfew hline hs hplain
theorem pe_get71 {td ty tx : TE} (hu : X.A.units + 1 < cLine) (ho : PE X o td) (he : PE X e ty) (hf : PE X f tx) (hbase : attributeBase o "get" X.env (eval o X.env) = eval o X.env := by rfl)
    (hfew : ((backTo cpos (starEach [e, f] X.env)).all (fun x => !x.1) && (backToKw cpos (keywordEach [] X.env)).all (fun x => x.1.isSome) && decide (([e, f] : List Expr).length + ([] : List Keyword).length + (if ([] : List Keyword).isEmpty then 0 else 1) < 30)) = true := by rfl)
    (hline : (apos.endLine == cpos.line) = true := by rfl) (ht : backTo cpos (starEach [e, f] X.env) = [(false, eval e X.env), (false, eval f X.env)] := by rfl) :
    PE X (.Call (.Attribute o "get" apos) [e, f] [] cpos) (tDGet2 td ty tx) := pe_dget2 hu ho he hf ⟨hbase, hfew, hline, ht⟩
end
section
variable {σ : L2.St} {H : Hp} {Q : VK} {K : PySem.W.Frag}
theorem e_get71 {td ty tx : TE} (q : td σ H fun x H1 => ∃ a, x = .ref a ∧ IsD H1 a ∧ ty σ H1 fun y H2 => tx σ H2 fun z H3 => ∃ o, DGet H3 a y o ∧ Q (o.getD z) H3) : tDGet2 td ty tx σ H Q := q
theorem isD_num {a : Addr} {kvs : List (Key × V)} (h : H a = some (.dK kvs)) : IsD H a := .inl ⟨kvs, .inl h⟩
theorem ix_first : ∀ {l : List Nat} {c : Nat}, c ∈ l → (numV l)[l.idxOf c]? = some (.int ((c : Nat) : Int)) ∧ ∀ (m : Nat) (z : V), m < l.idxOf c → (numV l)[m]? = some z → eqV z (.int ((c : Nat) : Int)) = false
  | [], _, h => nomatch h
  | a :: r, c, h => by
    rw [List.idxOf_cons]
    by_cases e : a = c
    · subst e
      rw [show (a == a) = true from beq_self_eq_true a]
      exact ⟨rfl, fun m z hm => absurd hm (Nat.not_lt_zero m)⟩
    · rw [beq_eq_false_iff_ne.mpr e]
      obtain ⟨h1, h2⟩ := ix_first ((List.mem_cons.mp h).resolve_left fun z => e z.symm)
      refine ⟨h1, fun m z hm hz => ?_⟩
      match m, hz with
      | 0, hz =>
        injection hz with hz
        rw [← hz]
        show decide _ = false
        exact decide_eq_false fun q => e (Int.ofNat.inj q)
      | m + 1, hz => exact h2 m z (Nat.lt_of_succ_lt_succ hm) hz
theorem v_indexL71 {p : Addr} {l : List Nat} {c : Nat} (h : H p = some (.lst (numV l))) (hc : c ∈ l) (q : Q (.int ((l.idxOf c : Nat) : Int)) H) : rIndex K (.ref p) [.int ((c : Nat) : Int)] H Q := by
  obtain ⟨h1, h2⟩ := ix_first hc
  exact ⟨p, numV l, _, l.idxOf c, _, rfl, rfl, SqL.of h, rfl, List.all_eq_true.mpr fun v hv => by
    obtain ⟨n, _, rfl⟩ := List.mem_map.mp hv
    rfl, h1, by
      show decide _ = true
      exact decide_eq_true rfl, h2, q⟩
end
def rSetD71 : V → V → V → Hp → (Hp → Prop) → Prop := fun o i v H Q => ∃ a H', o = .ref a ∧ DPut H a i v H' ∧ Q H'
theorem set_dict71 {X : Cx} (hu : X.A.units + 1 < cLine) : PSet X rSetD71 := by
  refine fun pins s σ H o i v ov iv u Q I ro ri rv h => ?_
  obtain ⟨a, H', rfl, g, q⟩ := h
  obtain rfl : ov = Value.ref a := ro
  exact d_setItem hu I g ri rv fun s' I' => ⟨H', I', q⟩
theorem v_setD71 {a : Addr} {i v : V} {H H' : Hp} {Q : Hp → Prop} (g : DPut H a i v H') (q : Q H') : rSetD71 (.ref a) i v H Q := ⟨a, H', rfl, g, q⟩
theorem e_setD71 {to ti : TE} {t : TSet} {v : V} {σ : L2.St} {H : Hp} {Q : L2.St → Hp → Prop} (q : to σ H fun o H1 => ti σ H1 fun i H2 => t o i v H2 (Q σ)) : gSub to ti t v σ H Q := q
theorem pe_pop0K {X : Cx} {K : PySem.W.Frag} {o : Expr} {to : TE} {apos cpos : PySem.Pos} (h : X.K = K) (ho : PE X o to) (hbase : attributeBase o "pop" X.env (eval o X.env) = eval o X.env := by rfl) (hline : (apos.endLine == cpos.line) = true := by rfl) :
    PE X (.Call (.Attribute o "pop" apos) [] [] cpos) (tBM0 K "list" rPop to) := h ▸ pe_bm0 PySem.F.plainAttrs_list PySem.F.slot_list_pop PySem.F.type_list_pop mt_pop ho hbase hline
theorem v_pop0 {H : Hp} {Q : VK} {p : Addr} {xs : List V} {y : V} (h : H p = some (.lst (xs ++ [y]))) (q : ∀ H', Keep p H H' → H' p = some (.lst xs) → Q y H') : rPop (.ref p) [] H Q := by
  refine ⟨p, xs ++ [y], y, rfl, rfl, h, ?_, ?_⟩
  · rw [List.length_append, List.length_singleton, Nat.add_sub_cancel, List.getElem?_append_right (Nat.le_refl _), Nat.sub_self]
    rfl
  · rw [List.dropLast_concat]
    exact q _ Keep.put upd_same
end Cw
set_option Elab.async false
set_option linter.all false
set_option maxRecDepth 100000
set_option maxHeartbeats 4000000
/-! places that are exchanged in pairs, some rows being kept -/
namespace Cw
open PySem PySem.Spec L2
/-- a function of some places that leads back and commutes with some rows -/
structure PInv (n : Nat) (rs : List (List Nat)) (l : List Nat) (g : Nat → Nat) : Prop where
  nd : l.Nodup
  lt : ∀ x ∈ l, x < n
  to : ∀ x ∈ l, g x ∈ l
  bk : ∀ x ∈ l, g (g x) = x
  cm : ∀ r ∈ rs, ∀ x ∈ l, r.getD x 0 ∈ l ∧ g (r.getD x 0) = r.getD (g x) 0
section
variable {n : Nat} {rs : List (List Nat)} {l l' : List Nat} {g g' : Nat → Nat}
theorem PInv.nil : PInv n rs [] g := ⟨.nil, fun _ z => (nomatch z), fun _ z => (nomatch z), fun _ z => (nomatch z), fun _ _ _ z => (nomatch z)⟩
theorem PInv.cat (h : PInv n rs l g) (h' : PInv n rs l' g') (d : ∀ x ∈ l', ¬ x ∈ l) : PInv n rs (l ++ l') fun x => if x ∈ l' then g' x else g x := by
  have nl : ∀ x ∈ l, ¬ x ∈ l' := fun x hx z => d x z hx
  refine ⟨List.nodup_append.mpr ⟨h.nd, h'.nd, fun a ha b hb e => nl a ha (e ▸ hb)⟩, fun x hx => ?_, fun x hx => ?_, fun x hx => ?_, fun r hr x hx => ?_⟩
  · exact (List.mem_append.mp hx).elim (h.lt x) (h'.lt x)
  · rcases List.mem_append.mp hx with z | z
    · rw [if_neg (nl x z)]
      exact List.mem_append_left _ (h.to x z)
    · rw [if_pos z]
      exact List.mem_append_right _ (h'.to x z)
  · rcases List.mem_append.mp hx with z | z
    · rw [if_neg (nl x z), if_neg (nl _ (h.to x z))]
      exact h.bk x z
    · rw [if_pos z, if_pos (h'.to x z)]
      exact h'.bk x z
  · rcases List.mem_append.mp hx with z | z
    · obtain ⟨a, b⟩ := h.cm r hr x z
      rw [if_neg (nl x z), if_neg (nl _ a)]
      exact ⟨List.mem_append_left _ a, b⟩
    · obtain ⟨a, b⟩ := h'.cm r hr x z
      rw [if_pos z, if_pos a]
      exact ⟨List.mem_append_right _ a, b⟩
/-- the row of all places -/
def rowP (n : Nat) (l : List Nat) (g : Nat → Nat) : List Nat := (List.range n).map fun x => if x ∈ l then g x else x
theorem rowP_get {x : Nat} (hx : x < n) : (rowP n l g).getD x 0 = if x ∈ l then g x else x := by
  unfold rowP
  rw [List.getD_eq_getElem?_getD, List.getElem?_map, List.getElem?_range hx]
  rfl
theorem PInv.row (h : PInv n rs l g) : (rowP n l g).length = n ∧ (∀ x ∈ rowP n l g, x < n) ∧ (∀ x, x < n → (rowP n l g).getD ((rowP n l g).getD x 0) 0 = x) := by
  refine ⟨by unfold rowP; rw [List.length_map, List.length_range], fun x hx => ?_, fun x hx => ?_⟩
  · obtain ⟨y, hy, rfl⟩ := List.mem_map.mp hx
    have hy := List.mem_range.mp hy
    split
    · rename_i m
      exact h.lt _ (h.to y m)
    · exact hy
  · rw [rowP_get hx]
    by_cases c : x ∈ l
    · rw [if_pos c, rowP_get (h.lt _ (h.to x c)), if_pos (h.to x c)]
      exact h.bk x c
    · rw [if_neg c, rowP_get hx, if_neg c]
theorem PInv.com (h : PInv n rs l g) {r : List Nat} (hr : r ∈ rs) (lr : r.length = n ∧ ∀ x ∈ r, x < n) (br : ∀ x, x < n → r.getD (r.getD x 0) 0 = x) {x : Nat} (hx : x < n) : (rowP n l g).getD (r.getD x 0) 0 = r.getD ((rowP n l g).getD x 0) 0 := by
  have lt : r.getD x 0 < n := by
    rw [List.getD_eq_getElem?_getD, List.getElem?_eq_getElem (show x < r.length by omega)]
    exact lr.2 _ (List.getElem_mem _)
  rw [rowP_get lt, rowP_get hx]
  by_cases c : x ∈ l
  · obtain ⟨a, b⟩ := h.cm r hr x c
    rw [if_pos c, if_pos a, b]
  · have c2 : ¬ r.getD x 0 ∈ l := fun z => c (by
      have := (h.cm r hr _ z).1
      rwa [br x hx] at this)
    rw [if_neg c, if_neg c2]
end
section
variable {H : Hp} {d : Addr} {l : List Nat}
theorem nKV_congr {g g' : Nat → V} (h : ∀ x ∈ l, g x = g' x) : nKV l g = nKV l g' := List.map_congr_left fun x hx => by rw [h x hx]
theorem putK_new71 {l : List Nat} {g : Nat → V} {k : Nat} {v : V} (hk : ¬ k ∈ l) : putK (nKV l g) (Sum.inl ((k : Nat) : Int)) v = nKV (l ++ [k]) fun c => if c = k then v else g c := by
  unfold putK
  rw [if_neg (by rw [valV_any, nKV_none hk]; exact Bool.false_ne_true)]
  unfold nKV
  rw [List.map_append]
  have e3 : (l.map fun (c : Nat) => ((Sum.inl ((c : Nat) : Int) : Key), if c = k then v else g c)) = l.map fun (c : Nat) => ((Sum.inl ((c : Nat) : Int) : Key), g c) := List.map_congr_left fun c hc => by
    have ne : ¬ c = k := fun z => hk (by rw [← z]; exact hc)
    rw [if_neg ne]
  show _ = _ ++ [((Sum.inl ((k : Nat) : Int) : Key), if k = k then v else g k)]
  rw [if_pos rfl, e3]
theorem merge_num : ∀ {l' l : List Nat} {g g' : Nat → V}, l'.Nodup → (∀ x ∈ l', ¬ x ∈ l) → mergeK (nKV l g) (nKV l' g') = nKV (l ++ l') fun x => if x ∈ l' then g' x else g x
  | [], l, g, g', _, _ => by
    rw [List.append_nil]
    exact nKV_congr fun x _ => by rw [if_neg (by simp)]
  | a :: r, l, g, g', nd, h => by
    obtain ⟨n1, n2⟩ := List.nodup_cons.mp nd
    have ha := h a (List.mem_cons_self ..)
    show mergeK (putK (nKV l g) (Sum.inl ((a : Nat) : Int)) (g' a)) (nKV r g') = _
    rw [putK_new71 ha, merge_num n2 (fun x hx z => by
      rcases List.mem_append.mp z with z | z
      · exact h x (List.mem_cons_of_mem _ hx) z
      · exact n1 (by rw [← List.mem_singleton.mp z]; exact hx)), List.append_assoc]
    show nKV (l ++ a :: r) _ = _
    refine nKV_congr fun x _ => ?_
    by_cases c : x ∈ r
    · rw [if_pos c, if_pos (List.mem_cons_of_mem _ c)]
    · rw [if_neg c]
      by_cases e : x = a
      · subst e
        rw [if_pos rfl, if_pos (List.mem_cons_self ..)]
      · rw [if_neg e, if_neg fun z => (List.mem_cons.mp z).elim e c]
end
end Cw
set_option Elab.async false
set_option linter.all false
set_option maxRecDepth 100000
set_option maxHeartbeats 4000000
/-! xs.clear() -/
namespace Cw
open PySem PySem.Spec L2
end Cw
set_option Elab.async false
set_option linter.all false
set_option maxRecDepth 100000
set_option maxHeartbeats 4000000
/-! len of a dict -/
namespace Cw
open PySem PySem.Spec L2
def rLenDK : List V → Hp → VK → Prop := fun xs H Q => ∃ (p : Addr) (kvs : List (Key × V)), xs = [.ref p] ∧ Rd H p (.dK kvs) ∧ Q (.int ((kvs.length : Nat) : Int)) H
theorem c_lenD {X : Cx} : CallR X (.builtin "len") rLenDK := by
  intro pins s σ H xs us Q I r h
  obtain ⟨p, kvs, rfl, hp, q⟩ := h
  obtain ⟨u, rfl, rx⟩ := vals1 r
  obtain rfl : u = .ref p := rx
  exact d_len I hp fun t s' I' => ⟨.int ((kvs.length : Nat) : Int), H, I', ⟨_, rfl⟩, q⟩
theorem v_lenD {H : Hp} {Q : VK} {p : Addr} {kvs : List (Key × V)} (h : H p = some (.dK kvs)) (q : Q (.int ((kvs.length : Nat) : Int)) H) : rLenDK [.ref p] H Q := ⟨p, kvs, rfl, .inl h, q⟩
end Cw
set_option Elab.async false
set_option linter.all false
set_option maxRecDepth 100000
set_option maxHeartbeats 4000000
/-! a comprehension over a dict's keys, the dict locked meanwhile -/
namespace Cw
open PySem PySem.Spec L2
/-- all but d stands as it stood; d is locked -/
structure Lk (d : Addr) (u : HO) (H H' : Hp) : Prop where
  at' : ∃ od, H' d = some (.frz od u)
  oth : ∀ b o, H b = some o → b ≠ d → H' b = some o
theorem Lk.same {d : Addr} {u : HO} {H H' H2 : Hp} (h : Lk d u H H') (s : Same H' H2) : Lk d u H H2 := ⟨h.at'.elim fun od e => ⟨od, s _ _ e⟩, fun b o e n => s _ _ (h.oth b o e n)⟩
/-- a test, cut off from what follows -/
def tCutT (t : TT) : TT := fun σ H Q => ∃ Mid : Bool → Hp → Prop, t σ H Mid ∧ ∀ b H', Mid b H' → Q b H'
theorem pt_cut {X : Cx} {e : Expr} {t : TT} (h : PT X e t) : PT X e (tCutT t) := by
  refine ⟨fun pins s σ H Q I q => ?_⟩
  obtain ⟨Mid, hm, hu⟩ := q
  exact thn (h.run pins s σ H Mid I hm) fun b s1 ⟨H1, I1, q1⟩ => ⟨H1, I1, hu b H1 q1⟩
theorem t_cut {t : TT} {σ : L2.St} {H : Hp} {Q : Bool → Hp → Prop} (Mid : Bool → Hp → Prop) (h : t σ H Mid) (q : ∀ b H', Mid b H' → Q b H') : tCutT t σ H Q := ⟨Mid, h, q⟩
end Cw
set_option Elab.async false
set_option linter.all false
set_option maxRecDepth 100000
set_option maxHeartbeats 4000000
/-! pairs of places that are found one behind the other -/
namespace Cw
open PySem PySem.Spec L2
def addK (l : List Nat) (k : Nat) : List Nat := if k ∈ l then l else l ++ [k]
theorem num_put2 {H : Hp} {d : Addr} {l : List Nat} {g : Nat → V} {k : Nat} {v : V} (h : H d = some (.dK (nKV l g))) (hl : l.length ≤ 1000000) : DPut H d (.int (k : Int)) v (upd H d (.dK (nKV (addK l k) fun c => if c = k then v else g c))) := by
  unfold addK
  by_cases c : k ∈ l
  · rw [if_pos c]
    exact num_put_in h c hl
  · rw [if_neg c]
    exact num_put h c hl
/-- .. on the way -/
structure FitI (n : Nat) (rs : List (List Nat)) (l : List Nat) (g : Nat → Nat) (TD : List (List Nat)) : Prop where
  nd : l.Nodup
  lt : ∀ x ∈ l, x < n
  to : ∀ x ∈ l, g x ∈ l
  bk : ∀ x ∈ l, g (g x) = x
  td : ∀ p ∈ TD, ∃ h t, p = [h, t] ∧ h < n ∧ t < n
  cm : ∀ r ∈ rs, ∀ x ∈ l, (r.getD x 0 ∈ l ∧ g (r.getD x 0) = r.getD (g x) 0) ∨ [r.getD x 0, r.getD (g x) 0] ∈ TD ∨ [r.getD (g x) 0, r.getD x 0] ∈ TD
section
variable {n : Nat} {rs : List (List Nat)} {l : List Nat} {g : Nat → Nat} {TD : List (List Nat)} {h t : Nat}
theorem FitI.init (hh : h < n) (ht : t < n) : FitI n rs [] g [[h, t]] := ⟨.nil, fun _ z => (nomatch z), fun _ z => (nomatch z), fun _ z => (nomatch z), fun p hp => ⟨h, t, List.mem_singleton.mp hp, hh, ht⟩, fun _ _ _ z => (nomatch z)⟩
theorem FitI.done (f : FitI n rs l g []) : PInv n rs l g := ⟨f.nd, f.lt, f.to, f.bk, fun r hr x hx => by
  rcases f.cm r hr x hx with z | z | z
  · exact z
  · exact nomatch z
  · exact nomatch z⟩
theorem pair_inj {a b c d : Nat} (e : [a, b] = [c, d]) : a = c ∧ b = d := by
  injection e with e1 e2
  injection e2 with e2 _
  exact ⟨e1, e2⟩
theorem FitI.skip (f : FitI n rs l g (TD ++ [[h, t]])) (hh : h ∈ l) (e : g h = t) : FitI n rs l g TD := by
  refine ⟨f.nd, f.lt, f.to, f.bk, fun p hp => f.td p (List.mem_append_left _ hp), fun r hr x hx => ?_⟩
  rcases f.cm r hr x hx with z | z | z
  · exact .inl z
  · rcases List.mem_append.mp z with z | z
    · exact .inr (.inl z)
    · obtain ⟨e1, e2⟩ := pair_inj (List.mem_singleton.mp z)
      exact .inl ⟨by rw [e1]; exact hh, by rw [e1, e2]; exact e⟩
  · rcases List.mem_append.mp z with z | z
    · exact .inr (.inr z)
    · obtain ⟨e1, e2⟩ := pair_inj (List.mem_singleton.mp z)
      refine .inl ⟨by rw [e2, ← e]; exact f.to h hh, ?_⟩
      rw [e1, e2, ← e]
      exact f.bk h hh
def g2 (g : Nat → Nat) (h t : Nat) : Nat → Nat := fun c => if c = t then h else if c = h then t else g c
theorem FitI.add (f : FitI n rs l g (TD ++ [[h, t]])) (hr0 : ∀ r ∈ rs, ∀ x, x < n → r.getD x 0 < n) (hh : ¬ h ∈ l) (ht : t ∈ l → g t = h) : FitI n rs (addK (l ++ [h]) t) (g2 g h t) (TD ++ rs.map fun r => [r.getD h 0, r.getD t 0]) ∧ l.length + 1 ≤ (addK (l ++ [h]) t).length := by
  obtain ⟨a, b, e0, ln, tn⟩ := f.td [h, t] (List.mem_append_right _ (List.mem_singleton.mpr rfl))
  obtain ⟨rfl, rfl⟩ := pair_inj e0
  have tl : ¬ t ∈ l := fun z => hh (by rw [← ht z]; exact f.to t z)
  have mem : ∀ x, x ∈ addK (l ++ [h]) t ↔ x ∈ l ∨ x = h ∨ x = t := fun x => by
    unfold addK
    split
    · rename_i z
      have z2 : t = h := by
        rcases List.mem_append.mp z with z | z
        · exact absurd z tl
        · exact List.mem_singleton.mp z
      simp [z2]
    · simp [or_assoc]
  have gt : g2 g h t t = h := by unfold g2; rw [if_pos rfl]
  have gh : g2 g h t h = t := by
    unfold g2
    by_cases c : h = t
    · rw [if_pos c]; exact c
    · rw [if_neg c, if_pos rfl]
  have gl : ∀ x ∈ l, g2 g h t x = g x := fun x hx => by
    unfold g2
    rw [if_neg (fun z : x = t => tl (z ▸ hx)), if_neg (fun z : x = h => hh (z ▸ hx))]
  refine ⟨⟨?_, fun x hx => ?_, fun x hx => ?_, fun x hx => ?_, fun p hp => ?_, fun r hr x hx => ?_⟩, ?_⟩
  · unfold addK
    have n1 : (l ++ [h]).Nodup := List.nodup_append.mpr ⟨f.nd, by simp, fun a ha b hb e => hh (by rw [← List.mem_singleton.mp hb, ← e]; exact ha)⟩
    split
    · exact n1
    · rename_i z
      exact List.nodup_append.mpr ⟨n1, by simp, fun a ha b hb e => z (by rw [← List.mem_singleton.mp hb, ← e]; exact ha)⟩
  · rcases (mem x).mp hx with z | z | z
    · exact f.lt x z
    · rw [z]; exact ln
    · rw [z]; exact tn
  · rw [mem]
    rcases (mem x).mp hx with z | rfl | rfl
    · rw [gl x z]; exact .inl (f.to x z)
    · rw [gh]; exact .inr (.inr rfl)
    · rw [gt]; exact .inr (.inl rfl)
  · rcases (mem x).mp hx with z | rfl | rfl
    · rw [gl x z, gl _ (f.to x z)]; exact f.bk x z
    · rw [gh, gt]
    · rw [gt, gh]
  · rcases List.mem_append.mp hp with z | z
    · exact f.td p (List.mem_append_left _ z)
    · obtain ⟨r, hr, rfl⟩ := List.mem_map.mp z
      exact ⟨_, _, rfl, hr0 r hr _ ln, hr0 r hr _ tn⟩
  · rcases (mem x).mp hx with z | rfl | rfl
    · rw [gl x z]
      rcases f.cm r hr x z with ⟨c1, c2⟩ | c | c
      · exact .inl ⟨(mem _).mpr (.inl c1), by rw [gl _ c1]; exact c2⟩
      · rcases List.mem_append.mp c with c | c
        · exact .inr (.inl (List.mem_append_left _ c))
        · obtain ⟨e1, e2⟩ := pair_inj (List.mem_singleton.mp c)
          refine .inl ⟨(mem _).mpr (.inr (.inl e1)), ?_⟩
          rw [e1, e2]
          exact gh
      · rcases List.mem_append.mp c with c | c
        · exact .inr (.inr (List.mem_append_left _ c))
        · obtain ⟨e1, e2⟩ := pair_inj (List.mem_singleton.mp c)
          refine .inl ⟨(mem _).mpr (.inr (.inr e2)), ?_⟩
          rw [e1, e2]
          exact gt
    · rw [gh]
      exact .inr (.inl (List.mem_append_right _ (List.mem_map.mpr ⟨r, hr, rfl⟩)))
    · rw [gt]
      exact .inr (.inr (List.mem_append_right _ (List.mem_map.mpr ⟨r, hr, rfl⟩)))
  · unfold addK
    split
    · rw [List.length_append, List.length_singleton]
      exact Nat.le_refl _
    · rw [List.length_append, List.length_append, List.length_singleton, List.length_singleton]
      omega
theorem FitI.len (f : FitI n rs l g TD) : l.length ≤ n := (FdOk.mk f.nd f.lt).len
end
end Cw
set_option Elab.async false
set_option linter.all false
set_option maxRecDepth 100000
set_option maxHeartbeats 4000000
/-! a comprehension over a dict of numbers, the dict locked meanwhile -/
namespace Cw
open PySem PySem.Spec L2
theorem walk_num71 {d : Addr} {o : Obj} {ls : List Nat} {g : Nat → V} : Walk (Itk d o (nKV ls g)) ls.length (fun H => H d = some (.frz o (.dK (nKV ls g)))) (YFn fun k => .int ((ls.getD k 0 : Nat) : Int)) := by
  have w := walk_keys (d := d) (o := o) (kvs := nKV ls g)
  rw [show (nKV ls g).length = ls.length from List.length_map _] at w
  refine w.mono (fun _ z => z) fun i H x H' hi _ y => ?_
  obtain ⟨rfl, kk, vv, hkv, rfl⟩ := y
  refine ⟨rfl, ?_⟩
  unfold nKV at hkv
  rw [List.getElem?_map, List.getElem?_eq_getElem hi] at hkv
  injection hkv with hkv
  injection hkv with a b
  show _ = V.int ((ls.getD i 0 : Nat) : Int)
  rw [← a, List.getD_eq_getElem?_getD, List.getElem?_eq_getElem hi]
  rfl
theorem v_lockLcN {σ : St} {H : Hp} {Q : VK} {i : Nat} {td : TE} {tt : TT} {te : TE} {d : Addr} {ls : List Nat} {g : Nat → V} {b : Nat → Bool} {f : Nat → V} (h : H d = some (.dK (nKV ls g))) (hn : ls.length ≤ 1000000)
    (htd : ∀ H1, ∀ R : VK, R (.ref d) H1 → td σ H1 R)
    (ht : ∀ c ∈ ls, ∀ H1, Lk d (.dK (nKV ls g)) H H1 → ∀ R : Bool → Hp → Prop, (∀ H2, Same H1 H2 → R (b c) H2) → tt ((wipe σ [i]).set i (some (.int ((c : Nat) : Int)))) H1 R)
    (he : ∀ c ∈ ls, b c = true → ∀ H1, Lk d (.dK (nKV ls g)) H H1 → ∀ R : VK, (∀ H2, Same H1 H2 → R (f c) H2) → te ((wipe σ [i]).set i (some (.int ((c : Nat) : Int)))) H1 R)
    (q : ∀ D H', H D = none → Same H H' → H' D = some (.lst ((ls.filter b).map f)) → Q (.ref D) H') : tLockE (tLc (iKeys td) (gName i) tt te [i]) σ H Q := by
  refine ⟨d, _, h, trivial, fun od => ?_⟩
  have lk0 : Lk d (.dK (nKV ls g)) H (upd H d (.frz od (.dK (nKV ls g)))) := ⟨⟨od, upd_same⟩, fun b o e n => by rw [upd_ne n]; exact e⟩
  refine e_lc ?_
  refine e_iK ?_
  refine htd _ _ ?_
  refine ⟨d, od, rfl, .inl ⟨_, upd_same, ?_⟩⟩
  refine vals_some (ls := ls) (it := fun c => V.int ((c : Nat) : Int)) (f := f) (b := b) walk_num71 (fun H' s' => s' _ _ upd_same) hn (fun e he' H7 s7 Rk r => ht e he' H7 (lk0.same s7) Rk r) (fun e he' hb H7 s7 Rk r => he e he' hb H7 (lk0.same s7) Rk r) (fun D H7 hD s7 e7 => ?_)
  have nD : D ≠ d := fun z => by rw [z, upd_same] at hD; cases hD
  refine ⟨s7 _ _ upd_same, q D _ (by rw [upd_ne nD] at hD; exact hD) (fun b o hb => ?_) (by rw [upd_ne nD]; exact e7)⟩
  by_cases e : b = d
  · rw [e, upd_same, ← hb, e, h]
  · rw [upd_ne e]
    exact s7 _ _ (lk0.oth b o hb e)
theorem let_new71 {H : Hp} {d : Addr} {keys : List Nat} {g : Nat → V} {k : Nat} {v : V} (h : H d = some (.dK (keys.map fun c => ((Sum.inr (tx [c]) : Key), g c)))) (hk : ¬ k ∈ keys) (hl : keys.length < 1000000) : DPut H d (.str (tx [k])) v (upd H d (.dK ((keys ++ [k]).map fun c => ((Sum.inr (tx [c]) : Key), if c = k then v else g c)))) := by
  have e := DPut.cross (l := [k]) (v := v) h (letV_none (g := g) hk) (by rw [List.length_map]; exact hl)
  have e2 : ((keys ++ [k]).map fun c => ((Sum.inr (tx [c]) : Key), if c = k then v else g c)) = (keys.map fun c => ((Sum.inr (tx [c]) : Key), g c)) ++ [((Sum.inr (tx [k]) : Key), v)] := by
    rw [List.map_append, List.map_cons, List.map_nil, if_pos rfl]
    congr 1
    refine List.map_congr_left fun c hc => ?_
    rw [if_neg fun z : c = k => hk (z ▸ hc)]
  rw [e2]
  exact e
/-- rows that lead back, crossing ones commute -/
structure RowsOk (n : Nat) (cr : Nat → Nat → Bool) (keys : List Nat) (r : Nat → List Nat) : Prop where
  len : ∀ c ∈ keys, (r c).length = n ∧ ∀ z ∈ r c, z < n
  back : ∀ c ∈ keys, ∀ z, z < n → (r c).getD ((r c).getD z 0) 0 = z
  com : ∀ c ∈ keys, ∀ c' ∈ keys, cr c c' = true → ∀ z, z < n → (r c).getD ((r c').getD z 0) 0 = (r c').getD ((r c).getD z 0) 0
theorem RowsOk.snoc {n : Nat} {cr : Nat → Nat → Bool} {keys : List Nat} {r : Nat → List Nat} (h : RowsOk n cr keys r) (sym : ∀ a b, cr a b = cr b a) {k : Nat} (hk : ¬ k ∈ keys) {l : List Nat} {g : Nat → Nat} (p : PInv n ((keys.filter fun c => cr c k).map r) l g) : RowsOk n cr (keys ++ [k]) fun c => if c = k then rowP n l g else r c := by
  obtain ⟨p1, p2, p3⟩ := p.row
  have ne : ∀ c ∈ keys, ¬ c = k := fun c hc z => hk (z ▸ hc)
  refine ⟨fun c hc => ?_, fun c hc z hz => ?_, fun c hc c' hc' e z hz => ?_⟩
  · rcases List.mem_append.mp hc with m | m
    · rw [if_neg (ne c m)]
      exact h.len c m
    · rw [if_pos (List.mem_singleton.mp m)]
      exact ⟨p1, p2⟩
  · rcases List.mem_append.mp hc with m | m
    · rw [if_neg (ne c m)]
      exact h.back c m z hz
    · rw [if_pos (List.mem_singleton.mp m)]
      exact p3 z hz
  · have one : ∀ u ∈ keys, cr u k = true → (rowP n l g).getD ((r u).getD z 0) 0 = (r u).getD ((rowP n l g).getD z 0) 0 := fun u hu0 eu => p.com (List.mem_map.mpr ⟨u, List.mem_filter.mpr ⟨hu0, eu⟩, rfl⟩) (h.len u hu0) (h.back u hu0) hz
    rcases List.mem_append.mp hc with m | m
    · rw [if_neg (ne c m)]
      rcases List.mem_append.mp hc' with m' | m'
      · rw [if_neg (ne c' m')]
        exact h.com c m c' m' e z hz
      · have e' := List.mem_singleton.mp m'
        subst e'
        rw [if_pos rfl]
        exact (one c m e).symm
    · have e1 := List.mem_singleton.mp m
      subst e1
      rw [if_pos rfl]
      rcases List.mem_append.mp hc' with m' | m'
      · rw [if_neg (ne c' m')]
        exact one c' m' (by rw [sym]; exact e)
      · rw [if_pos (List.mem_singleton.mp m')]
end Cw
set_option Elab.async false
set_option linter.all false
set_option maxRecDepth 100000
/-! x or y by truth -/
namespace Cw
open PySem PySem.Spec L2
theorem v_notN0 {H : Hp} {Q : VK} {v : V} (q : Q (.bl (!decide (v = .non))) H) : rNotN v .non H Q := ⟨rfl, q⟩
end Cw
set_option Elab.async false
set_option linter.all false
set_option maxRecDepth 100000
set_option maxHeartbeats 4000000
/-! [e for x in ..]: e makes new lists -/
namespace Cw
open PySem PySem.Spec L2
theorem lc_newL {σ : L2.St} {H : Hp} {i : Nat} {tt : TT} {te : TE} {P : Addr → Hp → Prop} {J : It} {n : Nat} {G : Hp → Prop} {it : Nat → V} (f : Nat → List V) (w : Walk J n G (fun k H x H' => H' = H ∧ x = it k)) (hG : ∀ H', Same H H' → G H') (hn : n ≤ 1000000)
    (ht : ∀ k, k < n → ∀ H1, Same H H1 → ∀ R : Bool → Hp → Prop, (∀ H2, Same H1 H2 → R true H2) → tt ((wipe σ [i]).set i (some (it k))) H1 R)
    (he : ∀ k, k < n → ∀ H1, Same H H1 → ∀ R : VK, (∀ p H2, H1 p = none → Same H1 H2 → H2 p = some (.lst (f k)) → R (.ref p) H2) → te ((wipe σ [i]).set i (some (it k))) H1 R)
    (q : ∀ D H' vs, H D = none → Same H H' → H' D = some (.lst vs) → vs.length = n → (∀ k v, vs[k]? = some v → ∃ p, v = .ref p ∧ H p = none ∧ H' p = some (.lst (f k))) → P D H') :
    ∀ D, H D = none → ∃ W : Nat → Nat → Hp → Prop, (∃ m, W 0 m (upd H D (.lst []))) ∧ ∀ k m H, W k m H →
      (J.stop k H ∧ P D H) ∨ (J.go k H ∧ ∃ Nx : Hp → Prop, (∀ H', Nx H' → ∃ m', m' < m ∧ W (k + 1) m' H') ∧ ∀ x H', J.yld k H x H' → (gName i) x (wipe σ [i]) H' fun s2 H2 => wipe s2 [i] = wipe σ [i] ∧ tt s2 H2 fun c H3 =>
        if c = true then te s2 H3 fun y H4 => ∃ acc, H4 D = some (.lst acc) ∧ acc.length < sizeLine ∧ Nx (upd H4 D (.lst (acc ++ [y]))) else Nx H3) := by
  intro D hD
  refine lc_it w (vs := [i]) (σ := σ) (g := gName i) (tt := tt) (te := te) (Qd := fun H' => P D H') (fun k H' => Same H H' ∧ ∃ vs, H' D = some (.lst vs) ∧ vs.length = k ∧ ∀ j v, vs[j]? = some v → ∃ p, v = .ref p ∧ p ≠ D ∧ H p = none ∧ H' p = some (.lst (f j)))
    ⟨Same.new hD, [], upd_same, rfl, fun j v z => by simp at z⟩ (fun k H' _ p => hG H' p.1) (fun k x H1 H2 hk p y => ?_) (fun H' p => ?_)
  · obtain ⟨p1, vs, p2, p3, p4⟩ := p
    obtain ⟨rfl, rfl⟩ := y
    refine ⟨wipe1, ht k hk _ p1 _ fun H3 s3 => ?_⟩
    rw [if_pos rfl]
    refine he k hk _ (p1.trans s3) _ fun v H4 hv s4 r4 => ?_
    have e4 := s4 _ _ (s3 _ _ p2)
    have nv : v ≠ D := (ne_of_none (s3 _ _ p2) hv).symm
    refine ⟨vs, e4, szlt (by omega), fun a o ha => ?_, vs ++ [.ref v], upd_same, by rw [List.length_append, p3]; rfl, fun j u hj => ?_⟩
    · rw [upd_ne (ne_of_none ha hD)]
      exact s4 _ _ (s3 _ _ (p1 _ _ ha))
    · by_cases c : j < vs.length
      · rw [List.getElem?_append_left c] at hj
        obtain ⟨p, e, np, h0, hp⟩ := p4 j u hj
        exact ⟨p, e, np, h0, by rw [upd_ne np]; exact s4 _ _ (s3 _ _ hp)⟩
      · have e : j = vs.length := by
          have := (List.getElem?_eq_some_iff.mp hj).1
          rw [List.length_append, List.length_singleton] at this
          omega
        subst e
        rw [List.getElem?_append_right (Nat.le_refl _), Nat.sub_self] at hj
        refine ⟨v, (Option.some.inj hj).symm, nv, Same.free (p1.trans s3) hv, ?_⟩
        rw [upd_ne nv, p3]
        exact r4
  · obtain ⟨p1, vs, p2, p3, p4⟩ := p
    exact q D H' vs hD p1 p2 p3 fun k v h => let ⟨p, e, _, h0, hp⟩ := p4 k v h; ⟨p, e, h0, hp⟩
end Cw
set_option Elab.async false
set_option linter.all false
set_option maxRecDepth 100000
set_option maxHeartbeats 4000000
/-! list(text) -/
namespace Cw
open PySem PySem.Spec L2
end Cw
set_option Elab.async false
set_option linter.all false
set_option maxRecDepth 100000
set_option maxHeartbeats 4000000
/-! [(..) for x, y in zip(tuple, tuple)] -/
namespace Cw
open PySem PySem.Spec L2 RZ
section
variable {K : PySem.W.Frag} {σ : L2.St} {H : Hp} {a b : Addr} {xs ys : List V} {ta : TA} {R : It → Hp → Prop} {i j : Nat} {tt : TT} {te : TE} {P : Addr → Hp → Prop}
theorem e_iZipA (q : ta σ H fun vs H1 => ∃ a b xs ys, vs = [.ref a, .ref b] ∧ ((SqL K H1 a xs ∧ SqL K H1 b ys ∧ R (Itz K a b) H1) ∨ (SqT K H1 a xs ∧ SqT K H1 b ys ∧ R (ItzT K a b) H1))) : iZipA K ta σ H R := q
theorem walk_zipTT (hl : xs.length = ys.length) : Walk (ItzT K a b) xs.length (fun H => H a = some (.tup xs) ∧ H b = some (.tup ys)) (fun i H v H' => ∃ T x y, v = .ref T ∧ H T = none ∧ H' = upd H T (.tup [x, y]) ∧ xs[i]? = some x ∧ ys[i]? = some y) := by
  refine ⟨fun i H hi h => ⟨xs, ys, xs[i], ys[i]'(by omega), SqT.of h.1, SqT.of h.2, List.getElem?_eq_getElem hi, List.getElem?_eq_getElem (by omega)⟩, fun H h => ⟨xs, ys, SqT.of h.1, SqT.of h.2, .inl (Nat.le_refl _)⟩, fun i H v H' hi h y => ?_⟩
  obtain ⟨T, x, y, e1, e2, e3, e4, e5⟩ := y
  exact ⟨T, x, y, e1, e2, e3, e4 xs (SqT.of h.1), e5 ys (SqT.of h.2)⟩
theorem lc_zipNew (f : Nat → List V) (hij : i ≠ j) (ea : H a = some (.tup xs)) (eb : H b = some (.tup ys)) (hl : xs.length = ys.length) (hn : xs.length ≤ 1000000)
    (ht : ∀ (k : Nat) (x y : V), xs[k]? = some x → ys[k]? = some y → ∀ H1, Same H H1 → ∀ R : Bool → Hp → Prop, (∀ H2, Same H1 H2 → R true H2) → tt (((wipe σ [i, j]).set i (some x)).set j (some y)) H1 R)
    (he : ∀ (k : Nat) (x y : V), xs[k]? = some x → ys[k]? = some y → ∀ H1, Same H H1 → ∀ R : VK, (∀ p H2, H1 p = none → Same H1 H2 → H2 p = some (.tup (f k)) → R (.ref p) H2) → te (((wipe σ [i, j]).set i (some x)).set j (some y)) H1 R)
    (q : ∀ D H' vs, H D = none → Same H H' → H' D = some (.lst vs) → vs.length = xs.length → (∀ (k : Nat) (v : V), vs[k]? = some v → ∃ p, v = .ref p ∧ H' p = some (.tup (f k))) → P D H') :
    ∀ D, H D = none → ∃ W : Nat → Nat → Hp → Prop, (∃ m, W 0 m (upd H D (.lst []))) ∧ ∀ k m H, W k m H →
      ((ItzT K a b).stop k H ∧ P D H) ∨ ((ItzT K a b).go k H ∧ ∃ Nx : Hp → Prop, (∀ H', Nx H' → ∃ m', m' < m ∧ W (k + 1) m' H') ∧ ∀ x H', (ItzT K a b).yld k H x H' → (gTup K 2 (gCons (gName i) (gCons (gName j) gNil))) x (wipe σ [i, j]) H' fun s2 H2 => wipe s2 [i, j] = wipe σ [i, j] ∧ tt s2 H2 fun c H3 =>
        if c = true then te s2 H3 fun y H4 => ∃ acc, H4 D = some (.lst acc) ∧ acc.length < sizeLine ∧ Nx (upd H4 D (.lst (acc ++ [y]))) else Nx H3) := by
  intro D hD
  refine lc_it (walk_zipTT (K := K) (a := a) (b := b) hl) (vs := [i, j]) (σ := σ) (g := gTup K 2 (gCons (gName i) (gCons (gName j) gNil))) (tt := tt) (te := te) (Qd := fun H' => P D H') (fun k H' => Same H H' ∧ ∃ vs, H' D = some (.lst vs) ∧ vs.length = k ∧ ∀ (l : Nat) v, vs[l]? = some v → ∃ p, v = .ref p ∧ p ≠ D ∧ H' p = some (.tup (f l)))
    ⟨Same.new hD, [], upd_same, rfl, fun l v z => by simp at z⟩ (fun k H' _ p => ⟨p.1 _ _ ea, p.1 _ _ eb⟩) (fun k x H1 H2 hk p y => ?_) (fun H' p => ?_)
  · obtain ⟨p1, vs, p2, p3, p4⟩ := p
    obtain ⟨T, x, y, rfl, hT, rfl, hx, hy⟩ := y
    refine v_gTup2 rfl upd_same ?_
    have s2 : Same H1 (upd H1 T (.tup [x, y])) := Same.new hT
    refine ⟨?_, ht k x y hx hy _ (p1.trans s2) _ fun H3 s3 => ?_⟩
    · show (((((σ.set j none).set i none).set i _).set j _).set j none).set i none = (σ.set j none).set i none
      rw [List.set_set, List.set_set, List.set_comm _ _ hij, List.set_set, List.set_set]
    rw [if_pos rfl]
    refine he k x y hx hy _ ((p1.trans s2).trans s3) _ fun p H4 hp s4 r4 => ?_
    have e3 := s3 _ _ (s2 _ _ p2)
    have e4 := s4 _ _ e3
    have np : p ≠ D := (ne_of_none e3 hp).symm
    refine ⟨vs, e4, szlt (by omega), fun c o ha => ?_, vs ++ [.ref p], upd_same, by rw [List.length_append, p3]; rfl, fun l u hl => ?_⟩
    · rw [upd_ne (ne_of_none ha hD)]
      exact s4 _ _ (s3 _ _ (s2 _ _ (p1 _ _ ha)))
    · by_cases c : l < vs.length
      · rw [List.getElem?_append_left c] at hl
        obtain ⟨p', e, nq, hp'⟩ := p4 l u hl
        exact ⟨p', e, nq, by rw [upd_ne nq]; exact s4 _ _ (s3 _ _ (s2 _ _ hp'))⟩
      · have e : l = vs.length := by
          have := (List.getElem?_eq_some_iff.mp hl).1
          rw [List.length_append, List.length_singleton] at this
          omega
        subst e
        rw [List.getElem?_append_right (Nat.le_refl _), Nat.sub_self] at hl
        refine ⟨p, (Option.some.inj hl).symm, np, ?_⟩
        rw [upd_ne np, p3]
        exact r4
  · obtain ⟨p1, vs, p2, p3, p4⟩ := p
    exact q D H' vs hD p1 p2 p3 fun k v h => let ⟨p, e, _, hp⟩ := p4 k v h; ⟨p, e, hp⟩
end
end Cw
set_option Elab.async false
set_option linter.all false
set_option maxRecDepth 100000
set_option maxHeartbeats 4000000
/-! dicts whose keys are tuples: a display of one pair, a comprehension (the walk of a comprehension's block follows HandS.DictComp) -/
namespace Cw
open PySem PySem.Spec L2 PyProof.Rows
theorem d_dictSet77 {X : Cx} {pins : List (Addr × Obj)} {σ : L2.St} {H : Hp} {s : Shared} {E : Value → Shared → Prop} {D b : Addr} {kvs : List (List Key × V)} {k : List Key} {v : V} {r : Value} {Q : Unit → Shared → Prop} (hu : X.A.units < cLine) (I : Inv X pins σ H s) (hD : H D = some (.dT kvs)) (hb : H b = some (.tup (k.map kV))) (hz : kvs.length < sizeLine)
    (rv : RelV v r) (h : ∀ s', Inv X pins σ (upd H D (.dT (putK kvs k v))) s' → Q () s') : wpAny (model X.prog X.w) X.A (dictSet D (.ref b) r) Q E s := by
  obtain ⟨z, hd, xs, rel, dd⟩ := dt_of I.hok hD
  have hzv : xs.length ≤ sizeLine := by rw [← Paired.length rel]; exact z
  have hl : (putK kvs k v).length ≤ sizeLine := by have := length_putK kvs k v; omega
  refine wpAny_dictSet_heap (hsz := hzv) (knd := tupleKind (mixKind X.prog X.w)) hu (key_of I.hok hb) dd fun h' dd' hs => h _ ?_
  obtain ⟨q, es, ep, hq, h2, h3, h4, _, h5⟩ := dd'
  refine d_write I (by rw [hD]; exact True.intro) hs ⟨q, hq⟩ ⟨hl, hd, _, (rel.put k hb rv).keeps fun c ys ec => ?_, q, es, ep, hq, h2, h3, h4, h5⟩
  rw [upd_ne (ne_of ec hD (fun z => nomatch z))]
  exact ec
section
variable {X : Cx}
def tDc77 (wi : TI) (g : TG) (tt : TT) (tk tv : TE) (vs : List Nat) : TE := fun σ H Q => wi σ H fun J H1 => ∀ D, H1 D = none → ∃ W : Nat → Nat → Hp → Prop, (∃ m, W 0 m (upd H1 D (.dT []))) ∧ ∀ i m H, W i m H →
  (J.stop i H ∧ Q (.ref D) H) ∨ (J.go i H ∧ ∃ Nx : Hp → Prop, (∀ H', Nx H' → ∃ m', m' < m ∧ W (i + 1) m' H') ∧ ∀ x H', J.yld i H x H' → g x (wipe σ vs) H' fun σ2 H2 => wipe σ2 vs = wipe σ vs ∧ tt σ2 H2 fun b H3 =>
    if b = true then tk σ2 H3 fun y H4 => tv σ2 H4 fun z H5 => ∃ kvs k b, y = .ref b ∧ H5 b = some (.tup (k.map kV)) ∧ H5 D = some (.dT kvs) ∧ kvs.length < sizeLine ∧ Nx (upd H5 D (.dT (putK kvs k z))) else Nx H3)
theorem dc_core77 {pins : List (Addr × Obj)} {s : Shared} {σ : L2.St} {H : Hp} {Q : VK} {kx vx tg iter : Expr} {ifs : List Expr} {scope : Scope} {own : List (Str × Nat)} {pos pos' : PySem.Pos} {wi : TI} {g : TG} {tt : TT} {tk tv : TE} {use : Option (Value → Sem Unit)} {Qf : Value → Shared → Prop}
    (hu : X.A.units < cLine) (hc : X.calm = true) (hN : X.N.Nodup) (I : Inv X pins σ H s) (hi : PI X tg iter wi) (ok : BlkOk X.N X.env.scope scope own)
    (hg : ∀ (s : Shared) (H : Hp) (C : Addr) (cl : List (Str × Addr)) (fp : List Addr), PG (X.blk s H scope (compEnvC scope cl C X.env) fp) tg g) (ht : ∀ (s : Shared) (H : Hp) (C : Addr) (cl : List (Str × Addr)) (fp : List Addr), PTs (X.blk s H scope (compEnvC scope cl C X.env) fp) ifs tt)
    (hk : ∀ (s : Shared) (H : Hp) (C : Addr) (cl : List (Str × Addr)) (fp : List Addr), PE (X.blk s H scope (compEnvC scope cl C X.env) fp) kx tk)
    (he : ∀ (s : Shared) (H : Hp) (C : Addr) (cl : List (Str × Addr)) (fp : List Addr), PE (X.blk s H scope (compEnvC scope cl C X.env) fp) vx tv) (hs : ∀ x, foldedSetIterable iter X.env x = pure x)
    (h : tDc77 wi g tt tk tv (own.map (·.2)) σ H Q)
    (hRR : ∀ D C s' m H', Inv X pins σ H' s' → Q (.ref D) H' → s'.heap.Ns C m → FpOk X pins H' C → compPost (model X.prog X.w) X.A X.xe use Qf (.ref D) C (.ok .next) s') :
    wpAny (model X.prog X.w) X.A (comprehension (.DictComp kx vx [⟨tg, iter, ifs, 0⟩] scope pos) scope X.env pos' newDict false (eval iter X.env) use) Qf X.xe s := by
  have hfree : ∀ y ∈ scope.names, y.2 = .free → ∃ c, X.env.cells.lookup y.1 = some c := fun y hy e => by
    rcases ok.free y hy e with k | k
    · exact I.ok.has _ (.inl k)
    · exact I.ok.has _ (.inr k)
  refine wpAny_comprehension_free (use := use) rfl hs (closure_ok hfree) ok.kind (fun y hy e => by rw [ok.uniq y hy, e])
    (thn (hi.run pins s σ H _ I h) fun xv s1 hx => thn hx fun itv s2 h2 => ?_)
  obtain ⟨it, fp, tn, J, H2, e, I2, T, st2, f2, q⟩ := h2
  subst e
  refine wpAny_newObj_type (newEnv_comp ?_)
  generalize hD : s2.heap.objs.size = D
  have hDn : H2 D = none := I2.hok.fresh (Nat.le_of_eq hD)
  obtain ⟨W, ⟨m0, w0⟩, turn⟩ := q D hDn
  generalize hs3 : ({ s2 with heap := s2.heap.push { cls := .type "dict", data := .dict #[] } } : Shared) = s3
  have I3 : Inv X pins σ (upd H2 D (.dT [])) s3 := by
    rw [← hs3]
    refine I2.laid (t' := s2.toks) (fun b o e => Heap.get?_push_of_some _ e) (Nat.le_of_eq hD) ?_
    rw [← hD]
    exact dt_empty s2.heap I2.big
  have h3 : s3.heap = s2.heap.push { cls := .type "dict", data := .dict #[] } := by rw [← hs3]
  have sz : ∀ b ∈ fp, b < s2.heap.objs.size := fun b hb => by
    obtain ⟨o, e, _⟩ := T.obj _ _ st2 b hb
    exact Heap.lt_size e
  have f3 : ∀ b ∈ fp, FpOk X pins (upd H2 D (.dT [])) b ∧ b < s3.heap.objs.size := fun b hb => by
    have hlt := sz b hb
    refine ⟨⟨?_, (f2 b hb).2⟩, by rw [h3, Heap.size_push]; exact Nat.lt_succ_of_lt hlt⟩
    rw [upd_ne (by rw [← hD]; exact Nat.ne_of_lt hlt)]
    exact (f2 b hb).1
  have st3 : tn 0 s3.heap := T.keep _ _ _ st2 fun b _ o e => by rw [h3]; exact Heap.get?_push_of_some _ e
  have I4 := block_start I3 ok hN f3
  have pg := hg s3 (upd H2 D (.dT [])) s3.heap.objs.size (cellsFrom (s3.heap.objs.size + 1) scope.names (cloFrom X.env.cells scope.names [])) fp
  have pt := ht s3 (upd H2 D (.dT [])) s3.heap.objs.size (cellsFrom (s3.heap.objs.size + 1) scope.names (cloFrom X.env.cells scope.names [])) fp
  have pk := hk s3 (upd H2 D (.dT [])) s3.heap.objs.size (cellsFrom (s3.heap.objs.size + 1) scope.names (cloFrom X.env.cells scope.names [])) fp
  have pe := he s3 (upd H2 D (.dT [])) s3.heap.objs.size (cellsFrom (s3.heap.objs.size + 1) scope.names (cloFrom X.env.cells scope.names [])) fp
  show codeAny _ _ (.compStart (.DictComp kx vx [⟨tg, iter, ifs, 0⟩] scope pos) 0 (.ref it) (.ref D) (compEnvC scope (cellsFrom (s3.heap.objs.size + 1) scope.names (cloFrom X.env.cells scope.names [])) s3.heap.objs.size X.env)) (compPost (model X.prog X.w) X.A X.xe use Qf (.ref D) s3.heap.objs.size) { s3 with heap := pushCells (s3.heap.push { cls := .type "dict", data := .dict #[] }) scope.names }
  have nfp : ∀ b ∈ fp, (upd H2 D (.dT [])) b = none := fun b hb => (f3 b hb).1.1
  generalize hce : compEnvC scope (cellsFrom (s3.heap.objs.size + 1) scope.names (cloFrom X.env.cells scope.names [])) s3.heap.objs.size X.env = ce at I4 pg pt pk pe ⊢
  have cL : ce.locals = s3.heap.objs.size := by subst hce; rfl
  generalize hH3 : upd H2 D (.dT []) = H3 at I3 I4 pg pt pk pe w0 nfp f3
  generalize hs4 : ({ s3 with heap := pushCells (s3.heap.push { cls := .type "dict", data := .dict #[] }) scope.names } : Shared) = s4 at I4 ⊢
  have st4 : tn 0 s4.heap := T.keep _ _ _ st3 fun b _ o e => by rw [← hs4]; exact pushCells_keeps _ _ _ _ (Heap.get?_push_of_some _ e)
  have stat : ∀ {σ' : L2.St} {H' : Hp} {s' : Shared}, Inv (X.blk s3 H3 scope ce fp) [] σ' H' s' → (∀ b ∈ fp, H' b = none) → ∀ b ∈ fp, FpOk (X.blk s3 H3 scope ce fp) [] H' b := fun {σ' H' s'} I' hn b hb =>
    ⟨hn b hb, (I'.ok.exf b hb).1, I'.ok.exfs b hb, .inl hb, fun x c e => (I'.ok.exf b hb).2 x c e, fun p hp => absurd (show p ∈ ([] : List (Addr × Obj)) ++ [] from hp) (by simp)⟩
  have loop : codeAny (model X.prog X.w) X.A (.compLoop (.DictComp kx vx [⟨tg, iter, ifs, 0⟩] scope pos) 0 (.ref it) (.ref D) ce) (compPost (model X.prog X.w) X.A X.xe use Qf (.ref D) s3.heap.objs.size) s4 := by
    refine compLoop_anyD (fun n s' => ∃ i H', Inv (X.blk s3 H3 scope ce fp) [] (wipe σ (own.map (·.2))) H' s' ∧ tn i s'.heap ∧ (∀ b ∈ fp, H' b = none) ∧ W i n H') ?_ m0 ⟨0, H3, I4, st4, nfp, w0⟩
    rintro n s5 ⟨i, H5, I5, st5, n5, w5⟩
    rcases turn i n H5 w5 with ⟨stop, qq⟩ | ⟨go, Nx, hNx, step⟩
    · have td := T.done (X.blk s3 H3 scope ce fp) rfl rfl rfl hc i [] s5 _ H5 (fun _ _ => False) I5 (stat I5 n5) st5 stop
      refine thnF td fun r s6 ⟨hr, I6⟩ => ?_
      subst hr
      have I7 : Inv X pins σ H5 s6 := I3.call' (ch := fp) I6.os I6.base I6.hok I6.bare fun b hb => ⟨(f3 b hb).1.2.2.2.1, (f3 b hb).1.2.1, (f3 b hb).1.2.2.2.2.1, (f3 b hb).1.2.2.2.2.2⟩
      have nC : H5 s3.heap.objs.size = none := by
        have z : H5 ce.locals = none := I6.free
        rw [cL] at z
        exact z
      obtain ⟨m, hn, _⟩ := I6.loc
      have hn : s6.heap.Ns ce.locals m := hn
      rw [cL] at hn
      exact hRR D s3.heap.objs.size s6 m H5 I7 qq hn (I3.fpOk (Nat.le_refl _) nC)
    · have ti := T.item (X.blk s3 H3 scope ce fp) rfl rfl rfl hc i [] s5 _ H5 (fun _ _ => False) I5 (stat I5 n5) st5 go
      refine thnF ti fun r s6 ⟨u, hr, h6⟩ => ?_
      subst hr
      refine thnF h6 fun _ s7 ⟨x, H7, I7, r7, y7, st7, n7⟩ => ?_
      have I7' := I7.pinned (stat I7 n7) (T.obj _ _ st7)
      refine thnF (pg.run _ s7 _ H7 x u _ I7' r7 (step x H7 y7)) fun _ s8 ⟨σ8, H8, I8, hw8, q8⟩ => ?_
      refine thnF (pt.run _ s8 σ8 H8 _ I8 q8) fun b s9 ⟨H9, I9, q9⟩ => ?_
      have fin : ∀ {s' : Shared} {H' : Hp}, Inv (X.blk s3 H3 scope ce fp) ([] ++ pinsAt fp s7.heap) σ8 H' s' → Nx H' → ∃ m, m < n ∧ ∃ i H', Inv (X.blk s3 H3 scope ce fp) [] (wipe σ (own.map (·.2))) H' s' ∧ tn i s'.heap ∧ (∀ b ∈ fp, H' b = none) ∧ W i m H' := fun {s' H'} I' nx => by
        obtain ⟨m', hm, w'⟩ := hNx H' nx
        have pin' : ∀ b ∈ fp, ∀ o, s7.heap.get? b = some o → s'.heap.get? b = some o ∧ H' b = none := fun b hb o e =>
          let z := I'.pin (b, o) (List.mem_append_right _ (List.mem_append_right _ (mem_pinsAt hb e)))
          ⟨z.1, z.2.1⟩
        have hl : (wipe σ (own.map (·.2))).length = σ8.length := by rw [← hw8, wipe_length]
        refine ⟨m', hm, i + 1, H', (I'.unpinned (pins := [])).weak hl (fun j v e => ?_), T.keep _ _ _ st7 fun b hb o e => (pin' b hb o e).1, fun b hb => ?_, w'⟩
        · rw [← hw8] at e
          exact (wipe_some e).1
        · obtain ⟨o, e, _⟩ := T.obj _ _ st7 b hb
          exact (pin' b hb o e).2
      cases b with
      | false =>
        simp only [Bool.false_eq_true, if_false] at q9 ⊢
        exact fin I9 q9
      | true =>
        simp only [if_true] at q9 ⊢
        refine thnF (pk.run _ s9 σ8 H9 _ I9 q9) fun z s10 ⟨yk, H10, I10, r10, q10⟩ => ?_
        refine thnF (pe.run _ s10 σ8 H10 _ I10 q10) fun z2 s11 ⟨yv, H11, I11, r11, kvs, k, b, ek, eb, hD11, hz11, nx⟩ => ?_
        subst ek
        cases (show z = Value.ref b from r10)
        exact d_dictSet77 (X := X.blk s3 H3 scope ce fp) hu I11 hD11 eb hz11 r11 fun s12 I12 => fin I12 nx
  exact codeAny_compStart_dict loop (T.self X.A 0 _ _ _ st4 loop)
theorem pe_dc77 {kx vx tg iter : Expr} {ifs : List Expr} {scope : Scope} {own : List (Str × Nat)} {pos : PySem.Pos} {wi : TI} {g : TG} {tt : TT} {tk tv : TE} (hu : X.A.units + 1 < cLine) (hc : X.calm = true) (hN : X.N.Nodup) (hi : PI X tg iter wi) (ok : BlkOk X.N X.env.scope scope own)
    (hg : ∀ (s : Shared) (H : Hp) (C : Addr) (cl : List (Str × Addr)) (fp : List Addr), PG (X.blk s H scope (compEnvC scope cl C X.env) fp) tg g) (ht : ∀ (s : Shared) (H : Hp) (C : Addr) (cl : List (Str × Addr)) (fp : List Addr), PTs (X.blk s H scope (compEnvC scope cl C X.env) fp) ifs tt)
    (hk : ∀ (s : Shared) (H : Hp) (C : Addr) (cl : List (Str × Addr)) (fp : List Addr), PE (X.blk s H scope (compEnvC scope cl C X.env) fp) kx tk)
    (he : ∀ (s : Shared) (H : Hp) (C : Addr) (cl : List (Str × Addr)) (fp : List Addr), PE (X.blk s H scope (compEnvC scope cl C X.env) fp) vx tv) (hs : ∀ x, foldedSetIterable iter X.env x = pure x := by intro _; rfl) :
    PE X (.DictComp kx vx [⟨tg, iter, ifs, 0⟩] scope pos) (tDc77 wi g tt tk tv (own.map (·.2))) := by
  refine ⟨fun pins s σ H Q I h => ?_⟩
  rw [arm_eval_DictComp]
  refine dc_core77 (Nat.lt_of_succ_lt hu) hc hN I hi ok hg ht hk he hs h fun D C s' m H' I' q hn f => ⟨m, hn, fun h'' sb => ?_⟩
  obtain ⟨f0, f1, f2, f3, f4, f5⟩ := f
  exact ⟨.ref D, H', I'.turned (t' := s'.toks) (fun b o hb e => (sb.2 b hb).trans e) f0 f1 f3 f4 f5, rfl, q⟩
/-- {(..): v} -/
def tDisp77 (tk tv : TE) : TE := fun σ H Q => ∀ p, H p = none → tk σ (upd H p (.dT [])) fun x H1 => tv σ H1 fun y H2 => ∃ k b, x = .ref b ∧ H2 b = some (.tup (k.map kV)) ∧ H2 p = some (.dT []) ∧ Q (.ref p) (upd H2 p (.dT [(k, y)]))
theorem pe_disp77 {pos : PySem.Pos} {e f : Expr} {tk tv : TE} (hu : X.A.units + 1 < cLine) (hk : PE X e tk) (hv : PE X f tv) : PE X (.Dict [some e] [f] pos) (tDisp77 tk tv) := by
  refine ⟨fun pins s σ H Q I q => ?_⟩
  have hn := I.hok.fresh (Nat.le_refl s.heap.objs.size)
  have I1 := I.laid (a := s.heap.objs.size) (o := .dT []) (h' := s.heap.push { cls := .type "dict", data := .dict #[] }) (t' := s.toks) (fun _ _ q => Heap.get?_push_of_some _ q) (Nat.le_refl _) (dt_empty s.heap I.big)
  have l1 : (pairTrees [some e] [f] X.env pos).length = 1 := pairTrees_length [some e] [f] X.env pos rfl rfl
  rw [arm_eval_Dict, zip_pairTrees [some e] [f] X.env pos rfl rfl, dictDisplay_pairs (pairTrees [some e] [f] X.env pos) (fun z => by rw [z] at l1; cases l1) (by rw [l1]; decide)]
  refine wpAny_bind (wpAny_standAt (wpAny_bind (wpAny_subDictH (knd := tupleKind (mixKind X.prog X.w)) (Q := fun d s' => wpAny (model X.prog X.w) X.A (pure (Value.ref d)) _ X.xe s') (Nat.lt_of_succ_lt hu) (by rw [l1]; decide) ?_)))
  refine pairTrees_cons_walk (thn (hk.run pins _ σ _ _ I1 (q _ hn)) fun u s1 ⟨x, H1, I1, rx, q1⟩ => thn (hv.run pins s1 σ H1 _ I1 q1) fun w2 s2 ⟨y, H2, I2, ry, k, b, ex, eb, eD, q2⟩ => pairTrees_nil_walk ?_)
  subst ex
  cases (show u = Value.ref b from rx)
  obtain ⟨z, hd, xs0, r0, dd⟩ := dt_of I2.hok eD
  cases r0
  refine ⟨[(k, b, w2)], ⟨rfl, rfl, key_of I2.hok eb, trivial⟩, dd, fun h' tk dd' hs => wpAny_pure ⟨.ref s.heap.objs.size, _, ?_, rfl, q2⟩⟩
  obtain ⟨q, es, ep, hq, h2, h3, h4, h6, h5⟩ := dd'
  have rel : KT H2 (putK [] k y) (storedH [] k b w2) := KT.put .nil k eb ry
  refine d_write I2 (by rw [eD]; exact True.intro) hs ⟨q, hq⟩ ⟨(by show 1 ≤ sizeLine; decide), hd, _, rel.keeps fun c ys ec => ?_, q, es, ep, hq, h2, h3, h4, h5⟩
  rw [upd_ne (ne_of ec eD (fun z => nomatch z))]
  exact ec
end
end Cw
set_option Elab.async false
set_option linter.all false
set_option maxRecDepth 100000
set_option maxHeartbeats 4000000
/-! d.setdefault(k, v); dicts whose keys are pairs, told by one number -/
namespace Cw
open PySem PySem.Spec L2
section
variable {X : Cx} {o e f : Expr} {td ty tx : TE} {apos cpos : PySem.Pos}
theorem pe_setd77 (ho : PE X o td) (he : PE X e ty) (hf : PE X f tx) (hbase : attributeBase o "setdefault" X.env (eval o X.env) = eval o X.env := by rfl)
    (hfew : ((backTo cpos (starEach [e, f] X.env)).all (fun x => !x.1) && (backToKw cpos (keywordEach [] X.env)).all (fun x => x.1.isSome) && decide (([e, f] : List Expr).length + ([] : List Keyword).length + (if ([] : List Keyword).isEmpty then 0 else 1) < 30)) = true := by rfl)
    (hline : (apos.endLine == cpos.line) = true := by rfl) (ht : backTo cpos (starEach [e, f] X.env) = [(false, eval e X.env), (false, eval f X.env)] := by rfl) :
    PE X (.Call (.Attribute o "setdefault" apos) [e, f] [] cpos) (tDSetd td ty tx) := pe_dsetd ho he hf ⟨hbase, hfew, hline, ht⟩
end
section
variable {σ : L2.St} {H : Hp} {Q : VK} {td ty tx tk tv : TE}
theorem e_setd77 (q : td σ H fun x H1 => ∃ a, x = .ref a ∧ IsD H1 a ∧ ty σ H1 fun y H2 => tx σ H2 fun z H3 => ∃ (kvs : List (Key × V)) (k : Key), H3 a = some (.dK kvs) ∧ y = kV k ∧ kvs.length < sizeLine ∧ (∀ v, valV kvs k = some v → Q v H3) ∧ (valV kvs k = none → Q z (upd H3 a (.dK (putK kvs k z))))) : tDSetd td ty tx σ H Q := q
theorem v_setd77 {d : Addr} {l : List Nat} {g : Nat → V} {k : Nat} {v : V} (h : H d = some (.dK (nKV l g))) (hl : l.length < 1000000) (h1 : k ∈ l → Q (g k) H) (h2 : ¬ k ∈ l → ∀ H', Keep d H H' → H' d = some (.dK (nKV (l ++ [k]) fun c => if c = k then v else g c)) → Q v H') :
    ∃ (kvs : List (Key × V)) (k' : Key), H d = some (.dK kvs) ∧ V.int ((k : Nat) : Int) = kV k' ∧ kvs.length < sizeLine ∧ (∀ v, valV kvs k' = some v → Q v H) ∧ (valV kvs k' = none → Q v (upd H d (.dK (putK kvs k' v)))) := by
  refine ⟨_, Sum.inl ((k : Nat) : Int), h, rfl, by unfold nKV; rw [List.length_map]; exact szlt hl, fun u hu => ?_, fun hn => ?_⟩
  · by_cases c : k ∈ l
    · rw [nKV_some c] at hu
      injection hu with hu
      rw [← hu]
      exact h1 c
    · rw [nKV_none c] at hu
      cases hu
  · have c : ¬ k ∈ l := fun c => by rw [nKV_some c] at hn; cases hn
    refine h2 c _ Keep.put ?_
    rw [upd_same]
    refine congrArg (fun z => some (HO.dK z)) ?_
    unfold putK
    rw [if_neg (by rw [valV_any, nKV_none c]; exact Bool.false_ne_true)]
    unfold nKV
    rw [List.map_append]
    have e3 : (l.map fun (c : Nat) => ((Sum.inl ((c : Nat) : Int) : Key), if c = k then v else g c)) = l.map fun (c : Nat) => ((Sum.inl ((c : Nat) : Int) : Key), g c) := List.map_congr_left fun c' hc => by
      have ne : ¬ c' = k := fun z => c (by rw [← z]; exact hc)
      rw [if_neg ne]
    show _ = _ ++ [((Sum.inl ((k : Nat) : Int) : Key), if k = k then v else g k)]
    rw [if_pos rfl, e3]
/-- the pair that the number z stands for -/
abbrev pairO (n2 z : Nat) : HO := .tup [.int ((z / n2 : Nat) : Int), .int ((z % n2 : Nat) : Int)]
def pairK (n2 z : Nat) : List Key := [Sum.inl ((z / n2 : Nat) : Int), Sum.inl ((z % n2 : Nat) : Int)]
theorem pairK_V (n2 z : Nat) : (pairK n2 z).map kV = [.int ((z / n2 : Nat) : Int), .int ((z % n2 : Nat) : Int)] := rfl
theorem pairK_inj {n2 z y : Nat} (h : pairK n2 z = pairK n2 y) : z = y := by
  unfold pairK at h
  injection h with h1 h2
  injection h2 with h2 _
  injection h1 with h1
  injection h2 with h2
  have h1 := Int.ofNat_inj.mp h1
  have h2 := Int.ofNat_inj.mp h2
  rw [← Nat.div_add_mod z n2, ← Nat.div_add_mod y n2, h1, h2]
def tKV (n2 : Nat) (l : List Nat) (g : Nat → V) : List (List Key × V) := l.map fun (z : Nat) => (pairK n2 z, g z)
variable {n2 k : Nat} {g : Nat → V} {d b : Addr}
theorem tKV_some : ∀ {l : List Nat}, k ∈ l → valV (tKV n2 l g) (pairK n2 k) = some (g k)
  | c :: r, h => by
    unfold tKV
    by_cases e : c = k
    · rw [List.map_cons, valV_pos (by rw [e]), e]
    · rw [List.map_cons, valV_neg fun z => e (pairK_inj z)]
      exact tKV_some ((List.mem_cons.mp h).resolve_left fun z => e z.symm)
theorem tKV_none : ∀ {l : List Nat}, ¬ k ∈ l → valV (tKV n2 l g) (pairK n2 k) = none
  | [], _ => rfl
  | c :: r, h => by
    unfold tKV
    rw [List.map_cons, valV_neg fun z => h (by rw [pairK_inj z]; exact List.mem_cons_self ..)]
    exact tKV_none fun z => h (List.mem_cons_of_mem _ z)
variable {l : List Nat}
theorem pair_get (h : H d = some (.dT (tKV n2 l g))) (hb : H b = some (pairO n2 k)) (hk : k ∈ l) : DGet H d (.ref b) (some (g k)) := by
  have e := DGet.t (k := pairK n2 k) h hb
  rw [tKV_some hk] at e
  exact e
theorem pair_not (h : H d = some (.dT (tKV n2 l g))) (hb : H b = some (pairO n2 k)) (hk : ¬ k ∈ l) : DGet H d (.ref b) none := by
  have e := DGet.t (k := pairK n2 k) h hb
  rw [tKV_none hk] at e
  exact e
theorem tKV_put {v : V} (hk : ¬ k ∈ l) : putK (tKV n2 l g) (pairK n2 k) v = tKV n2 (l ++ [k]) fun c => if c = k then v else g c := by
  unfold putK
  rw [if_neg (by rw [valV_any, tKV_none hk]; exact Bool.false_ne_true)]
  unfold tKV
  rw [List.map_append]
  have e3 : (l.map fun (z : Nat) => (pairK n2 z, if z = k then v else g z)) = l.map fun (z : Nat) => (pairK n2 z, g z) := List.map_congr_left fun c hc => by
    have ne : ¬ c = k := fun z => hk (by rw [← z]; exact hc)
    rw [if_neg ne]
  show _ = _ ++ [(pairK n2 k, if k = k then v else g k)]
  rw [if_pos rfl, e3]
theorem pair_put {v : V} (h : H d = some (.dT (tKV n2 l g))) (hb : H b = some (pairO n2 k)) (hk : ¬ k ∈ l) (hl : l.length < 1000000) : DPut H d (.ref b) v (upd H d (.dT (tKV n2 (l ++ [k]) fun c => if c = k then v else g c))) := by
  have e := DPut.t (k := pairK n2 k) (v := v) h hb (by unfold tKV; rw [List.length_map]; exact szlt hl)
  rw [tKV_put hk] at e
  exact e
theorem e_disp77 (q : ∀ p H0, H p = none → Same H H0 → H0 p = some (.dT []) → tk σ H0 fun x H1 => tv σ H1 fun y H2 => ∃ k b, x = .ref b ∧ H2 b = some (.tup (k.map kV)) ∧ H2 p = some (.dT []) ∧ Q (.ref p) (upd H2 p (.dT [(k, y)]))) : tDisp77 tk tv σ H Q := fun p hp => q p _ hp (Same.new hp) upd_same
end
end Cw
set_option Elab.async false
set_option linter.all false
set_option maxRecDepth 100000
set_option maxHeartbeats 4000000
/-! {pair: i for i, pair in enumerate(pairs)}; [.. for x in ..] of new objects -/
namespace Cw
open PySem PySem.Spec L2
section
variable {K : PySem.W.Frag} {σ : L2.St} {H : Hp} {i j : Nat} {tt : TT} {tk tv : TE} {P : Addr → Hp → Prop} {a : Addr}
/-- the turns of a dict comprehension, told by what holds before each -/
theorem dc_turns77 {J : It} {n : Nat} {G : Hp → Prop} {Y : Nat → Hp → V → Hp → Prop} (w : Walk J n G Y) {g : TG} {vs : List Nat} {H1 : Hp} {D : Addr} {Qd : Hp → Prop} (Pv : Nat → Hp → Prop) (h0 : Pv 0 (upd H1 D (.dT []))) (hG : ∀ k H, k ≤ n → Pv k H → G H)
    (hs : ∀ k x H H', k < n → Pv k H → Y k H x H' → g x (wipe σ vs) H' fun σ2 H2 => wipe σ2 vs = wipe σ vs ∧ tt σ2 H2 fun b H3 => if b = true then tk σ2 H3 fun y H4 => tv σ2 H4 fun z H5 => ∃ kvs k' b, y = .ref b ∧ H5 b = some (.tup (List.map kV k')) ∧ H5 D = some (.dT kvs) ∧ kvs.length < sizeLine ∧ Pv (k + 1) (upd H5 D (.dT (putK kvs k' z))) else Pv (k + 1) H3) (hd : ∀ H, Pv n H → Qd H) :
    ∃ W : Nat → Nat → Hp → Prop, (∃ m, W 0 m (upd H1 D (.dT []))) ∧ ∀ k m H, W k m H →
      (J.stop k H ∧ Qd H) ∨ (J.go k H ∧ ∃ Nx : Hp → Prop, (∀ H', Nx H' → ∃ m', m' < m ∧ W (k + 1) m' H') ∧ ∀ x H', J.yld k H x H' → g x (wipe σ vs) H' fun σ2 H2 => wipe σ2 vs = wipe σ vs ∧ tt σ2 H2 fun b H3 =>
        if b = true then tk σ2 H3 fun y H4 => tv σ2 H4 fun z H5 => ∃ kvs k' b, y = .ref b ∧ H5 b = some (.tup (List.map kV k')) ∧ H5 D = some (.dT kvs) ∧ kvs.length < sizeLine ∧ Nx (upd H5 D (.dT (putK kvs k' z))) else Nx H3) := by
  refine ⟨fun k m H => m + k = n ∧ Pv k H, ⟨n, by omega, h0⟩, fun k m H ⟨hm, p⟩ => ?_⟩
  have gg := hG k H (by omega) p
  cases m with
  | zero =>
    obtain rfl : k = n := by omega
    exact .inl ⟨w.stops H gg, hd H p⟩
  | succ m => exact .inr ⟨w.goes k H (by omega) gg, Pv (k + 1), fun H' p' => ⟨m, by omega, by omega, p'⟩, fun x H' y => hs k x H H' (by omega) p (w.yields k H x H' (by omega) gg y)⟩
theorem dc_pairE {E : List (Nat × Addr)} {fd : List Nat} {n2 : Nat} (hij : i ≠ j) (nd : fd.Nodup) (hE : E.map (·.1) = fd) (e : H a = some (.lst (refV E))) (hp : ∀ e ∈ E, H e.2 = some (pairO n2 e.1)) (hn : fd.length ≤ 1000000)
    (ht : ∀ σ' H1, ∀ R : Bool → Hp → Prop, R true H1 → tt σ' H1 R)
    (hk : ∀ k x, ∀ H1, ∀ R : VK, R x H1 → tk (((wipe σ [i, j]).set i (some (.int ((k : Nat) : Int)))).set j (some x)) H1 R)
    (hv : ∀ k x, ∀ H1, ∀ R : VK, R (.int ((k : Nat) : Int)) H1 → tv (((wipe σ [i, j]).set i (some (.int ((k : Nat) : Int)))).set j (some x)) H1 R)
    (q : ∀ D H', H D = none → Same H H' → H' D = some (.dT (tKV n2 fd fun p => .int ((ixOf fd p : Nat) : Int))) → P D H') :
    ∀ D, H D = none → ∃ W : Nat → Nat → Hp → Prop, (∃ m, W 0 m (upd H D (.dT []))) ∧ ∀ k m H, W k m H →
      ((Ite K a).stop k H ∧ P D H) ∨ ((Ite K a).go k H ∧ ∃ Nx : Hp → Prop, (∀ H', Nx H' → ∃ m', m' < m ∧ W (k + 1) m' H') ∧ ∀ x H', (Ite K a).yld k H x H' → (gTup K 2 (gCons (gName i) (gCons (gName j) gNil))) x (wipe σ [i, j]) H' fun s2 H2 => wipe s2 [i, j] = wipe σ [i, j] ∧ tt s2 H2 fun c H3 =>
        if c = true then tk s2 H3 fun y H4 => tv s2 H4 fun z H5 => ∃ kvs k' b, y = .ref b ∧ H5 b = some (.tup (List.map kV k')) ∧ H5 D = some (.dT kvs) ∧ kvs.length < sizeLine ∧ Nx (upd H5 D (.dT (putK kvs k' z))) else Nx H3) := by
  intro D hD
  have lE : E.length = fd.length := by rw [← hE, List.length_map]
  have lnm : (refV E).length = fd.length := by rw [List.length_map]; exact lE
  have w := walk_enumL (K := K) (a := a) (xs := refV E)
  rw [lnm] at w
  refine dc_turns77 w (vs := [i, j]) (σ := σ) (g := gTup K 2 (gCons (gName i) (gCons (gName j) gNil))) (tt := tt) (tk := tk) (tv := tv) (Qd := fun H' => P D H') (fun k H' => Same H H' ∧ H' D = some (.dT (tKV n2 (fd.take k) fun p => .int ((ixOf (fd.take k) p : Nat) : Int))))
    ⟨Same.new hD, upd_same⟩ (fun k H' _ p => p.1 _ _ e) (fun k x H1 H2 hkl p y => ?_) (fun H' p => q D H' hD p.1 (by rw [p.2, List.take_length]))
  obtain ⟨p1, p2⟩ := p
  obtain ⟨T, x0, rfl, hT, rfl, hx⟩ := y
  have hx1 : fd[k]? = some fd[k] := List.getElem?_eq_getElem hkl
  rw [List.getElem?_map] at hx
  obtain ⟨e0, he0, rfl⟩ := Option.map_eq_some_iff.mp hx
  have ez : e0.1 = fd[k] := by
    have q := congrArg (fun l => l[k]?) hE
    simp only [List.getElem?_map, he0, hx1, Option.map_some] at q
    injection q
  have ep := hp e0 (List.mem_of_getElem? he0)
  rw [ez] at ep
  have nk : ¬ fd[k] ∈ fd.take k := by
    have z := take_notin nd hkl
    rwa [List.getD_eq_getElem?_getD, hx1] at z
  refine v_gTup2 rfl upd_same ?_
  have s2 : Same H1 (upd H1 T (.tup [.int ((k : Nat) : Int), .ref e0.2])) := Same.new hT
  refine ⟨?_, ht _ _ _ ?_⟩
  · show (((((σ.set j none).set i none).set i _).set j _).set j none).set i none = (σ.set j none).set i none
    rw [List.set_set, List.set_set, List.set_comm _ _ hij, List.set_set, List.set_set]
  rw [if_pos rfl]
  refine hk k _ _ _ ?_
  refine hv k _ _ _ ?_
  have e2 := s2 _ _ p2
  refine ⟨_, pairK n2 fd[k], e0.2, rfl, s2 _ _ (p1 _ _ ep), e2, szlt (by unfold tKV; rw [List.length_map, List.length_take]; omega), fun b o hb => ?_, ?_⟩
  · rw [upd_ne (ne_of_none hb hD)]
    exact s2 _ _ (p1 _ _ hb)
  · rw [upd_same, tKV_put nk]
    refine congrArg (fun z => some (HO.dT z)) ?_
    have et : fd.take (k + 1) = fd.take k ++ [fd[k]] := by rw [List.take_succ, hx1]; rfl
    have lt : (fd.take k).length = k := by rw [List.length_take]; omega
    rw [et]
    unfold tKV
    refine List.map_congr_left fun c hc => ?_
    show (pairK n2 c, if c = fd[k] then V.int ((k : Nat) : Int) else V.int ((ixOf (fd.take k) c : Nat) : Int)) = (pairK n2 c, V.int ((ixOf (fd.take k ++ [fd[k]]) c : Nat) : Int))
    by_cases ec : c = fd[k]
    · rw [if_pos ec, ec, ix_last nk, lt]
    · rw [if_neg ec, ix_snoc ((List.mem_append.mp hc).resolve_right fun z => ec (List.mem_singleton.mp z))]
theorem lc_newR {te : TE} {J : It} {n : Nat} {G : Hp → Prop} {it : Nat → V} (RR : Nat → Hp → Addr → Prop) (m1 : ∀ k p H1 H2, RR k H1 p → Same H1 H2 → RR k H2 p) (m2 : ∀ k p H1 H2 D l, RR k H1 p → p ≠ D → H1 D = some (.lst l) → Keep D H1 H2 → RR k H2 p) (w : Walk J n G (fun k H x H' => H' = H ∧ x = it k)) (hG : ∀ H', Same H H' → G H') (hn : n ≤ 1000000)
    (ht : ∀ k, k < n → ∀ H1, Same H H1 → ∀ R : Bool → Hp → Prop, (∀ H2, Same H1 H2 → R true H2) → tt ((wipe σ [i]).set i (some (it k))) H1 R)
    (he : ∀ k, k < n → ∀ H1, Same H H1 → ∀ R : VK, (∀ p H2, H1 p = none → Same H1 H2 → RR k H2 p → R (.ref p) H2) → te ((wipe σ [i]).set i (some (it k))) H1 R)
    (q : ∀ D H' vs, H D = none → Same H H' → H' D = some (.lst vs) → vs.length = n → (∀ (k : Nat) (v : V), vs[k]? = some v → ∃ p, v = .ref p ∧ H p = none ∧ RR k H' p) → P D H') :
    ∀ D, H D = none → ∃ W : Nat → Nat → Hp → Prop, (∃ m, W 0 m (upd H D (.lst []))) ∧ ∀ k m H, W k m H →
      (J.stop k H ∧ P D H) ∨ (J.go k H ∧ ∃ Nx : Hp → Prop, (∀ H', Nx H' → ∃ m', m' < m ∧ W (k + 1) m' H') ∧ ∀ x H', J.yld k H x H' → (gName i) x (wipe σ [i]) H' fun s2 H2 => wipe s2 [i] = wipe σ [i] ∧ tt s2 H2 fun c H3 =>
        if c = true then te s2 H3 fun y H4 => ∃ acc, H4 D = some (.lst acc) ∧ acc.length < sizeLine ∧ Nx (upd H4 D (.lst (acc ++ [y]))) else Nx H3) := by
  intro D hD
  refine lc_it w (vs := [i]) (σ := σ) (g := gName i) (tt := tt) (te := te) (Qd := fun H' => P D H') (fun k H' => Same H H' ∧ ∃ vs, H' D = some (.lst vs) ∧ vs.length = k ∧ ∀ (j : Nat) v, vs[j]? = some v → ∃ p, v = .ref p ∧ p ≠ D ∧ H p = none ∧ RR j H' p)
    ⟨Same.new hD, [], upd_same, rfl, fun j v z => by simp at z⟩ (fun k H' _ p => hG H' p.1) (fun k x H1 H2 hk p y => ?_) (fun H' p => ?_)
  · obtain ⟨p1, vs, p2, p3, p4⟩ := p
    obtain ⟨rfl, rfl⟩ := y
    refine ⟨wipe1, ht k hk _ p1 _ fun H3 s3 => ?_⟩
    rw [if_pos rfl]
    refine he k hk _ (p1.trans s3) _ fun v H4 hv s4 r4 => ?_
    have e4 := s4 _ _ (s3 _ _ p2)
    have nv : v ≠ D := (ne_of_none (s3 _ _ p2) hv).symm
    have kp : ∀ l, Keep D H4 (upd H4 D l) := fun _ => Keep.put
    refine ⟨vs, e4, szlt (by omega), fun a o ha => ?_, vs ++ [.ref v], upd_same, by rw [List.length_append, p3]; rfl, fun j u hj => ?_⟩
    · rw [upd_ne (ne_of_none ha hD)]
      exact s4 _ _ (s3 _ _ (p1 _ _ ha))
    · by_cases c : j < vs.length
      · rw [List.getElem?_append_left c] at hj
        obtain ⟨p, e, np, h0, hp⟩ := p4 j u hj
        exact ⟨p, e, np, h0, m2 _ _ _ _ _ _ (m1 _ _ _ _ hp (s3.trans s4)) np e4 (kp _)⟩
      · have e : j = vs.length := by
          have := (List.getElem?_eq_some_iff.mp hj).1
          rw [List.length_append, List.length_singleton] at this
          omega
        subst e
        rw [List.getElem?_append_right (Nat.le_refl _), Nat.sub_self] at hj
        refine ⟨v, (Option.some.inj hj).symm, nv, Same.free (p1.trans s3) hv, ?_⟩
        rw [p3]
        exact m2 _ _ _ _ _ _ r4 nv e4 (kp _)
  · obtain ⟨p1, vs, p2, p3, p4⟩ := p
    exact q D H' vs hD p1 p2 p3 fun k v h => let ⟨p, e, _, h0, hp⟩ := p4 k v h; ⟨p, e, h0, hp⟩
end
end Cw
set_option Elab.async false
set_option linter.all false
set_option maxRecDepth 100000
set_option maxHeartbeats 4000000
/-! zip(list, list); sep.join(list) -/
namespace Cw
open PySem PySem.Spec L2
section
variable {K : PySem.W.Frag} {σ : L2.St} {H : Hp} {a b : Addr} {xs ys : List V} {ta : TA} {R : It → Hp → Prop}
theorem e_iZip (q : ta σ H fun vs H1 => ∃ a b xs ys, vs = [.ref a, .ref b] ∧ SqL K H1 a xs ∧ SqL K H1 b ys ∧ R (Itz K a b) H1) : iZip K ta σ H R := q
theorem walk_zip (hl : xs.length = ys.length) : Walk (Itz K a b) xs.length (fun H => H a = some (.lst xs) ∧ H b = some (.lst ys)) (fun i H v H' => ∃ T x y, v = .ref T ∧ H T = none ∧ H' = upd H T (.tup [x, y]) ∧ xs[i]? = some x ∧ ys[i]? = some y) := by
  refine ⟨fun i H hi h => ⟨xs, ys, xs[i], ys[i]'(by omega), SqL.of h.1, SqL.of h.2, List.getElem?_eq_getElem hi, List.getElem?_eq_getElem (by omega)⟩, fun H h => ⟨xs, ys, SqL.of h.1, SqL.of h.2, .inl (Nat.le_refl _)⟩, fun i H v H' hi h y => ?_⟩
  obtain ⟨T, x, y, e1, e2, e3, e4, e5⟩ := y
  exact ⟨T, x, y, e1, e2, e3, e4 xs (SqL.of h.1), e5 ys (SqL.of h.2)⟩
end
/-! ### a heap with some objects hidden -/
end Cw
set_option Elab.async false
set_option linter.all false
set_option maxRecDepth 100000
set_option maxHeartbeats 4000000
/-! x + y, x * y of two objects of one own class -/
namespace PySem.W
open PySem PySem.Calls PyProof.Rows Builtin
section
variable {prog : Program} {w : World} {A : Around} {E : Value → Shared → Prop} {s : Shared} {K : Frag} {x y C L f : Addr} {h0 : Heap} {m : Str → Option Value} {ox oy : Obj} {od ody : Option Obj}
end
end PySem.W
namespace Cw
open PySem PySem.Spec L2
section
variable {X : Cx} {CX : CXT} {k : Nat} {C : Addr} {m : Str} {ps : List Str} {sp : Sp} {E : XK}
/-- o op p, of one class, by the class's own method -/
def rMP (C : Addr) (sp : Sp) (E : XK) : R2 := fun x y H Q => ∃ a dx fs b dy gs, x = .ref a ∧ y = .ref b ∧ H a = some (.ins C dx fs) ∧ H b = some (.ins C dy gs) ∧ sp [.ref a, .ref b] H Q E
theorem v_MP {H : Hp} {Q : VK} {a b dx dy : Addr} {fs gs : List (Str × V)} (h : H a = some (.ins C dx fs)) (h2 : H b = some (.ins C dy gs)) (q : sp [.ref a, .ref b] H Q E) : rMP C sp E (.ref a) (.ref b) H Q := ⟨a, dx, fs, b, dy, gs, rfl, rfl, h, h2, q⟩
end
end Cw
set_option Elab.async false
set_option linter.all false
set_option maxRecDepth 100000
set_option maxHeartbeats 4000000
/-! x | y of two objects of one own class -/
namespace PySem.W
open PySem PySem.Calls PyProof.Rows Builtin
section
variable {prog : Program} {w : World} {A : Around} {E : Value → Shared → Prop} {s : Shared} {K : Frag} {x y C L f : Addr} {h0 : Heap} {m : Str → Option Value} {ox oy : Obj} {od ody : Option Obj}
theorem binop_or77 {Q : Value → Shared → Prop} (F : Fr h0 L s.heap m) (X0 : K.In h0) (I : InstAt s.heap x ox C od) (J : InstAt s.heap y oy C ody) (hc : selfFirst K C = true)
    (hs : findIn K (.ref C) (PySem.dunder "or") = some (some (.ref f))) (hf : isFn K (.ref f) = true)
    (h : wpAny (model prog w) A (call (.ref f) [.ref x, .ref y]) (CmpBack Q) E s) : wpAny (model prog w) A (binaryOp .BitOr (.ref x) (.ref y)) Q E s := by
  have X := X0.keeps F.keep
  obtain ⟨cd, hcd, hm⟩ := any_some hc
  obtain ⟨rest, hm⟩ : ∃ rest, cd.mro = .ref C :: rest := by
    cases q : cd.mro with
    | nil => rw [q] at hm; cases hm
    | cons a r => rw [q] at hm; exact ⟨r, by rw [List.head?_cons] at hm; cases (beq_iff_eq.mp hm); rfl⟩
  have ne : (Value.ref C == Value.ref C) = true := by simp
  unfold binaryOp
  refine wpAny_holding (wpAny_bind ?_)
  unfold binaryOp1
  refine wpAny_bind (I.type.here (wpAny_bind (J.type.here (wpAny_bind ((fills_K X hcd hm hs).here ?_)))))
  simp only [ne, if_true]
  refine wpAny_bind (wpAny_pure ?_)
  simp only [Bool.and_false, Bool.false_eq_true, if_false, Bool.false_and]
  refine wpAny_bind (wpAny_pure ?_)
  simp only [Bool.false_eq_true, if_false, if_true]
  refine wpAny_bind (m := tryMethod (.ref x) _ (.ref y)) ?_
  unfold tryMethod
  refine wpAny_bind (special_fn X I hs (beq_iff_eq.mp hf) (wpAny_mono h (fun v s' hv => ?_) fun _ _ e => e))
  cases v <;> first | exact hv.elim | exact wpAny_pure (wpAny_pure (wpAny_pure hv))
end
end PySem.W
namespace Cw
open PySem PySem.Spec L2
section
variable {X : Cx} {CX : CXT} {k : Nat} {C C' : Addr} {m : Str} {ps : List Str} {sp : Sp} {E : XK}
theorem op_orM2 (D : MDef X.prog X.w X.K X.mg X.base CX k C "__or__" ps sp) (hc : PySem.W.selfFirst X.K C = true) (hr : Room k X.A) (hx : Passes CX X E) : OpR X (binaryOp .BitOr) (rMP C sp E) := by
  obtain ⟨f, fd, h1, h2, kp, ⟨hb, _⟩, F⟩ := D.ex
  intro pins s σ H x y v u Q I rx ry h
  obtain ⟨a, dx, fs, b, dy, gs, rfl, rfl, ha, hb', hq⟩ := h
  cases rx
  cases ry
  obtain ⟨mA, J, _⟩ := ins_get I.hok ha
  obtain ⟨od, J, _⟩ := J.look
  obtain ⟨mB, J2, _⟩ := ins_get I.hok hb'
  obtain ⟨od2, J2, _⟩ := J2.look
  obtain ⟨mm, hF⟩ := I.fr
  refine PySem.W.binop_or77 hF I.ok.mod.kin J J2 hc h1 h2 ?_
  have z := run_fn (us := [.ref a, .ref b]) (vs := [.ref a, .ref b]) (dvs := []) F hr hb .nil hx I (.cons rfl (.cons rfl .nil)) hq
  refine wpAny_mono z (fun v s' q => ?_) fun _ _ q => q
  obtain ⟨y, H', I', r, q⟩ := q
  have k : EP X pins σ Q v s' := ⟨y, H', I', r, q⟩
  cases v <;> first | exact k | (exfalso; cases y <;> first | (obtain ⟨_, r⟩ := r; cases r) | cases r)
end
end Cw
set_option Elab.async false
set_option linter.all false
set_option maxRecDepth 100000
set_option maxHeartbeats 4000000
/-! x & y, x <= y of two objects of one own class -/
namespace PySem.W
open PySem PySem.Calls PyProof.Rows Builtin
section
variable {prog : Program} {w : World} {A : Around} {E : Value → Shared → Prop} {s : Shared} {K : Frag} {x y C L f : Addr} {h0 : Heap} {m : Str → Option Value} {ox oy : Obj} {od ody : Option Obj}
theorem binop_and {Q : Value → Shared → Prop} (F : Fr h0 L s.heap m) (X0 : K.In h0) (I : InstAt s.heap x ox C od) (J : InstAt s.heap y oy C ody) (hc : selfFirst K C = true)
    (hs : findIn K (.ref C) (PySem.dunder "and") = some (some (.ref f))) (hf : isFn K (.ref f) = true)
    (h : wpAny (model prog w) A (call (.ref f) [.ref x, .ref y]) (CmpBack Q) E s) : wpAny (model prog w) A (binaryOp .BitAnd (.ref x) (.ref y)) Q E s := by
  have X := X0.keeps F.keep
  obtain ⟨cd, hcd, hm⟩ := any_some hc
  obtain ⟨rest, hm⟩ : ∃ rest, cd.mro = .ref C :: rest := by
    cases q : cd.mro with
    | nil => rw [q] at hm; cases hm
    | cons a r => rw [q] at hm; exact ⟨r, by rw [List.head?_cons] at hm; cases (beq_iff_eq.mp hm); rfl⟩
  have ne : (Value.ref C == Value.ref C) = true := by simp
  unfold binaryOp
  refine wpAny_holding (wpAny_bind ?_)
  unfold binaryOp1
  refine wpAny_bind (I.type.here (wpAny_bind (J.type.here (wpAny_bind ((fills_K X hcd hm hs).here ?_)))))
  simp only [ne, if_true]
  refine wpAny_bind (wpAny_pure ?_)
  simp only [Bool.and_false, Bool.false_eq_true, if_false, Bool.false_and]
  refine wpAny_bind (wpAny_pure ?_)
  simp only [Bool.false_eq_true, if_false, if_true]
  refine wpAny_bind (m := tryMethod (.ref x) _ (.ref y)) ?_
  unfold tryMethod
  refine wpAny_bind (special_fn X I hs (beq_iff_eq.mp hf) (wpAny_mono h (fun v s' hv => ?_) fun _ _ e => e))
  cases v <;> first | exact hv.elim | exact wpAny_pure (wpAny_pure (wpAny_pure hv))
end
end PySem.W
namespace Cw
open PySem PySem.Spec L2
section
variable {X : Cx} {CX : CXT} {k : Nat} {C C' : Addr} {m : Str} {ps : List Str} {sp : Sp} {E : XK}
theorem op_andM2 (D : MDef X.prog X.w X.K X.mg X.base CX k C "__and__" ps sp) (hc : PySem.W.selfFirst X.K C = true) (hr : Room k X.A) (hx : Passes CX X E) : OpR X (binaryOp .BitAnd) (rMP C sp E) := by
  obtain ⟨f, fd, h1, h2, kp, ⟨hb, _⟩, F⟩ := D.ex
  intro pins s σ H x y v u Q I rx ry h
  obtain ⟨a, dx, fs, b, dy, gs, rfl, rfl, ha, hb', hq⟩ := h
  cases rx
  cases ry
  obtain ⟨mA, J, _⟩ := ins_get I.hok ha
  obtain ⟨od, J, _⟩ := J.look
  obtain ⟨mB, J2, _⟩ := ins_get I.hok hb'
  obtain ⟨od2, J2, _⟩ := J2.look
  obtain ⟨mm, hF⟩ := I.fr
  refine PySem.W.binop_and hF I.ok.mod.kin J J2 hc h1 h2 ?_
  have z := run_fn (us := [.ref a, .ref b]) (vs := [.ref a, .ref b]) (dvs := []) F hr hb .nil hx I (.cons rfl (.cons rfl .nil)) hq
  refine wpAny_mono z (fun v s' q => ?_) fun _ _ q => q
  obtain ⟨y, H', I', r, q⟩ := q
  have k : EP X pins σ Q v s' := ⟨y, H', I', r, q⟩
  cases v <;> first | exact k | (exfalso; cases y <;> first | (obtain ⟨_, r⟩ := r; cases r) | cases r)
end
end Cw
set_option Elab.async false
set_option linter.all false
set_option maxRecDepth 100000
set_option maxHeartbeats 4000000
/-! the middle of three rooms, in plain words -/
namespace Cw
section
variable {f : Nat → List Nat} {ls : List Nat} {s t c : Nat}
/-- the mark has a coordinate below nought -/
def Ng (f : Nat → List Nat) (ls : List Nat) (w : List Nat) (s : Nat) : Prop := ∃ x ∈ ls, mark f w s x < 0
theorem ng_desc (ok : CrOk f) {w : List Nat} (hr : Red f w) (hw : ∀ y ∈ w, y ∈ ls) (hs : s ∈ ls) : Ng f ls w s ↔ desc f s w := mark_neg ok hr hw hs
theorem ng_name (ok : CrOk f) (w : List Nat) (s : Nat) : Ng f ls (nameOf f w) s ↔ Ng f ls w s := by
  unfold Ng mark
  simp only [name_act ok]
theorem ng_act {v w : List Nat} (h : ∀ g, act f v g = act f w g) (s : Nat) : Ng f ls v s ↔ Ng f ls w s := by
  unfold Ng mark
  simp only [h]
theorem desc_left {s : Nat} {b : List Nat} : ∀ {a : List Nat}, desc f s a → desc f s (a ++ b)
  | [], h => h.elim
  | y :: a, h => by
    rcases h with h | ⟨h1, h2⟩
    · exact .inl h
    · exact .inr ⟨h1, desc_left h2⟩
end
end Cw
set_option Elab.async false
set_option linter.all false
set_option maxRecDepth 100000
set_option maxHeartbeats 4000000
/-! the room between each two of three -/
namespace Cw
section
variable {f : Nat → List Nat} {ls : List Nat} {s t k : Nat}
/-- one letter less -/
theorem erase_desc (ok : CrOk f) {w : List Nat} (h : desc f k w) : ∃ p q, w = p ++ k :: q ∧ (∀ y ∈ p, y ∈ f k) ∧ w.erase k = p ++ q := by
  obtain ⟨p, q, rfl, hp⟩ := desc_split h
  refine ⟨p, q, rfl, hp, ?_⟩
  rw [List.erase_append_right _ fun z => ok.irr k (hp k z), List.erase_cons_head]
theorem erase_red (ok : CrOk f) {w : List Nat} (h : desc f k w) (hr : Red f w) : Red f (w.erase k) := by
  obtain ⟨p, q, rfl, hp, e⟩ := erase_desc ok h
  rw [e]
  exact Red_out ok hp hr
theorem erase_act (ok : CrOk f) {w : List Nat} (h : desc f k w) (g : Nat → Int) : act f (k :: w.erase k) g = act f w g := by
  obtain ⟨p, q, rfl, hp, e⟩ := erase_desc ok h
  rw [e]
  show thr f k (act f (p ++ q) g) = _
  rw [act_app, act_app]
  show _ = act f p (thr f k (act f q g))
  rw [act_comm ok hp]
theorem erase_len {w : List Nat} (h : desc f k w) : (w.erase k).length + 1 = w.length := by
  obtain ⟨p, q, rfl, hp⟩ := desc_split h
  have : k ∈ p ++ k :: q := List.mem_append_right _ (List.mem_cons_self ..)
  rw [List.length_erase_of_mem this]
  have : 0 < (p ++ k :: q).length := by rw [List.length_append, List.length_cons]; omega
  omega
/-- what is in common at the beginning of two ways, and the rests -/
structure Share (f : Nat → List Nat) (ls u v fd u' v' : List Nat) : Prop where
  au : ∀ g, act f u g = act f (fd ++ u') g
  av : ∀ g, act f v g = act f (fd ++ v') g
  ru : Red f u'
  rv : Red f v'
  mu : ∀ y ∈ u', y ∈ ls
  mv : ∀ y ∈ v', y ∈ ls
  mf : ∀ y ∈ fd, y ∈ ls
  lu : fd.length + u'.length = u.length
  lv : fd.length + v'.length = v.length
theorem Share.start {u v : List Nat} (ru : Red f u) (rv : Red f v) (mu : ∀ y ∈ u, y ∈ ls) (mv : ∀ y ∈ v, y ∈ ls) : Share f ls u v [] u v := ⟨fun _ => rfl, fun _ => rfl, ru, rv, mu, mv, fun _ z => (nomatch z), by simp, by simp⟩
theorem Share.step (ok : CrOk f) {u v fd u' v' : List Nat} (h : Share f ls u v fd u' v') (hk : k ∈ ls) (hu : desc f k u') (hv : desc f k v') : Share f ls u v (fd ++ [k]) (u'.erase k) (v'.erase k) where
  au := fun g => by rw [h.au, List.append_assoc, act_app, act_app]; show _ = act f fd (act f (k :: u'.erase k) g); rw [erase_act ok hu]
  av := fun g => by rw [h.av, List.append_assoc, act_app, act_app]; show _ = act f fd (act f (k :: v'.erase k) g); rw [erase_act ok hv]
  ru := erase_red ok hu h.ru
  rv := erase_red ok hv h.rv
  mu := fun y hy => h.mu y (List.mem_of_mem_erase hy)
  mv := fun y hy => h.mv y (List.mem_of_mem_erase hy)
  mf := fun y hy => (List.mem_append.mp hy).elim (h.mf y) fun z => by rw [List.mem_singleton.mp z]; exact hk
  lu := by
    have := erase_len hu
    have := h.lu
    rw [List.length_append, List.length_singleton]
    omega
  lv := by
    have := erase_len hv
    have := h.lv
    rw [List.length_append, List.length_singleton]
    omega
/-- the middle of three rooms, by all walls -/
structure Mid (f : Nat → List Nat) (ls a b c M : List Nat) : Prop where
  nf : NF f M
  mem : ∀ y ∈ M, y ∈ ls
  by' : ∀ z : List Nat, (∀ y ∈ z, y ∈ ls) → ∀ s ∈ ls, (Ng f ls (z ++ M) s ↔ (Ng f ls (z ++ a) s ∧ Ng f ls (z ++ b) s) ∨ (Ng f ls (z ++ a) s ∧ Ng f ls (z ++ c) s) ∨ (Ng f ls (z ++ b) s ∧ Ng f ls (z ++ c) s))
theorem ng_nil {s : Nat} : ¬ Ng f ls [] s := by
  rintro ⟨x, _, h⟩
  have h : unit x s < 0 := h
  unfold unit at h
  split at h <;> omega
theorem ng_back (ok : CrOk f) (m : List Nat) (s : Nat) : ¬ Ng f ls (m.reverse ++ m) s := fun z => ng_nil (f := f) (ls := ls) (s := s) ((ng_act (w := []) (fun g => by rw [act_app, act_rev ok]; rfl) s).mp z)
/-- rooms that no wall parts are one -/
theorem room_uniq (ok : CrOk f) {M N : List Nat} (hM : NF f M) (hN : NF f N) (mM : ∀ y ∈ M, y ∈ ls) (mN : ∀ y ∈ N, y ∈ ls) (h : ∀ s ∈ ls, ¬ Ng f ls (M.reverse ++ N) s) : M = N := by
  have hw : ∀ y ∈ wayC f M N, y ∈ ls := fun y hy => by
    rcases List.mem_append.mp (name_mem hy) with z | z
    · exact mM y (List.mem_reverse.mp z)
    · exact mN y z
  have e : wayC f M N = [] := by
    cases hc : wayC f M N with
    | nil => rfl
    | cons t r =>
      exfalso
      have ht : t ∈ ls := hw t (by rw [hc]; exact List.mem_cons_self ..)
      refine h t ht ((ng_name ok _ t).mp ((ng_desc ok (name_NF ok _).red hw ht).mpr ?_))
      show desc f t (wayC f M N)
      rw [hc]
      exact .inl rfl
  have := way_goes ok M N
  rw [e, List.append_nil] at this
  have e1 : nameOf f M = M := (is_NF ok).mpr hM
  have e2 : nameOf f N = N := (is_NF ok).mpr hN
  rw [e1, e2] at this
  exact this
theorem Mid.uniq (ok : CrOk f) {a b c a' b' c' M N : List Nat} (h : Mid f ls a b c M) (h' : Mid f ls a' b' c' N)
    (hp : ∀ z : List Nat, (∀ y ∈ z, y ∈ ls) → ∀ s ∈ ls, (((Ng f ls (z ++ a) s ∧ Ng f ls (z ++ b) s) ∨ (Ng f ls (z ++ a) s ∧ Ng f ls (z ++ c) s) ∨ (Ng f ls (z ++ b) s ∧ Ng f ls (z ++ c) s)) ↔ ((Ng f ls (z ++ a') s ∧ Ng f ls (z ++ b') s) ∨ (Ng f ls (z ++ a') s ∧ Ng f ls (z ++ c') s) ∨ (Ng f ls (z ++ b') s ∧ Ng f ls (z ++ c') s)))) : M = N := by
  refine room_uniq (ls := ls) ok h.nf h'.nf h.mem h'.mem fun s hs z => ng_back (ls := ls) ok M s ?_
  have mz : ∀ y ∈ M.reverse, y ∈ ls := fun y hy => h.mem y (List.mem_reverse.mp hy)
  exact (h.by' _ mz s hs).mpr ((hp _ mz s hs).mpr ((h'.by' _ mz s hs).mp z))
end
end Cw
set_option Elab.async false
set_option linter.all false
set_option maxRecDepth 100000
set_option maxHeartbeats 4000000
/-! the product of two marks: how two walls lie -/
namespace Cw
section
variable {f : Nat → List Nat} {ls : List Nat} {s t c : Nat}
/-! ### the kind of a wall by its mark -/
theorem act_par (f : Nat → List Nat) (g : Nat → Int) : ∀ (w : List Nat) (s : Nat), ∃ k : Int, act f w g s = g s + 2 * k
  | [], s => ⟨0, by show g s = _; omega⟩
  | d :: r, s => by
    obtain ⟨k, h⟩ := act_par f g r s
    obtain ⟨j, h'⟩ := act_par f g r d
    show ∃ k : Int, thr f d (act f r g) s = _
    unfold thr
    split
    · rename_i e
      refine ⟨- g d - j, ?_⟩
      rw [h', e]
      omega
    · split
      · exact ⟨k, h⟩
      · refine ⟨k + (g d + 2 * j), ?_⟩
        rw [h, h']
        omega
theorem root_kind {v w : List Nat} (hs : s ∈ ls) (h : ∀ x ∈ ls, act f v (unit x) s = act f w (unit x) t) : s = t := by
  have h := h s hs
  obtain ⟨k, e1⟩ := act_par f (unit s) v s
  obtain ⟨j, e2⟩ := act_par f (unit s) w t
  rw [e1, e2] at h
  unfold unit at h
  rw [if_pos rfl] at h
  by_cases e : t = s
  · exact e.symm
  · rw [if_neg e] at h
    omega
/-! ### the product -/
def bt (f : Nat → List Nat) (t : Nat) : Nat → Int := fun e => if e = t then 1 else if e ∈ f t then 0 else -1
theorem bt_self : bt f t t = 1 := if_pos rfl
theorem bt_in (ok : CrOk f) (h : s ∈ f t) : bt f t s = 0 := by
  unfold bt
  rw [if_neg fun z : s = t => ok.irr t (z ▸ h), if_pos h]
theorem bt_out (h : s ≠ t) (h2 : ¬ s ∈ f t) : bt f t s = -1 := by
  unfold bt
  rw [if_neg h, if_neg h2]
theorem col_eq (ok : CrOk f) (x : Nat) : thr f c (unit c) x = unit c x - 2 * bt f x c := by
  have u1 : unit c c = 1 := if_pos rfl
  unfold thr
  by_cases e : x = c
  · rw [if_pos e, e, u1, bt_self]
    rfl
  · have u2 : unit c x = 0 := if_neg e
    rw [if_neg e, u1, u2]
    by_cases h : x ∈ f c
    · rw [if_pos h, bt_in ok (ok.sym _ _ h)]
      rfl
    · rw [if_neg h, bt_out (fun z => e z.symm) fun z => h (ok.sym _ _ z)]
      rfl
theorem psi_act (hn : ls.Nodup) (ok : CrOk f) (ht : t ∈ ls) : ∀ {n : List Nat} {e : Nat}, (∀ y ∈ n, y ∈ ls) → e ∈ ls → sumL ls (fun y => mark f n.reverse t y * bt f y e) = act f n (bt f t) e
  | [], e, _, he => by
    have h := sumL_unit (g := fun y => bt f y e) hn ht
    rw [← show bt f t e = act f [] (bt f t) e from rfl, ← h]
    exact sumL_congr fun y _ => by
      show unit y t * bt f y e = bt f y e * unit y t
      rw [Int.mul_comm]
  | c :: n, e, hw, he => by
    have hc := hw c (List.mem_cons_self ..)
    have hn' : ∀ y ∈ n, y ∈ ls := fun y hy => hw y (List.mem_cons_of_mem _ hy)
    have hnr : ∀ y ∈ n.reverse, y ∈ ls := fun y hy => hn' y (List.mem_reverse.mp hy)
    have ie := psi_act hn ok ht hn' he
    have ic := psi_act hn ok ht hn' hc
    have key : ∀ y ∈ ls, mark f (c :: n).reverse t y = 1 * mark f n.reverse t y + (-2 * act f n (bt f t) c) * unit y c := by
      intro y hy
      have e1 : mark f (c :: n).reverse t y = act f n.reverse (thr f c (unit y)) t := by
        unfold mark
        rw [List.reverse_cons, act_app]
        rfl
      by_cases hyc : y = c
      · subst hyc
        rw [e1, act_lin hn ok _ hnr ht, show unit y y = 1 from if_pos rfl, ← ic]
        have e2 : sumL ls (fun x => thr f y (unit y) x * mark f n.reverse t x) = sumL ls fun x => 1 * (mark f n.reverse t x * unit x y) + (-2) * (mark f n.reverse t x * bt f x y) := sumL_congr fun x _ => by
          have u : unit y x = unit x y := by
            unfold unit
            by_cases q : x = y
            · rw [if_pos q, if_pos q.symm]
            · rw [if_neg q, if_neg fun z => q z.symm]
          rw [col_eq ok, u, Int.sub_mul, Int.mul_comm (unit x y), Int.mul_assoc, Int.mul_comm (bt f x y)]
          omega
        rw [e2, sumL_comb, sumL_unit (g := fun x => mark f n.reverse t x) hn hc]
        omega
      · rw [e1, show thr f c (unit y) = unit y from funext fun e => unit_thr hyc, show unit y c = 0 from if_neg fun z => hyc z.symm]
        show mark f n.reverse t y = _
        omega
    have e3 : sumL ls (fun y => mark f (c :: n).reverse t y * bt f y e) = sumL ls fun y => 1 * (mark f n.reverse t y * bt f y e) + (-2 * act f n (bt f t) c) * (bt f y e * unit y c) := sumL_congr fun y hy => by
      rw [key y hy, Int.add_mul, Int.mul_assoc, Int.mul_assoc, Int.mul_comm (unit y c)]
    rw [e3, sumL_comb, ie, sumL_unit (g := fun y => bt f y e) hn hc]
    show _ = thr f c (act f n (bt f t)) e
    by_cases h1 : e = c
    · rw [h1, thr_self, bt_self]
      omega
    · by_cases h2 : e ∈ f c
      · rw [thr_cr ok h2, bt_in ok h2]
        omega
      · rw [thr_not h1 h2, bt_out h1 h2]
        omega
/-! ### its sign -/
/-- no door of the kind t, or of one that crosses it, leads back -/
structure Strt (f : Nat → List Nat) (t : Nat) (v : List Nat) : Prop where
  red : Red f v
  td : ¬ desc f t v.reverse
  fr : ∀ y ∈ f t, ¬ desc f y v.reverse
theorem Strt.tail {v : List Nat} (h : Strt f t (c :: v)) : Strt f t v where
  red := h.red.2
  td := fun z => h.td (by rw [List.reverse_cons]; exact desc_left z)
  fr := fun y hy z => h.fr y hy (by rw [List.reverse_cons]; exact desc_left z)
theorem desc_mem {s : Nat} : ∀ {w : List Nat}, desc f s w → s ∈ w
  | [], h => h.elim
  | y :: w, h => by
    rcases h with h | ⟨_, h⟩
    · exact h ▸ List.mem_cons_self ..
    · exact List.mem_cons_of_mem _ (desc_mem h)
theorem desc_thru (ok : CrOk f) {y : Nat} {pr : List Nat} (hp : ∀ z ∈ pr, z ∈ f s) : ∀ {qr : List Nat}, desc f y (qr ++ pr) → desc f y (qr ++ s :: pr)
  | [], h => .inr ⟨ok.sym _ _ (hp y (desc_mem h)), h⟩
  | z :: qr, h => by
    rcases h with h | ⟨h1, h2⟩
    · exact .inl h
    · exact .inr ⟨h1, desc_thru ok hp h2⟩
theorem Strt.out (ok : CrOk f) {p q : List Nat} (hp : ∀ y ∈ p, y ∈ f s) (h : Strt f t (p ++ s :: q)) : Strt f t (p ++ q) := by
  have key : ∀ y, desc f y (p ++ q).reverse → desc f y (p ++ s :: q).reverse := by
    intro y z
    rw [List.reverse_append] at z
    have e : (p ++ s :: q).reverse = q.reverse ++ s :: p.reverse := by simp
    rw [e]
    exact desc_thru ok (fun w hw => hp w (List.mem_reverse.mp hw)) z
  exact ⟨Red_out ok hp h.red, fun z => h.td (key _ z), fun y hy z => h.fr y hy (key y z)⟩
theorem neg_start (ok : CrOk f) {p q : List Nat} (st : Strt f t (p ++ s :: q)) (hp : ∀ y ∈ p, y ∈ f s) (i1 : ¬ (p ++ q = [] ∧ s = t) → act f (p ++ q) (bt f t) s ≤ 0 ∧ (act f (p ++ q) (bt f t) s = 0 → (∀ y ∈ p ++ q, y ∈ f s) ∧ t ∈ f s)) : act f (p ++ q) (bt f t) s ≤ -1 := by
  have er : (p ++ s :: q).reverse = q.reverse ++ s :: p.reverse := by simp
  have ex : ¬ (p ++ q = [] ∧ s = t) := by
    rintro ⟨e1, rfl⟩
    obtain ⟨rfl, rfl⟩ := List.append_eq_nil_iff.mp e1
    exact st.td (.inl rfl)
  obtain ⟨a1, a2⟩ := i1 ex
  by_cases z : act f (p ++ q) (bt f t) s = 0
  · obtain ⟨b1, b2⟩ := a2 z
    refine absurd ?_ (st.fr s (ok.sym _ _ b2))
    rw [er]
    exact desc_of fun y hy => b1 y (List.mem_append_right _ (List.mem_reverse.mp hy))
  · omega
theorem bsign (ok : CrOk f) (ht : t ∈ ls) : ∀ (n : Nat) (v : List Nat), v.length = n → Strt f t v → (∀ y ∈ v, y ∈ ls) →
    (∀ s ∈ ls, ¬ desc f s v → ¬ (v = [] ∧ s = t) → act f v (bt f t) s ≤ 0 ∧ (act f v (bt f t) s = 0 → (∀ y ∈ v, y ∈ f s) ∧ t ∈ f s)) ∧
    (∀ s ∈ ls, ∀ c ∈ ls, s ≠ c → ¬ s ∈ f c → desc f s v → ¬ desc f c v → ∀ a b : Int, 0 ≤ a → a < b → a * act f v (bt f t) s + b * act f v (bt f t) c < 0) := by
  intro n
  induction n using Nat.strongRecOn with
  | ind n ih =>
    intro v hv st hm
    refine ⟨fun s hs hd he => ?_, fun s hs c hc ne nc hd hd2 a b ha hab => ?_⟩
    · cases v with
      | nil =>
        have hst : s ≠ t := fun z => he ⟨rfl, z⟩
        show bt f t s ≤ 0 ∧ (bt f t s = 0 → _)
        by_cases c : s ∈ f t
        · rw [bt_in ok c]
          exact ⟨by omega, fun _ => ⟨fun _ z => (nomatch z), ok.sym _ _ c⟩⟩
        · rw [bt_out hst c]
          exact ⟨by omega, fun z => by omega⟩
      | cons c v =>
        have hl : v.length < n := by rw [← hv]; simp
        have hc : c ∈ ls := hm c (List.mem_cons_self ..)
        have ne : s ≠ c := fun z => hd (.inl z.symm)
        have rc : ¬ desc f c v := st.red.1
        obtain ⟨i1, i2⟩ := ih v.length hl v rfl st.tail fun y hy => hm y (List.mem_cons_of_mem _ hy)
        by_cases hsc : s ∈ f c
        · have e : act f (c :: v) (bt f t) s = act f v (bt f t) s := thr_cr ok hsc
          rw [e]
          have hcs := ok.sym _ _ hsc
          have ex : ¬ (v = [] ∧ s = t) := by
            rintro ⟨rfl, rfl⟩
            exact st.fr c hcs (.inl rfl)
          obtain ⟨a1, a2⟩ := i1 s hs (fun z => hd (.inr ⟨hcs, z⟩)) ex
          refine ⟨a1, fun z => ⟨fun y hy => ?_, (a2 z).2⟩⟩
          rcases List.mem_cons.mp hy with rfl | hy
          · exact hcs
          · exact (a2 z).1 y hy
        · have e : act f (c :: v) (bt f t) s = act f v (bt f t) s + 2 * act f v (bt f t) c := thr_not ne hsc
          rw [e]
          have pc : act f v (bt f t) c ≤ -1 := by
            have ex : ¬ (v = [] ∧ c = t) := by
              rintro ⟨rfl, rfl⟩
              exact st.td (.inl rfl)
            obtain ⟨a1, a2⟩ := i1 c hc rc ex
            by_cases z : act f v (bt f t) c = 0
            · obtain ⟨b1, b2⟩ := a2 z
              refine absurd ?_ (st.fr c (ok.sym _ _ b2))
              rw [List.reverse_cons]
              exact desc_of fun y hy => b1 y (List.mem_reverse.mp hy)
            · omega
          by_cases ds : desc f s v
          · have := i2 s hs c hc ne hsc ds rc 1 2 (by decide) (by decide)
            exact ⟨by omega, fun z => by omega⟩
          · by_cases ex : v = [] ∧ s = t
            · have : act f v (bt f t) s = 1 := by
                rw [ex.1, ex.2]
                exact bt_self
              exact ⟨by omega, fun z => by omega⟩
            · have := (i1 s hs ds ex).1
              exact ⟨by omega, fun z => by omega⟩
    · obtain ⟨p, q, rfl, hp⟩ := desc_split hd
      have su := st.out ok hp
      have nds : ¬ desc f s (p ++ q) := by
        rw [desc_pass ok hp]
        exact (Red_right st.red).1
      have eu : ∀ g, act f (p ++ s :: q) g = thr f s (act f (p ++ q) g) := fun g => by
        rw [act_app, act_app]
        show act f p (thr f s (act f q g)) = _
        rw [act_comm ok hp]
      have hl : (p ++ q).length < n := by
        rw [← hv]
        simp only [List.length_append, List.length_cons]
        omega
      obtain ⟨i1, i2⟩ := ih (p ++ q).length hl (p ++ q) rfl su fun y hy => hm y ((List.mem_append.mp hy).elim (fun z => List.mem_append_left _ z) fun z => List.mem_append_right _ (List.mem_cons_of_mem _ z))
      have nc' : ¬ c ∈ f s := fun z => nc (ok.sym _ _ z)
      rw [eu, thr_self, thr_not ne.symm nc']
      have ps := neg_start ok st hp (i1 s hs nds)
      by_cases dc : desc f c (p ++ q)
      · have := i2 c hc s hs ne.symm nc' dc nds b (2 * b - a) (by omega) (by omega)
        rw [Int.sub_mul, Int.mul_assoc] at this
        rw [Int.mul_neg, Int.mul_add, ← Int.mul_assoc, Int.mul_comm b 2, Int.mul_assoc]
        omega
      · by_cases ex : p ++ q = [] ∧ c = t
        · have e1 : act f (p ++ q) (bt f t) c = 1 := by
            rw [ex.1, ex.2]
            exact bt_self
          have e2 : act f (p ++ q) (bt f t) s = -1 := by
            rw [ex.1]
            exact bt_out (ex.2 ▸ ne) (ex.2 ▸ nc)
          rw [e1, e2]
          omega
        · have h1 := (i1 c hc dc ex).1
          have h2 : b * act f (p ++ q) (bt f t) c ≤ 0 := Int.mul_nonpos_of_nonneg_of_nonpos (by omega) h1
          have h3 : (2 * b - a) * act f (p ++ q) (bt f t) s < 0 := Int.mul_neg_of_pos_of_neg (by omega) (by omega)
          rw [Int.sub_mul, Int.mul_assoc] at h3
          rw [Int.mul_neg, Int.mul_add, ← Int.mul_assoc, Int.mul_comm b 2, Int.mul_assoc]
          omega
/-- how the wall of the kind s at home lies to the wall (v, t) -/
theorem b_pos (ok : CrOk f) (ht : t ∈ ls) {v : List Nat} (st : Strt f t v) (hm : ∀ y ∈ v, y ∈ ls) (hs : s ∈ ls) (hd : desc f s v) : 0 < act f v (bt f t) s := by
  obtain ⟨p, q, rfl, hp⟩ := desc_split hd
  have su := st.out ok hp
  have nds : ¬ desc f s (p ++ q) := by
    rw [desc_pass ok hp]
    exact (Red_right st.red).1
  have eu : ∀ g, act f (p ++ s :: q) g = thr f s (act f (p ++ q) g) := fun g => by
    rw [act_app, act_app]
    show act f p (thr f s (act f q g)) = _
    rw [act_comm ok hp]
  have i1 := (bsign ok ht _ (p ++ q) rfl su fun y hy => hm y ((List.mem_append.mp hy).elim (fun z => List.mem_append_left _ z) fun z => List.mem_append_right _ (List.mem_cons_of_mem _ z))).1 s hs nds
  have := neg_start ok st hp i1
  rw [eu, thr_self]
  omega
theorem b_zero (ok : CrOk f) (ht : t ∈ ls) {v : List Nat} (st : Strt f t v) (hm : ∀ y ∈ v, y ∈ ls) (hs : s ∈ ls) (ex : ¬ (v = [] ∧ s = t)) : act f v (bt f t) s = 0 ↔ (∀ y ∈ v, y ∈ f s) ∧ t ∈ f s := by
  constructor
  · intro h
    by_cases hd : desc f s v
    · have := b_pos ok ht st hm hs hd
      omega
    · exact ((bsign ok ht _ v rfl st hm).1 s hs hd ex).2 h
  · rintro ⟨h1, h2⟩
    have := mark_along (f := f) (s := s) (g := bt f t) (v := []) ok h1
    rw [List.append_nil] at this
    rw [this]
    exact bt_in ok (ok.sym _ _ h2)
end
end Cw
set_option Elab.async false
set_option linter.all false
set_option maxRecDepth 100000
set_option maxHeartbeats 4000000
/-! how two walls lie, by the product of their marks -/
namespace Cw
section
variable {f : Nat → List Nat} {ls : List Nat} {s t c : Nat}
theorem near_split (ok : CrOk f) {u : List Nat} (hd : desc f t u.reverse) : (∀ g, act f u g = act f (nearC f u t ++ [t]) g) ∧ (nearC f u t).length + 1 = u.length := by
  unfold nearC
  rw [if_pos hd]
  refine ⟨fun g => ?_, (step_len_desc ok u t).1 hd⟩
  rw [act_app, act_step ok, act_app]
  show act f u g = act f u (thr f t (thr f t g))
  rw [thr_thr ok]
theorem near_same {u : List Nat} (hd : ¬ desc f t u.reverse) : nearC f u t = u := by
  unfold nearC
  rw [if_neg hd]
theorem start_split (ok : CrOk f) (u : List Nat) (t : Nat) : ∃ y, (∀ z ∈ y, z ∈ f t) ∧ (∀ z ∈ y, z ∈ nearC f u t) ∧ (∀ g, act f (nearC f u t) g = act f (startC f u t ++ y) g) ∧ (startC f u t).length + y.length = (nearC f u t).length := by
  refine ⟨(splitA f (f t) (nearC f u t).reverse).1.reverse, fun z hz => splitA_in f _ _ z (List.mem_reverse.mp hz), fun z hz => List.mem_reverse.mp (splitA_mem1 f _ _ z (List.mem_reverse.mp hz)), fun g => ?_, ?_⟩
  · have h := act_rev_eq ok (fun g => splitA_act ok g (nearC f u t).reverse (f t)) g
    rw [List.reverse_append, List.reverse_reverse] at h
    exact h.symm
  · have h := splitA_len f (nearC f u t).reverse (f t)
    unfold startC
    rw [List.length_reverse] at *
    rw [List.length_reverse]
    omega
theorem Strt.of (ok : CrOk f) {u : List Nat} (hu : NF f u) (t : Nat) : Strt f t (startC f u t) := ⟨(start_NF ok hu t).red, start_not ok hu t, start_free ok u t⟩
theorem st_mem {u : List Nat} (mu : ∀ y ∈ u, y ∈ ls) (ht : t ∈ ls) : ∀ y ∈ startC f u t, y ∈ ls := fun y hy => (start_mem hy).elim (fun z => z ▸ ht) (mu y)
theorem nr_mem {u : List Nat} (mu : ∀ y ∈ u, y ∈ ls) (ht : t ∈ ls) : ∀ y ∈ nearC f u t, y ∈ ls := fun y hy => (near_mem hy).elim (fun z => z ▸ ht) (mu y)
theorem b_eq (hn : ls.Nodup) (ok : CrOk f) {u : List Nat} (mu : ∀ y ∈ u, y ∈ ls) (hs : s ∈ ls) (ht : t ∈ ls) : act f u (bt f t) s = if desc f t u.reverse then - act f (startC f u t) (bt f t) s else act f (startC f u t) (bt f t) s := by
  rw [← psi_act hn ok ht mu hs, ← psi_act hn ok ht (st_mem mu ht) hs]
  have e : ∀ y, mark f (startC f u t).reverse t y = if desc f t u.reverse then - mark f u.reverse t y else mark f u.reverse t y := fun y => by
    unfold mark
    rw [start_mark ok, near_mark ok]
  by_cases hd : desc f t u.reverse
  · rw [if_pos hd]
    have e2 : sumL ls (fun y => mark f (startC f u t).reverse t y * bt f y s) = sumL ls fun y => (-1) * (mark f u.reverse t y * bt f y s) + 0 * 0 := sumL_congr fun y _ => by
      rw [e, if_pos hd, Int.neg_mul]
      omega
    rw [e2, sumL_comb (-1) 0 (fun y => mark f u.reverse t y * bt f y s) (fun _ => 0)]
    omega
  · rw [if_neg hd]
    exact sumL_congr fun y _ => by rw [e, if_neg hd]
/-! ### two walls -/
structure W2 (f : Nat → List Nat) (ls : List Nat) (m : List Nat) (s : Nat) (n : List Nat) (t : Nat) : Prop where
  nd : ls.Nodup
  ok : CrOk f
  hs : s ∈ ls
  ht : t ∈ ls
  m1 : NF f m
  n1 : NF f n
  mm : ∀ y ∈ m, y ∈ ls
  mn : ∀ y ∈ n, y ∈ ls
  sm : Strt f s m
  sn : Strt f t n
section
variable {m n : List Nat}
theorem W2.symm (h : W2 f ls m s n t) : W2 f ls n t m s := ⟨h.nd, h.ok, h.ht, h.hs, h.n1, h.m1, h.mn, h.mm, h.sn, h.sm⟩
theorem W2.same (h : W2 f ls m s n t) : (∀ x ∈ ls, mark f m.reverse s x = mark f n.reverse t x) ↔ s = t ∧ m = n := by
  constructor
  · intro e
    have ek : s = t := root_kind h.hs e
    subst ek
    exact ⟨rfl, wall_uniq h.nd h.ok h.hs h.m1 h.n1 h.mm h.mn h.sm.fr h.sn.fr e⟩
  · rintro ⟨rfl, rfl⟩ x _
    rfl
theorem W2.mu (h : W2 f ls m s n t) : ∀ y ∈ wayC f m n, y ∈ ls := fun y hy => by
  rcases List.mem_append.mp (name_mem hy) with z | z
  · exact h.mm y (List.mem_reverse.mp z)
  · exact h.mn y z
theorem W2.npos (h : W2 f ls m s n t) : Pos ls (mark f n.reverse t) := mark_nn h.ok h.n1.red.rev (fun y hy => h.mn y (List.mem_reverse.mp hy)) h.ht h.sn.td
theorem W2.mpos (h : W2 f ls m s n t) : Pos ls (mark f m.reverse s) := h.symm.npos
theorem W2.goes (h : W2 f ls m s n t) (g : Nat → Int) : act f n.reverse g = act f (wayC f m n).reverse (act f m.reverse g) := by
  have e := way_goes h.ok m n
  have e1 : nameOf f n = n := (is_NF h.ok).mpr h.n1
  rw [e1] at e
  rw [← act_app, ← List.reverse_append, ← act_of_name h.ok (m ++ wayC f m n), e]
theorem W2.uNF (h : W2 f ls m s n t) : NF f (wayC f m n) := name_NF h.ok _
theorem W2.vmark (h : W2 f ls m s n t) (g : Nat → Int) : act f (startC f (wayC f m n) t).reverse g t = if desc f t (wayC f m n).reverse then - act f (wayC f m n).reverse g t else act f (wayC f m n).reverse g t := by rw [start_mark h.ok, near_mark h.ok]
theorem W2.exc (h : W2 f ls m s n t) (ns : ¬ (s = t ∧ m = n)) : ¬ (startC f (wayC f m n) t = [] ∧ s = t) := by
  rintro ⟨e1, rfl⟩
  apply ns
  refine (h.same).mp fun x hx => ?_
  have hv := h.vmark (act f m.reverse (unit x))
  rw [e1, ← h.goes] at hv
  have hv : act f m.reverse (unit x) s = if desc f s (wayC f m n).reverse then - act f n.reverse (unit x) s else act f n.reverse (unit x) s := hv
  by_cases d : desc f s (wayC f m n).reverse
  · exfalso
    obtain ⟨y, hy, p1⟩ := h.npos.2
    have hw := h.vmark (act f m.reverse (unit y))
    rw [e1, ← h.goes, if_pos d] at hw
    have hw : act f m.reverse (unit y) s = - act f n.reverse (unit y) s := hw
    have p2 := h.mpos.1 y hy
    have p1 : 0 < act f n.reverse (unit y) s := p1
    have p2 : 0 ≤ act f m.reverse (unit y) s := p2
    omega
  · rw [if_neg d] at hv
    exact hv
theorem W2.vst (h : W2 f ls m s n t) : Strt f t (startC f (wayC f m n) t) := Strt.of h.ok h.uNF t
/-- the way on from the wall to its door -/
theorem W2.tail (h : W2 f ls m s n t) : ∃ y, (∀ z ∈ y, z ∈ f t ∨ z = t) ∧ (∀ p c q, y = p ++ c :: q → ∀ z ∈ p, z ∈ f t) ∧ (∀ z ∈ y, z ∈ ls) ∧ ∀ g, act f (wayC f m n) g = act f (startC f (wayC f m n) t ++ y) g := by
  obtain ⟨y, y1, y2, ey, ly⟩ := start_split h.ok (wayC f m n) t
  have my : ∀ z ∈ y, z ∈ ls := fun z hz => nr_mem h.mu h.ht z (y2 z hz)
  by_cases hd : desc f t (wayC f m n).reverse
  · obtain ⟨e2, _⟩ := near_split h.ok hd
    refine ⟨y ++ [t], fun z hz => (List.mem_append.mp hz).elim (fun w => .inl (y1 z w)) fun w => .inr (List.mem_singleton.mp w), fun p c q e z hz => ?_, fun z hz => (List.mem_append.mp hz).elim (my z) fun w => by rw [List.mem_singleton.mp w]; exact h.ht, fun g => ?_⟩
    · have hl := congrArg List.length e
      simp only [List.length_append, List.length_cons, List.length_nil] at hl
      have hp : p = (y ++ [t]).take p.length := by rw [e]; simp
      rw [List.take_append_of_le_length (by omega)] at hp
      exact y1 z (List.mem_of_mem_take (by rw [← hp]; exact hz))
    · rw [e2, act_app, ey, ← act_app, List.append_assoc]
  · refine ⟨y, fun z hz => .inl (y1 z hz), fun p c q e z hz => y1 z (by rw [e]; exact List.mem_append_left _ hz), my, fun g => ?_⟩
    rw [← ey, near_same hd]
theorem W2.zero (h : W2 f ls m s n t) (ns : ¬ (s = t ∧ m = n)) : act f (wayC f m n) (bt f t) s = 0 ↔ (∀ y ∈ startC f (wayC f m n) t, y ∈ f s) ∧ t ∈ f s := by
  rw [← b_zero h.ok h.ht h.vst (st_mem h.mu h.ht) h.hs (h.exc ns), b_eq h.nd h.ok h.mu h.hs h.ht]
  split <;> omega
theorem W2.one (h : W2 f ls m s n t) (hs : s = t ∧ m = n) : act f (wayC f m n) (bt f t) s = 1 := by
  obtain ⟨rfl, rfl⟩ := hs
  rw [way_self h.ok]
  exact bt_self
end
end
end Cw
set_option Elab.async false
set_option linter.all false
set_option maxRecDepth 100000
set_option maxHeartbeats 4000000
/-! the walls on shortest ways from home, as lists of marks -/
namespace Cw
/-- without two that are alike -/
def NdV (ls : List Nat) (us : List (Nat → Int)) : Prop := us.Pairwise fun u v => ¬ ∀ x ∈ ls, u x = v x
theorem key_iff {ls : List Nat} {u v : Nat → Int} : ls.map u = ls.map v ↔ ∀ x ∈ ls, u x = v x := by
  induction ls with
  | nil => exact ⟨fun _ _ h => (nomatch h), fun _ => rfl⟩
  | cons y r ih =>
    rw [List.map_cons, List.map_cons, List.cons.injEq, ih]
    exact ⟨fun h x hx => (List.mem_cons.mp hx).elim (fun z => z ▸ h.1) (h.2 x), fun h => ⟨h y (List.mem_cons_self ..), fun x hx => h x (List.mem_cons_of_mem _ hx)⟩⟩
theorem NdV.key {ls : List Nat} {us : List (Nat → Int)} (h : NdV ls us) : (us.map fun u => ls.map u).Nodup := by
  unfold List.Nodup
  rw [List.pairwise_map]
  exact h.imp fun {a b} n z => n (key_iff.mp z)
section
variable {f : Nat → List Nat} {ls : List Nat} {s : Nat}
/-! ### the middle -/
end
end Cw
set_option Elab.async false
set_option linter.all false
set_option maxRecDepth 100000
set_option maxHeartbeats 4000000
/-! defs that make lambdas: their code objects are named -/
namespace Cw
open PySem PySem.Spec L2
structure FunC (K : PySem.W.Frag) (x qual : Str) (st : Stmt) (f : Addr) (fd : FuncData) (c : Addr) : Prop where
  ex : ∃ oc od kV doc pm an ct osl, fd = PySem.W.fnOf x qual (defArgs st) (defBody st) (defScope st) .none kV doc pm an (.ref c) ct ∧ K.lookup f = some ⟨oc, od, .func fd, osl⟩ ∧ PySem.W.codeIn K (.ref c) qual = true
  kp : PySem.W.keepIn K (.ref f) = true
structure FnAtC (K : PySem.W.Frag) (mg : Str → Option Value) (x : Str) (st : Stmt) (c : Addr) : Prop where
  ex : ∃ f fd, mg x = some (.ref f) ∧ FunC K x x st f fd c
theorem FunC.fn {K : PySem.W.Frag} {x qual : Str} {st : Stmt} {f : Addr} {fd : FuncData} {c : Addr} (F : FunC K x qual st f fd c) : Fun K x qual st f fd := by
  obtain ⟨oc, od, kV, doc, pm, an, ct, osl, e, lk, hcd⟩ := F.ex
  exact ⟨⟨oc, od, kV, doc, pm, an, .ref c, ct, osl, e, lk, hcd⟩, F.kp⟩
theorem FnAtC.fn {K : PySem.W.Frag} {mg : Str → Option Value} {x : Str} {st : Stmt} {c : Addr} (F : FnAtC K mg x st c) : FnAt K mg x st := by
  obtain ⟨f, fd, hm, G⟩ := F.ex
  exact ⟨f, fd, hm, G.fn⟩
section
variable {P : Program} {w : World} {K : PySem.W.Frag} {mg : Str → Option Value} {base : Heap} {k : Nat} {x qual : Str} {ps N : List Str} {sp : Sp} {st : Stmt} {c f : Addr} {fd : FuncData}
theorem FunC.ok (F : FunC K x qual st f fd c) (S : FnScope N ps (defScope st)) (len : ∀ vs H Q E, sp vs H Q E → vs.length = ps.length)
    (hbody : ∀ (A : Around) (outer : List Env) (s : Shared) (H : Hp) (vs : List V) (Q : VK) (E : XK), Room k (A.deeper (PyProof.Rows.envOfC qual (defScope st) s.heap.objs.size f (.ref c))) → sp vs H Q E →
      ∃ t, PSs (cxOf CX0 P w K mg base N qual (defScope st) f (.ref c) A outer s H E).nox (defBody st) t ∧ t { nx := fun _ H' => Q .non H', rt := Q } (start N vs) H) : FnOk P w K mg base CX0 (k + 1) f fd ps sp := by
  obtain ⟨oc, od, kV, doc, pm, an, ct, osl, rfl, lk, hcd⟩ := F.ex
  refine fn_of lk hcd S len fun A outer s H vs Q E hr hsp => ?_
  obtain ⟨t, h, q⟩ := hbody A outer s H vs Q E hr hsp
  exact ⟨t, h.nox, q⟩
theorem FnAtC.ok (F : FnAtC K mg x st c) (S : FnScope N ps (defScope st))
    (hb : ∀ (kV doc pm : Value) (an : Option Addr) (cdv ct : Value) (us : List Value), us.length = ps.length → bindArgs (PySem.W.fnOf x x (defArgs st) (defBody st) (defScope st) .none kV doc pm an cdv ct) ⟨us, []⟩ = pure (ps.zip us))
    (len : ∀ vs H Q E, sp vs H Q E → vs.length = ps.length)
    (hbody : ∀ (f : Addr) (A : Around) (outer : List Env) (s : Shared) (H : Hp) (vs : List V) (Q : VK) (E : XK), Room k (A.deeper (PyProof.Rows.envOfC x (defScope st) s.heap.objs.size f (.ref c))) → sp vs H Q E →
      ∃ t, PSs (cxOf CX0 P w K mg base N x (defScope st) f (.ref c) A outer s H E).nox (defBody st) t ∧ t { nx := fun _ H' => Q .non H', rt := Q } (start N vs) H) : Def P w K mg base CX0 (k + 1) x ps sp := by
  obtain ⟨f, fd, hm, G⟩ := F.ex
  exact ⟨f, fd, hm, G.kp, ⟨G.fn.binds hb, funLk G.fn⟩, G.ok S len fun A outer s H vs Q E hr h => hbody f A outer s H vs Q E hr h⟩
end
/-! ### what stays behind a lambda -/
section
variable {H H' H2 : Hp} {T : List (Addr × Str)}
theorem ext_of (s : Same H H') : LamX.ExtN H H' := LamX.ExtN.of s
theorem tabs_same (t : LamX.Tabs T H) (s : Same H H') : LamX.Tabs T H' := t.ext s
theorem tabs_keep {p : Addr} {o : HO} (t : LamX.Tabs T H) (k : Keep p H H') (hp : H p = some o) (h1 : ∀ ps, o ≠ .tbl ps) (h2 : ∀ c q, o ≠ LamX.CodeO c q) : LamX.Tabs T H' := fun x hx => by
  obtain ⟨ps, e, tr, al⟩ := t x hx
  refine ⟨ps, k _ _ e (fun z => ?_), tr, fun pos cv hc => ?_⟩
  · rw [z, hp] at e
    exact h1 _ (Option.some.inj e)
  · obtain ⟨c, ec, e2⟩ := al pos cv hc
    refine ⟨c, ec, k _ _ e2 fun z => ?_⟩
    rw [z, hp] at e2
    exact h2 _ _ (Option.some.inj e2)
theorem codeO_dK {c : Addr} {q : Str} {kvs : List (Key × V)} : HO.dK kvs ≠ LamX.CodeO c q := fun z => by
  have z' : HO.dK kvs = HO.ext _ := z
  cases z'
theorem codeO_lst {c : Addr} {q : Str} {xs : List V} : HO.lst xs ≠ LamX.CodeO c q := fun z => by
  have z' : HO.lst xs = HO.ext _ := z
  cases z'
end
end Cw
set_option Elab.async false
set_option linter.all false
set_option maxRecDepth 100000
set_option maxHeartbeats 4000000
/-! a lambda kept in a name, handed to a def later -/
namespace Cw
open PySem PySem.Spec PyProof.Rows L2 LamX
/-- what a lambda is made of -/
structure LamD where
  params : Arguments
  body : Expr
  scope : Scope
/-- what its body reads -/
structure LamOk (X : Cx) (k : Nat) (d : LamD) (t : XK → TE) : Prop where
  L : LamS X.env.scope d.scope
  bind : ∀ (q : Str) (cl : List (Str × Addr)) (pm cv ctv : Value), bindArgs (PySem.W.kla_fn "<lambda>" q d.params d.body d.scope cl pm cv ctv) ⟨[], []⟩ = pure []
  body : ∀ (A : Around) (outer : List Env) (s : Shared) (H : Hp) (E : XK) (f c' : Addr), Room k (A.deeper (lamEnv X d.scope s.heap.objs.size f c')) → PE (lamCx X A outer s H E d.scope f c') d.body (t E)
/-- the function at f is the lambda d, its code object at c' -/
def FunL (env : Env) (d : LamD) (f c' : Addr) : HO := .ext fun h => ∃ pm ctv, h.get? f = some (PySem.W.kla_obj "<lambda>" (env.qual ++ "<lambda>") d.params d.body d.scope (cloFrom env.cells d.scope.names []) pm c' ctv)
theorem funL_ok {P : Program} {w : World} {env : Env} {d : LamD} {c' : Addr} {pm ctv : Value} {H : Hp} {h : Heap} {f : Addr} (e : h.get? f = some (PySem.W.kla_obj "<lambda>" (env.qual ++ "<lambda>") d.params d.body d.scope (cloFrom env.cells d.scope.names []) pm c' ctv)) : ObjOk P w H h f (FunL env d f c') :=
  ⟨⟨pm, ctv, e⟩, ⟨_, e⟩, fun h1 h2 ⟨a, b, z⟩ st => ⟨a, b, st _ z⟩⟩
theorem funL_ne {env : Env} {d : LamD} {f c' : Addr} (ps : Array Value) : FunL env d f c' ≠ .tbl ps := fun z => by
  unfold FunL at z
  cases z
section
variable {X : Cx} {pins : List (Addr × Obj)} {σ : L2.St} {H : Hp} {s : Shared}
def tLamV (Ts : List (Addr × Str)) (env : Env) (d : LamD) : TE := fun _ H Q => Tabs Ts H ∧ ∀ f c' H1, ExtN H H1 → Tabs Ts H1 → H1 c' = some (CodeO c' (env.qual ++ "<lambda>")) → H1 f = some (FunL env d f c') → Q (.ref f) H1
theorem pe_lamV {Ts : List (Addr × Str)} {c P : Addr} {d : LamD} {pos : PySem.Pos} (TB : TabB X.base X.mg c P) (hm : (P, X.env.qual ++ "<lambda>") ∈ Ts) (hu : ∀ p ∈ Ts, p.1 = P → p.2 = X.env.qual ++ "<lambda>") (L : LamS X.env.scope d.scope) (hcode : X.env.code = .ref c := by rfl) (hdef : defaultsOf d.params X.env = ([], []) := by rfl) :
    PE X (.Lambda d.params d.body d.scope pos) (tLamV Ts X.env d) := by
  refine ⟨fun pins s σ H Q I ⟨tabs, goOn⟩ => ?_⟩
  obtain ⟨items, tabAt, triples, told⟩ := tabs _ hm
  have inHeap : s.heap.get? P = some { cls := .none, data := .fields items } := I.hok P _ tabAt
  have nextBase : ∀ {h1 : Heap} {t1 : Nat} {H1 : Hp} {c1 : Addr} {pm ctv : Value}, Inv X pins σ H1 { s with heap := h1, toks := t1 } → ExtN H H1 → Tabs Ts H1 → H1 c1 = some (CodeO c1 (X.env.qual ++ "<lambda>")) →
      EP X pins σ Q (.ref h1.objs.size) { s with heap := h1.push (PySem.W.kla_obj "<lambda>" (X.env.qual ++ "<lambda>") d.params d.body d.scope (cloFrom X.env.cells d.scope.names []) pm c1 ctv), toks := t1 } := by
    intro h1 t1 H1 c1 pm ctv I1 ext1 tabs1 code1
    have clean : H1 h1.objs.size = none := I1.hok.fresh (Nat.le_refl _)
    have grown : ExtN H1 (upd H1 h1.objs.size (FunL X.env d h1.objs.size c1)) := fun b o e _ => by
      rw [upd_ne (ne_of_none e clean)]
      exact e
    have all : ∀ b o, H1 b = some o → upd H1 h1.objs.size (FunL X.env d h1.objs.size c1) b = some o := fun b o e => by
      rw [upd_ne (ne_of_none e clean)]
      exact e
    refine ⟨.ref h1.objs.size, upd H1 h1.objs.size (FunL X.env d h1.objs.size c1), ?_, rfl, goOn _ c1 _ (ext1.trans grown) (tabs1.ext all) (all _ _ code1) upd_same⟩
    exact Inv.laid (s := { s with heap := h1, toks := t1 }) I1 (fun _ _ e => Heap.get?_push_of_some _ e) (Nat.le_refl _) (funL_ok (Heap.get?_push_size _ rfl))
  refine PySem.W.kla_eval hdef ?_
  cases found : codeAmong pos items.toList with
  | some cv =>
    obtain ⟨c1, rfl, code1⟩ := told pos cv found
    refine PySem.W.kla_makeFunctionHit (c := c) (P := P) (closure_ok (L.has I.ok)) I.ok.glob (I.mod.glob.keeps I.bk) hcode (TB.code.keeps I.bk) inHeap triples found (TB.bm.keeps I.bk) fun ctv h1 t1 kept _ => ?_
    exact nextBase (I.kept kept) (ExtN.refl H) tabs code1
  | none =>
    refine PySem.W.kla_makeFunction (c := c) (P := P) (closure_ok (L.has I.ok)) I.ok.glob (I.mod.glob.keeps I.bk) hcode (TB.code.keeps I.bk) inHeap triples found TB.gP (TB.bm.keeps I.bk) fun c1 ctv h1 t1 kept above below rec tab1 => ?_
    obtain ⟨c2, oc, fields, tok, same, ocAt, isF, name⟩ := rec
    cases same
    have free1 : H c1 = none := I.hok.fresh above
    have J := inv_table (q := X.env.qual ++ "<lambda>") (t' := t1) (more := #[rawInt pos.line, rawInt pos.col, .ref c1]) I tabAt kept tab1 above ⟨oc, fields, tok, ocAt, isF, name⟩
    refine nextBase J (fun b o e n => ?_) (fun p hp => ?_) upd_same
    · rw [upd_ne (ne_of_none e free1), upd_ne fun z => n items (Option.some.inj (e.symm.trans (by rw [z]; exact tabAt)))]
      exact e
    · have stays : ∀ {a : Addr} {n : Str}, H a = some (CodeO a n) → upd (upd H P (.tbl (items ++ #[rawInt pos.line, rawInt pos.col, .ref c1]))) c1 (CodeO c1 (X.env.qual ++ "<lambda>")) a = some (CodeO a n) := fun {a n} e => by
        rw [upd_ne (ne_of_none e free1), upd_ne fun z => codeO_ne items (Option.some.inj (e.symm.trans (by rw [z]; exact tabAt)))]
        exact e
      by_cases same : p.1 = P
      · rw [hu p hp same, same]
        have asList : (items ++ #[rawInt pos.line, rawInt pos.col, .ref c1]).toList = items.toList ++ [rawInt pos.line, rawInt pos.col, .ref c1] := by simp
        refine ⟨_, (upd_ne (ne_of_none tabAt free1)).trans upd_same, by rw [asList]; exact PySem.TriplesOk_snoc _ _ _ _ triples, fun p2 cv look => ?_⟩
        rw [asList] at look
        rcases among_app _ triples look with old | rfl
        · obtain ⟨c0, e1, e2⟩ := told p2 cv old
          exact ⟨c0, e1, stays e2⟩
        · exact ⟨c1, rfl, upd_same⟩
      · obtain ⟨other, a1, a2, a3⟩ := tabs p hp
        refine ⟨other, by rw [upd_ne (ne_of_none a1 free1), upd_ne same]; exact a1, a2, fun p2 cv look => ?_⟩
        obtain ⟨c0, e1, e2⟩ := a3 p2 cv look
        exact ⟨c0, e1, stays e2⟩
theorem pe_lamW {Ts : List (Addr × Str)} {c P : Addr} {params : Arguments} {body : Expr} {scope : Scope} {pos : PySem.Pos} (TB : TabB X.base X.mg c P) (hm : (P, X.env.qual ++ "<lambda>") ∈ Ts) (hu : ∀ p ∈ Ts, p.1 = P → p.2 = X.env.qual ++ "<lambda>") (L : LamS X.env.scope scope) (hcode : X.env.code = .ref c := by rfl) (hdef : defaultsOf params X.env = ([], []) := by rfl) :
    PE X (.Lambda params body scope pos) (tLamV Ts X.env ⟨params, body, scope⟩) := pe_lamV (d := ⟨params, body, scope⟩) TB hm hu L hcode hdef
end
end Cw
set_option Elab.async false
set_option linter.all false
set_option maxRecDepth 100000
set_option maxHeartbeats 4000000
/-! a try with one clause and no name for the exception -/
namespace Cw
open PySem PySem.Spec L2
def tTryO (K : PySem.W.Frag) (c : Value) (ts : Addr → Value → Option Addr → TS) (Wout : WX) (tb : WX → TS) : TS := fun D σ H => tb (wOnly K c ts Wout D) D σ H
theorem ps_tryO {X : Cx} {x : Str} {c : Value} {body suite : List Stmt} {b₀ : Stmt} {np pos pos' : PySem.Pos} {tb : WX → TS} {ts : Addr → Value → Option Addr → TS} {Wout : WX} (hs : X.stack = X.env :: X.outer) (hf : X.env.frame = some X.env.locals) (hc : Names X x c) (tk : Takes X Wout)
    (hb : ∀ (W : WX) (pn : List (Addr × Obj)) (xe : Value → Shared → Prop), Takes (X.tr pn xe) W → PassesOwn (model X.prog X.w) X.A X.env xe → PSs (X.tr pn xe) body (tb W))
    (hsu : ∀ (a : Addr) (oe : Obj) (cls : Value) (d : Option Addr) (pn : List (Addr × Obj)), Zc cls d oe → (∃ vs, oe.data = .fields vs) → PSs (X.suite a ((a, oe) :: pn)) (b₀ :: suite) (ts a cls d)) :
    PS X (.Try body [.ExceptHandler (some (.Name x np)) none (b₀ :: suite) pos'] [] [] pos) (tTryO X.K c ts Wout tb) := ps_try_only hs hf hc tk hb hsu
theorem e_tryO {K : PySem.W.Frag} {c : Value} {ts : Addr → Value → Option Addr → TS} {Wout : WX} {tb : WX → TS} {D : Ends} {σ : St} {H : Hp} (q : tb (wOnly K c ts Wout D) D σ H) : tTryO K c ts Wout tb D σ H := q
end Cw
set_option Elab.async false
set_option linter.all false
set_option maxRecDepth 100000
set_option maxHeartbeats 4000000
/-! a lambda called by a name of the def that made it -/
namespace Cw
open PySem PySem.Spec PyProof.Rows L2 LamX
def tLamO (X : Cx) (k : Nat) (W : WX) (i : Nat) : TE := fun σ H Q => ∃ f c1 d t E, LamOk X k d t ∧ σ[i]? = some (some (.ref f)) ∧ H c1 = some (CodeO c1 (X.env.qual ++ "<lambda>")) ∧ H f = some (FunL X.env d f c1) ∧ (∀ cls dd H', E cls dd H' → W cls dd σ H') ∧ t E σ H Q
theorem pe_lamX {X : Cx} {W : WX} {a : Str} {k i : Nat} {p1 p2 : PySem.Pos} (tk : Takes X W) (room : Room (k + 1) X.A) (hN : X.N[i]? = some a) (hv : Vis X.env.scope a) (hd : (a == ("__debug__" : Str)) = false := by decide) (hcd : (a == ("__classdict__" : Str)) = false := by decide) :
    PE X (.Call (.Name a p1) [] [] p2) (tLamO X k W i) := by
  refine ⟨fun pz sz σz Hz Q Iz ⟨f, c1, d, t, E, O, slot, code, func, out, goOn⟩ => ?_⟩
  refine wpAny_Call_Name_kw (thn ((pe_var (pos := p1) (i := i) hN hv hd hcd).run pz sz σz Hz (fun v H1 => v = .ref f ∧ H1 = Hz) Iz ⟨.ref f, slot, rfl, rfl⟩) fun u s1 ⟨v, H1, I1, rel, isF, isH⟩ => ?_)
  subst isF isH
  have isU : u = Value.ref f := rel
  subst isU
  obtain ⟨⟨pm, ctv, fAt⟩, _, _⟩ := I1.hok f _ func
  obtain ⟨⟨oc, fields, tok, ocAt, isFields, name⟩, _, _⟩ := I1.hok c1 _ code
  refine PySem.W.callWith_F0 ⟨_, _, _, _, fAt⟩ ?_
  have entered : codeAny (model X.prog X.w) X.A (.call (.ref f) ⟨[], []⟩) (CR (L2.CX X.prog X.w) X.stack X.prog X.w H1 s1 Q E) s1 := by
    refine PySem.W.kla_callFunE room.depth fAt rfl O.L.co O.L.gen rfl ⟨c1, oc, fields, tok, rfl, ocAt, isFields, name⟩ ?_
    rw [O.bind]
    refine wpAny_pure (wpAny_newFunctionEnv (fun y hy => (O.L.own y hy).2) (fun y hy => absurd hy (by simp)) (fun h1 names sub => ⟨I1.nolimit.fresh _ sub, ?_⟩) O.L.kind)
    have still : ∀ b o, s1.heap.get? b = some o → h1.get? b = some o := fun b o e => sub.extBut b o (Nat.ne_of_lt (Heap.lt_size e)) (Heap.get?_push_of_some _ e)
    have J := lam_start2 (tk := s1.toks + ([] : List (Str × Value)).length) (E := E) (f := f) (c' := c1) (A := X.A) (outer := X.stack) I1 O.L I1.env0 room.hd Un.refl names still
    show codeAny _ _ (.expr d.body (lamEnv X d.scope s1.heap.objs.size f c1)) _ _
    refine PySem.W.kla_codeExpr (wpAny_mono ((O.body _ _ s1 H1 E f c1 (room.deeper _)).run [] _ _ H1 Q J goOn) (fun v s2 res => ?_) fun _ _ res => res)
    obtain ⟨w2, H2, I2, r2, q2⟩ := res
    exact ⟨w2, H2, I2.os, I2.bare, I2.base, I2.hok, r2, q2⟩
  refine wpAny_call (codeAny_mono entered fun res s2 hq => ?_)
  match res, hq with
  | .error e, hq => exact tk e s2 (XE.of_call I1 out hq)
  | .ok (.ret u), hq => exact I1.after hq
  | .ok .next, hq => exact False.elim hq
  | .ok .brk, hq => exact False.elim hq
  | .ok .cont, hq => exact False.elim hq
theorem pe_lamO {X : Cx} {pn : List (Addr × Obj)} {xe : Value → Shared → Prop} {W : WX} {a : Str} {k i : Nat} {p1 p2 : PySem.Pos} (tk : Takes (X.tr pn xe) W) (room : Room (k + 1) X.A) (hN : X.N[i]? = some a) (hv : Vis X.env.scope a) (hd : (a == ("__debug__" : Str)) = false := by decide) (hcd : (a == ("__classdict__" : Str)) = false := by decide) :
    PE (X.tr pn xe) (.Call (.Name a p1) [] [] p2) (tLamO X k W i) := by
  refine ⟨fun pz sz σz Hz Q Iz ⟨f, c1, d, t, E, O, slot, code, func, out, goOn⟩ => ?_⟩
  have O' : LamOk (X.tr pn xe) k d t := ⟨O.L, O.bind, O.body⟩
  exact (pe_lamX tk room hN hv hd hcd).run pz sz σz Hz Q Iz ⟨f, c1, d, t, E, O', slot, code, func, out, goOn⟩
end Cw
set_option Elab.async false
set_option linter.all false
set_option maxRecDepth 100000
set_option maxHeartbeats 4000000
/-! what the top has left, one lemma a kind -/
namespace Cw
open PySem PySem.Spec L2
section
variable {K : PySem.W.Frag} {h : Heap} {mg : Str → Option Value} {x m qual : Str} {st : Stmt} {f C T : Addr} {oc kV dc pm cd ct oc2 : Value} {od an od2 : Option Addr} {sl sl2 : Array (Option Value)}
theorem glob_mk {v : Value} (X : K.In h) (G : h.Ns mainGlobals mg) (a : PySem.W.nsIn K mainGlobals x = some (some v)) : mg x = some v := PySem.W.mg_of X G a
theorem fnAt_mk (X : K.In h) (G : h.Ns mainGlobals mg) (a : PySem.W.nsIn K mainGlobals x = some (some (.ref f))) (l : K.lookup f = some ⟨oc, od, .func (PySem.W.fnOf x x (defArgs st) (defBody st) (defScope st) .none kV dc pm an cd ct), sl⟩)
    (c : PySem.W.codeIn K cd x = true) (k : PySem.W.keepIn K (.ref f) = true) : FnAt K mg x st := ⟨f, _, PySem.W.mg_of X G a, fun_mk (st := st) l c k⟩
theorem mAt_mk (a : PySem.W.findIn K (.ref C) m = some (some (.ref f))) (i : PySem.W.isFn K (.ref f) = true) (l : K.lookup f = some ⟨oc, od, .func (PySem.W.fnOf m qual (defArgs st) (defBody st) (defScope st) .none kV dc pm an cd ct), sl⟩)
    (c : PySem.W.codeIn K cd qual = true) (k : PySem.W.keepIn K (.ref f) = true) : MAt K C m qual st := ⟨f, _, a, i, fun_mk (st := st) l c k⟩
theorem mAtD_mk {arr : Array Value} {n : Nat} {dvs : List V} (a : PySem.W.findIn K (.ref C) m = some (some (.ref f))) (i : PySem.W.isFn K (.ref f) = true) (l : K.lookup f = some ⟨oc, od, .func (PySem.W.fnOf m qual (defArgs st) (defBody st) (defScope st) (.ref T) kV dc pm an cd ct), sl⟩)
    (c : PySem.W.codeIn K cd qual = true) (k : PySem.W.keepIn K (.ref f) = true) (t : K.lookup T = some ⟨oc2, od2, .seq arr n, sl2⟩) (hv : Vals dvs arr.toList) (hd : dvs ≠ []) : MAtD K C m qual st dvs :=
  ⟨f, _, a, i, ⟨⟨oc, od, .ref T, kV, dc, pm, an, cd, ct, sl, rfl, l, c, .inr ⟨hd, T, _, arr.toList, n, rfl, t, rfl, hv⟩, .inl rfl⟩, k⟩⟩
theorem cls_mk (X : K.In h) (G : h.Ns mainGlobals mg) (a : PySem.W.nsIn K mainGlobals x = some (some (.ref C))) (pg : PySem.W.plainGet K C Str.empty = true) (hd : PySem.W.hasDictIn K C = true) (po : PySem.W.plainOver K C = true)
    (sa : PySem.W.findIn K (.ref C) "__setattr__" = some (some (.builtin "object.__setattr__"))) (mk : PySem.W.makesIn K C = true) (kc : PySem.W.keepIn K (.ref C) = true)
    (ha : PySem.W.findIn K (.ref C) "__class__" = some (some (.builtin "object.__class__"))) (hn : PySem.W.specialIn K (.builtin "object.__class__") "__get__" = some (some (.builtin "getset_descriptor.__get__"))) (ht : PySem.W.takesIn K (.builtin "object.__class__") = some true)
    (hm : PySem.W.mroIn K C (.type "object") = some true) (ob : PySem.W.subIn K (.ref C) (.type "object") = some true) (ne : PySem.W.findIn K (.ref C) "__ne__" = some (some (.builtin "object.__ne__"))) : ClsF K mg x C :=
  ⟨PySem.W.mg_of X G a, ⟨pg, hd, po, sa⟩, mk, kc, ha, hn, ht, hm, ob, ne⟩
theorem exc_mk (X : K.In h) (G : h.Ns mainGlobals mg) (a : PySem.W.nsIn K mainGlobals x = some (some (.ref C))) (e : PySem.W.excIn K C [.type "ValueError", .type "Exception", .type "BaseException", .type "object"] "ValueError.__new__" = true) (k : PySem.W.keepIn K (.ref C) = true) (ty : PySem.W.typeIn K (.ref C) = some (.type "type"))
    (hg : PySem.W.findIn K (.ref C) "__getattribute__" = some (some (.builtin "BaseException.__getattribute__"))) (hk : PySem.W.findIn K (.ref C) "__getattr__" = some none) (hs : PySem.W.subIn K (.ref C) (.type "BaseException") = some true) (hd : PySem.W.hasDictIn K C = true)
    (ha : PySem.W.findIn K (.ref C) "__class__" = some (some (.builtin "object.__class__"))) (hn : PySem.W.specialIn K (.builtin "object.__class__") "__get__" = some (some (.builtin "getset_descriptor.__get__"))) (ht : PySem.W.takesIn K (.builtin "object.__class__") = some true) (hm : PySem.W.mroIn K C (.type "object") = some true) : ExcF K mg x C :=
  ⟨PySem.W.mg_of X G a, e, k, ty, ⟨hg, hk, hs, hd, ha, hn, ht, hm⟩⟩
theorem fun1_mk (X : K.In h) (G : h.Ns mainGlobals mg) {fa : Addr} (hm : mg x = some (.ref fa)) (a : PySem.W.nsIn K mainGlobals x = some (some (.ref f))) (l : K.lookup f = some ⟨oc, od, .func (PySem.W.fnOf x x (defArgs st) (defBody st) (defScope st) .none kV dc pm an cd ct), sl⟩)
    (c : PySem.W.codeIn K cd x = true) (k : PySem.W.keepIn K (.ref f) = true) : Fun K x x st fa (PySem.W.fnOf x x (defArgs st) (defBody st) (defScope st) .none kV dc pm an cd ct) := by
  have e := hm.symm.trans (PySem.W.mg_of X G a)
  cases e
  exact fun_mk (st := st) l c k
end
end Cw
set_option Elab.async false
set_option linter.all false
set_option maxRecDepth 100000
set_option maxHeartbeats 4000000
/-! a loop over a text whose letters go on to text.replace: the letter's token is carried in its name -/
namespace Cw
open PySem PySem.Spec L2
section
variable {X : Cx} {pins : List (Addr × Obj)} {σ : St} {H : Hp} {s : Shared}
/-- the letter c stands under the name x, with the token u -/
def RawAt (X : Cx) (x : Str) (c : Nat) (u : Tok) (s : Shared) : Prop := ∃ m, s.heap.Ns X.env.locals m ∧ m x = some (.str (tx [c]) u) ∧ u ≠ 0 ∧ u < s.toks
end
/-! ### judgements that carry the letter -/
def PSsR (X : Cx) (ix : Nat) (x : Str) (st : List Stmt) (t : TS) : Prop :=
  ∀ (pins : List (Addr × Obj)) (s : Shared) (σ : St) (H : Hp) (D : Ends) (c : Nat) (u : Tok), Inv X pins σ H s → σ[ix]? = some (some (.str (tx [c]))) → RawAt X x c u s → t D σ H → wpAny (model X.prog X.w) X.A (execs st X.env) (SP X pins D) X.xe s
section
variable {X : Cx} {ix : Nat} {x : Str} {rest : List Stmt} {u : TS}
theorem PSsR.of (h : PSs X rest u) : PSsR X ix x rest u := fun pins s σ H D _ _ I _ _ q => h.run pins s σ H D I q
end
end Cw
set_option Elab.async false
set_option linter.all false
set_option maxRecDepth 100000
set_option maxHeartbeats 4000000
/-! text.replace from behind, of raw arguments; `letter in text`, the letter's token carried -/
namespace Cw
open PySem PySem.Spec L2 PyProof.Rows Builtin Builtin.Str
theorem RawAt.push {X : Cx} {x : Str} {c : Nat} {u : Tok} {s : Shared} (h : RawAt X x c u s) (o : Obj) {k : Nat} (hk : s.toks ≤ k) : RawAt X x c u { s with heap := s.heap.push o, toks := k } := by
  obtain ⟨m, ⟨ob, es, ep, ho, r⟩, hx, h0, ht⟩ := h
  exact ⟨m, ⟨ob, es, ep, Heap.get?_push_of_some _ ho, r⟩, hx, h0, Nat.lt_of_lt_of_le ht hk⟩
/-! ### def without_last(way, kind): return without_first(way[::-1], kind)[::-1] -/
section
variable {X : Cx} {ix : Nat} {x : Str} {rest : List Stmt} {u : TS}
end
end Cw
set_option Elab.async false
set_option linter.all false
set_option maxRecDepth 100000
set_option maxHeartbeats 4000000
/-! a call behind which a token is out; a loop over its text, the letter's token carried -/
namespace Cw
open PySem PySem.Spec L2 PyProof.Rows Builtin Builtin.Str
/-! ### def last_kinds(plan, way): return first_kinds(plan, way[::-1]) -/
end Cw
set_option Elab.async false
set_option linter.all false
set_option maxRecDepth 100000
set_option maxHeartbeats 4000000
/-! defs that are called where no repr is under way; str([bool, bool]) -/
namespace Cw
open PySem PySem.Spec L2 PyProof.Rows
/-- a promise for calls where no repr is under way -/
structure FnOkG (P : Program) (w : World) (K : PySem.W.Frag) (mg : Str → Option Value) (base : Heap) (k : Nat) (f : Addr) (fd : FuncData) (ps : List Str) (sp : Sp) : Prop where
  len : ∀ vs H Q E, sp vs H Q E → vs.length = ps.length
  run : ∀ (A : Around) (outer : List Env) (s : Shared) (H : Hp) (args : Args) (us : List Value) (vs : List V) (Q : VK), A.guards = some [] → Room k A → Env0 P w K mg base A outer s H → BindsTo s fd args (ps.zip us) → Vals vs us → sp vs H Q E0 →
    codeAny (model P w) A (.call (.ref f) args) (CR CX0 outer P w H s Q E0) s
/-- a def of the module keeps a promise where no repr is under way -/
structure DefG (P : Program) (w : World) (K : PySem.W.Frag) (mg : Str → Option Value) (base : Heap) (k : Nat) (x : Str) (ps : List Str) (sp : Sp) : Prop where
  ex : ∃ f fd, mg x = some (.ref f) ∧ PySem.W.keepIn K (.ref f) = true ∧ Bd K f fd ps ∧ FnOkG P w K mg base k f fd ps sp
theorem DefG.mono {P : Program} {w : World} {K : PySem.W.Frag} {mg : Str → Option Value} {base : Heap} {j k : Nat} {x : Str} {ps : List Str} {sp : Sp} (D : DefG P w K mg base j x ps sp) (h : j ≤ k) : DefG P w K mg base k x ps sp := by
  obtain ⟨f, fd, a, b, c, d⟩ := D.ex
  exact ⟨f, fd, a, b, c, d.len, fun A outer s H args us vs Q hg hr => d.run A outer s H args us vs Q hg (hr.mono h)⟩
/-! ### str([bool, bool]) -/
end Cw
set_option Elab.async false
set_option linter.all false
set_option maxRecDepth 100000
set_option maxHeartbeats 4000000
/-! the end of a law whose defs make lambdas -/
namespace Cw
open PySem PySem.Spec L2
section
variable {K : PySem.W.Frag} {h : Heap} {mg : Str → Option Value} {x qual : Str} {f fa c : Addr} {st : Stmt} {oc kV dc pm ct : Value} {od an : Option Addr} {sl : Array (Option Value)}
theorem fnAtC_mk (X : K.In h) (G : h.Ns mainGlobals mg) (a : PySem.W.nsIn K mainGlobals x = some (some (.ref f))) (l : K.lookup f = some ⟨oc, od, .func (PySem.W.fnOf x x (defArgs st) (defBody st) (defScope st) .none kV dc pm an (.ref c) ct), sl⟩)
    (cd : PySem.W.codeIn K (.ref c) x = true) (k : PySem.W.keepIn K (.ref f) = true) : FnAtC K mg x st c := ⟨f, _, PySem.W.mg_of X G a, ⟨⟨oc, od, kV, dc, pm, an, ct, sl, rfl, l, cd⟩, k⟩⟩
end
end Cw
set_option Elab.async false
set_option linter.all false
set_option maxRecDepth 100000
set_option maxHeartbeats 4000000
/-! the end of a law that asks where no repr is under way; any number of tables of code -/
namespace Cw
open PySem PySem.Spec PyProof.Rows L2
/-- the script's list as the caller left it -/
abbrev scO (vs : List Value) : Obj := { cls := .type "list", data := .seq vs.toArray }
/-- an empty table -/
abbrev noO : Obj := { cls := .none, data := .fields #[] }
open Classical in
/-- what is tracked at the start: the tables, and the script unless the module has it -/
noncomputable def sH (K : PySem.W.Frag) (a : Addr) (vs : List Value) (ns : List Int) (Ts : List Addr) : Hp := fun b =>
  if b ∈ Ts then some (.tbl #[]) else if b = a ∧ K.lookup a = none then some (.frz (scO vs) (.lst (ns.map V.int))) else none
/-- the state in which the law is called -/
structure Beg (P : Program) (w : World) (K : PySem.W.Frag) (mg : Str → Option Value) (s : Shared) (a : Addr) (vs : List Value) (ns : List Int) (Ts : List Addr) : Prop where
  kin : K.In s.heap
  gl : s.heap.Ns mainGlobals mg
  bl : ∃ mb, s.heap.Ns builtinsNs mb ∧ ∀ x : Str, x ≠ "__name__" → mb x = bootBuiltins x
  lim : s.heap.NoLimit
  ge : s.gens = #[]
  sc : s.heap.get? a = some (scO vs)
  iz : IntsAre vs ns
  few : ns.length ≤ sizeLine
  tb : ∀ t ∈ Ts, s.heap.get? t = some noO
  nt : ∀ t ∈ Ts, K.lookup t = none
section
variable {P : Program} {w : World} {K : PySem.W.Frag} {mg : Str → Option Value} {s : Shared} {a : Addr} {vs : List Value} {ns : List Int} {Ts : List Addr}
theorem sH_tab {b : Addr} (h : b ∈ Ts) : sH K a vs ns Ts b = some (.tbl #[]) := if_pos h
theorem sH_some {b : Addr} {u : HO} (h : sH K a vs ns Ts b = some u) : (b ∈ Ts ∧ u = .tbl #[]) ∨ (b = a ∧ K.lookup a = none ∧ u = .frz (scO vs) (.lst (ns.map V.int))) := by
  by_cases h1 : b ∈ Ts
  · exact .inl ⟨h1, (Option.some.inj ((sH_tab h1).symm.trans h)).symm⟩
  · by_cases h2 : b = a ∧ K.lookup a = none
    · exact .inr ⟨h2.1, h2.2, (Option.some.inj (((if_neg h1).trans (if_pos h2)).symm.trans h)).symm⟩
    · cases ((if_neg h1).trans (if_neg h2)).symm.trans h
namespace Beg
variable (B : Beg P w K mg s a vs ns Ts)
include B
theorem ant : ¬ a ∈ Ts := fun h => by
  have e := (B.tb a h).symm.trans B.sc
  injection e with e
  cases congrArg Obj.cls e
/-- other objects are not tracked -/
theorem off {b : Addr} {o : Obj} (e : s.heap.get? b = some o) (h1 : o ≠ noO) (h2 : o ≠ scO vs) : sH K a vs ns Ts b = none := by
  match h : sH K a vs ns Ts b with
  | none => rfl
  | some u =>
    rcases sH_some h with ⟨hb, _⟩ | ⟨rfl, _⟩
    · exact absurd (Option.some.inj (e.symm.trans (B.tb b hb))) h1
    · exact absurd (Option.some.inj (e.symm.trans B.sc)) h2
theorem stays {b : Addr} {o : Obj} (e : s.heap.get? b = some o) (h1 : o ≠ noO) (h2 : o ≠ scO vs) : (hidT s.heap (sH K a vs ns Ts)).get? b = some o := hidT_get e (B.off e h1 h2)
theorem kin0 : K.In (hidT s.heap (sH K a vs ns Ts)) := fun b o e => by
  refine hidT_get (B.kin b o e) ?_
  match h : sH K a vs ns Ts b with
  | none => rfl
  | some u =>
    rcases sH_some h with ⟨hb, _⟩ | ⟨rfl, k, _⟩
    · cases (B.nt b hb).symm.trans e
    · cases k.symm.trans e
theorem ns0 {b : Addr} {m : Str → Option Value} (h : s.heap.Ns b m) : (hidT s.heap (sH K a vs ns Ts)).Ns b m := by
  obtain ⟨o, es, ep, e, d, r⟩ := h
  exact ⟨o, es, ep, B.stays e (fun z => by rw [z] at d; cases d) (fun z => by rw [z] at d; cases d), d, r⟩
theorem mod0 : Mod K mg (hidT s.heap (sH K a vs ns Ts)) := by
  obtain ⟨mb, h1, h2⟩ := B.bl
  obtain ⟨mc, h3, h4⟩ := B.lim
  exact ⟨B.kin0, B.ns0 B.gl, ⟨mb, B.ns0 h1, h2⟩, ⟨mc, B.ns0 h3, h4⟩⟩
theorem hok : HOk P w (sH K a vs ns Ts) s.heap := fun b u h => by
  rcases sH_some h with ⟨hb, rfl⟩ | ⟨rfl, _, rfl⟩
  · exact B.tb b hb
  · exact ⟨B.sc, (List.length_map (f := V.int) (as := ns)).symm ▸ B.few, vs, _, vals_ints B.iz, B.sc⟩
theorem script : SqL K (sH K a vs ns Ts) a (ns.map V.int) := by
  match h : K.lookup a with
  | none => exact .inl (.inr ⟨scO vs, (if_neg B.ant).trans (if_pos ⟨rfl, h⟩)⟩)
  | some o =>
    have e := Option.some.inj ((B.kin a o h).symm.trans B.sc)
    subst e
    refine .inr ⟨_, vs.toArray, _, h, rfl, rfl, rfl, ?_, ?_⟩
    · rw [List.size_toArray, B.iz.length]
      exact B.few
    · simpa using vals_ints B.iz
theorem env : Env0 P w K mg (hidT s.heap (sH K a vs ns Ts)) callerA [] s (sH K a vs ns Ts) where
  frames := rfl
  mod := B.mod0
  bs _ _ h := of_hidT h
  bsz := by rw [hidT_size]; exact Nat.le_refl _
  funs := trivial
  frf _ h := nomatch h
  hok := B.hok
  bare := .of_eq B.ge
/-- a code object and its table -/
theorem tabB {c t : Addr} (ht : t ∈ Ts) (hc : PySem.W.CodeHd s.heap c t) (hbm : ∃ (bm : Addr) (ob : Obj), mg "__builtins__" = some (.ref bm) ∧ bm ≠ builtinsNs ∧ s.heap.get? bm = some ob ∧ ob.cls = .type "module" ∧ ob.dict = some builtinsNs ∧ ob.data = .plain) :
    LamX.TabB (hidT s.heap (sH K a vs ns Ts)) mg c t := by
  have et := B.tb t ht
  obtain ⟨og, es, ep, eg, dg, _⟩ := B.gl
  refine ⟨?_, ?_, fun z => ?_⟩
  · obtain ⟨o, us, file, tf, flags, tg, inF, text, tt, e1, r1, r2⟩ := hc
    refine ⟨o, us, file, tf, flags, tg, inF, text, tt, B.stays e1 (fun z => ?_) (fun z => ?_), r1, r2⟩
    · rw [z] at r1
      cases r1
    · rw [z] at r1
      injection r1 with r1
      exact absurd r1 (by decide)
  · obtain ⟨bm, ob, b1, b2, b3, b4, b5, b6⟩ := hbm
    refine ⟨bm, ob, b1, b2, fun z => ?_, fun z => ?_, B.stays b3 (fun z => ?_) (fun z => ?_), b4, b5, b6⟩
    · rw [z] at b3
      rw [← Option.some.inj (eg.symm.trans b3), dg] at b6
      cases b6
    · rw [z] at b3
      rw [← Option.some.inj (et.symm.trans b3)] at b4
      cases b4
    · rw [z] at b4
      cases b4
    · rw [z] at b4
      injection b4 with b4
      exact absurd b4 (by decide)
  · rw [z] at eg
    rw [← Option.some.inj (et.symm.trans eg)] at dg
    cases dg
/-- what the call leaves -/
theorem old {s' : Shared} {H' : Hp} (un : Un (frs []) [] (sH K a vs ns Ts) H' s.heap s'.heap) (hk : HOk P w H' s'.heap) (ct : ∀ t ∈ Ts, isCodeTable s.heap t) : OldK s.heap s'.heap := by
  have rest : ∀ b o, ¬ b ∈ Ts → s.heap.get? b = some o → s'.heap.get? b = some o := fun b o nb e => by
    match h : sH K a vs ns Ts b with
    | none => exact un.keep b o e h (fun z => nomatch z) (fun z => nomatch z)
    | some u =>
      rcases sH_some h with ⟨hb, _⟩ | ⟨rfl, _, rfl⟩
      · exact absurd hb nb
      · obtain ⟨z, _⟩ := hk b _ (un.frzs b _ _ h)
        rw [← Option.some.inj (B.sc.symm.trans e)]
        exact z
  have tabs : ∀ t ∈ Ts, ∃ more : Array Value, s'.heap.get? t = some { cls := .none, data := .fields more } := fun t ht => by
    obtain ⟨more, z⟩ := un.tbls t #[] (sH_tab ht)
    exact ⟨_, hk t _ z⟩
  constructor
  · intro b o e
    by_cases hb : b ∈ Ts
    · obtain ⟨more, hm⟩ := tabs b hb
      obtain rfl := Option.some.inj (e.symm.trans (B.tb b hb))
      refine .inr (.inl ⟨ct b hb, rfl, #[], more, rfl, ?_⟩)
      rw [Array.empty_append]
      exact hm
    · exact .inl (rest b o hb e)
  · intro b o e
    by_cases hb : b ∈ Ts
    · obtain ⟨more, hm⟩ := tabs b hb
      exact ⟨_, hm⟩
    · exact ⟨_, rest b o hb e⟩
/-- the call -/
theorem call {k : Nat} {fa : Addr} {fd : FuncData} {x : Str} {sp : Sp} (hr : Room k callerA) (F : FnOkG P w K mg (hidT s.heap (sH K a vs ns Ts)) k fa fd [x] sp) (hb : BindsTo s fd ⟨[.ref a], []⟩ [(x, .ref a)]) (ct : ∀ t ∈ Ts, isCodeTable s.heap t)
    (hsp : sp [.ref a] (sH K a vs ns Ts) (fun v _ => v = .bl true) E0) : codeAny (model P w) callerA (.call (.ref fa) ⟨[.ref a], []⟩) (fun r s' => (r = .ok (.ret (.bool true)) ∧ OldK s.heap s'.heap) ∧ s'.os = s.os ∧ AllBare s'.gens) s := by
  refine codeAny_mono (F.run callerA [] s (sH K a vs ns Ts) _ [.ref a] [.ref a] (fun v _ => v = .bl true) rfl hr B.env hb (.cons rfl .nil) hsp) fun r s' h => ?_
  match r, h with
  | .ok (.ret u), ⟨v, H', h1, h2, h3, h4, h5, h6⟩ =>
    have h6 : v = .bl true := h6
    rw [h6] at h5
    have h5 : u = .bool true := h5
    rw [h5]
    exact ⟨⟨rfl, B.old h3 h4 ct⟩, h1, h2⟩
  | .error e, h => exact False.elim h
end Beg
end
theorem tabs_of {H : Hp} {T : List (Addr × Str)} (h : ∀ p ∈ T, H p.1 = some (.tbl #[])) : LamX.Tabs T H := fun p hp => ⟨#[], h p hp, trivial, fun pos cv z => by cases z⟩
/-- the law's end with tables, its promise kept where no repr is under way -/
theorem end_walkG {l : PySem.W.OpenLaw} {q : Program} {loose : List Str} {XP : (Str → Option Value) → Heap → Prop} {YP : World → Heap → Prop} {d : DefRec} {K : Params → PySem.W.Frag} {k : Nat} {x : Str} {Ts : List Addr} {sp : PySem.W.Frag → Sp} (hn : l.most = some 63) (hdf : d.params.defaults = []) (hr : Room k callerA)
    (hY : ∀ (w : World) (h : Heap), YP w h → (K w.params).In h) (hT : ∀ (w : World) (h : Heap), YP w h → ∀ t ∈ Ts, h.get? t = some noO) (nT : ∀ w : World, ∀ t ∈ Ts, (K w.params).lookup t = none)
    (hsp : ∀ (K : PySem.W.Frag) (H : Hp) (a : Addr) (ns : List Int), ns.length ≤ 63 → (∀ t ∈ Ts, H t = some (.tbl #[])) → SqL K H a (ns.map V.int) → sp K [.ref a] H (fun v _ => v = .bl true) E0)
    (F : ∀ (w : World) (mg : Str → Option Value) (fa : Addr) (h : Heap), (K w.params).In h → h.Ns mainGlobals mg → mg d.name = some (.ref fa) →
      ∃ (fd : FuncData) (cs : Addr → Addr), (∀ t ∈ Ts, PySem.W.codeHdIn (K w.params) (cs t) t = true) ∧ (∀ (s : Shared) (u : Value), BindsTo s fd ⟨[u], []⟩ [(x, u)]) ∧ ∀ base : Heap, (K w.params).In base → base.Ns mainGlobals mg → (∀ t ∈ Ts, LamX.TabB base mg (cs t) t) → FnOkG l.prog w (K w.params) mg base k fa fd [x] (sp (K w.params))) :
    PySem.W.WalkO q loose XP YP l.row.toRowW d [] (fun f vs => PySem.call f vs) := by
  refine Att.attach_callB hn hdf fun w _ s₁ mg mb fa _ _ _ _ a vs ns G Y _ _ _ hmg hobj iz hlen _ hg => ?_
  have KX := hY w _ Y
  obtain ⟨fd, cs, hc, hb, hF⟩ := F w mg fa _ KX G.T.g hmg
  have B : Beg l.prog w (K w.params) mg s₁ a vs ns Ts := ⟨KX, G.T.g, ⟨mb, G.T.b, G.T.builtins⟩, G.T.nolimit, hg, hobj, iz, Nat.le_trans hlen (by decide), hT w _ Y, nT w⟩
  have hd : ∀ t ∈ Ts, PySem.W.CodeHd s₁.heap (cs t) t := fun t ht => PySem.W.codeHd_of_K KX (hc t ht)
  refine codeAny_mono (B.call hr (hF _ B.kin0 (B.ns0 G.T.g) fun t ht => B.tabB ht (hd t ht) G.T.bmain) (hb s₁ _) (fun t ht => ((hd t ht).tab (B.tb t ht)).isCodeTable) (hsp _ _ a ns hlen (fun t ht => sH_tab ht) B.script)) fun r s' h => ?_
  obtain ⟨⟨h1, h2⟩, h3, h4⟩ := h
  exact ⟨h1, h2, h3, h4⟩
/-- one table -/
theorem end_walkG1 {l : PySem.W.OpenLaw} {q : Program} {loose : List Str} {XP : (Str → Option Value) → Heap → Prop} {YP : World → Heap → Prop} {d : DefRec} {K : Params → PySem.W.Frag} {k : Nat} {x : Str} {t : Addr} {sp : PySem.W.Frag → Sp} (hn : l.most = some 63) (hdf : d.params.defaults = []) (hr : Room k callerA)
    (hY : ∀ (w : World) (h : Heap), YP w h → (K w.params).In h) (hT : ∀ (w : World) (h : Heap), YP w h → h.get? t = some noO) (nT : ∀ w : World, (K w.params).lookup t = none)
    (hsp : ∀ (K : PySem.W.Frag) (H : Hp) (a : Addr) (ns : List Int), ns.length ≤ 63 → H t = some (.tbl #[]) → SqL K H a (ns.map V.int) → sp K [.ref a] H (fun v _ => v = .bl true) E0)
    (F : ∀ (w : World) (mg : Str → Option Value) (fa : Addr) (h : Heap), (K w.params).In h → h.Ns mainGlobals mg → mg d.name = some (.ref fa) →
      ∃ (fd : FuncData) (c : Addr), PySem.W.codeHdIn (K w.params) c t = true ∧ (∀ (s : Shared) (u : Value), BindsTo s fd ⟨[u], []⟩ [(x, u)]) ∧ ∀ base : Heap, (K w.params).In base → base.Ns mainGlobals mg → LamX.TabB base mg c t → FnOkG l.prog w (K w.params) mg base k fa fd [x] (sp (K w.params))) :
    PySem.W.WalkO q loose XP YP l.row.toRowW d [] (fun f vs => PySem.call f vs) := by
  have one : ∀ {M : Addr → Prop}, M t → ∀ z ∈ [t], M z := fun h z hz => by rw [List.mem_singleton.mp hz]; exact h
  refine end_walkG (x := x) (Ts := [t]) hn hdf hr hY (fun w h Y => one (hT w h Y)) (fun w => one (nT w)) (fun K H a ns hl ht => hsp K H a ns hl (ht _ (.head _))) fun w mg fa h KX G hm => ?_
  obtain ⟨fd, c, h1, h2, h3⟩ := F w mg fa h KX G hm
  exact ⟨fd, fun _ => c, one h1, h2, fun base a b z => h3 base a b (z _ (.head _))⟩
end Cw
set_option Elab.async false
set_option linter.all false
set_option maxRecDepth 100000
set_option maxHeartbeats 4000000
/-! CwHeadK: the head with the law's heap told, by one run of the top over the tree -/
namespace CwTop
open PySem PySem.W PySem.Calls PyProof.Rows
/-- a hook named -/
def TagH (_ : Hook) : Prop := True
end CwTop
set_option Elab.async false
set_option linter.all false
set_option maxRecDepth 100000
set_option maxHeartbeats 4000000
/-! CwHeadKm: as CwHeadK, the tables of the code objects told too -/
namespace CwTop
open PySem PySem.W PySem.Calls PyProof.Rows
theorem headKm {r : OpenRow} {q : Program} {K : Params → PySem.W.Frag} {as ts : List Addr} {ek : ∀ P, as = (K P).map (·.1)} {M : Nat} {loose : List PySem.Str} {d : DefRec} {kwd : List (PySem.Str × PySem.Expr)} (_ : TagH (kmHook K as ek ts))
    (e : opening r.prog = plainProg r.prog.main.scope.names) (f : ∀ s, fenceModules? r.prog s = some s) (run : ∀ w, HandSHeadRun.RunEq r q (kmHook K as ek ts) (fun s => (as.map (HandSHeadRun.getT s), ts.map (HandSHeadRun.getT s))) M loose w)
    (hdef : defOf q r.name = some (d, kwd)) (hp : r.prog.theDef r.name = some (d.params, d.body, d.scope)) (hk : kwWritten? d.params.kwonlyargs d.params.kw_defaults = some kwd)
    (hwr : (!r.writes || r.records.isEmpty) = true) (k1 : r.wellSaid = true) (ok : (chainsOk q && opensWell r.prog && (frees r.toRowW && r.within.isEmpty)) = true) (hb : r.prog.bare) (hw : r.toRowW.promised)
    (call : WalkO q loose (XL q []) (kmHook K as ek ts).says r.toRowW d kwd fun f vs => PySem.call f vs) : r.Holds := by
  have ho : ∀ (s : SharedT) (l : List Addr), l.map (HandSHeadRun.getT s) = l.map s.abs.heap.get? := fun s l => List.map_congr_left fun a _ => HandSHeadRun.getT_eq s a
  exact HandSHeadRun.head_any (H := kmHook K as ek ts) (ob := fun s => (as.map (HandSHeadRun.getT s), ts.map (HandSHeadRun.getT s))) (fun s => by rw [ho s as, ho s ts]; rfl) e f run hdef hp hk hwr k1 ok hb hw call
end CwTop
set_option Elab.async false
set_option linter.all false
set_option maxRecDepth 100000
set_option maxHeartbeats 4000000
/-! C.f(..), f a static method; o.f, f a property -/
namespace Cw
open PySem PySem.Spec L2
/-- the static method f of the class at C -/
structure StAt (K : PySem.W.Frag) (C : Addr) (f qual : Str) (st : Stmt) : Prop where
  ex : ∃ (mc : Value) (p g : Addr) (rest : List Value) (fd : FuncData), ClX.CRead K C mc ∧ PySem.W.findCls K (.ref C) mc f = some (.get (.builtin "staticmethod.__get__") (.ref p) .none (.ref C)) ∧ PySem.W.recIn K p "staticmethod" = some (.ref g :: rest) ∧ Fun K f qual st g fd
structure StDef (P : Program) (w : World) (K : PySem.W.Frag) (mg : Str → Option Value) (base : Heap) (CX : CXT) (k : Nat) (C : Addr) (f : Str) (sp : Sp) : Prop where
  ex : ∃ (mc : Value) (p g : Addr) (rest : List Value) (fd : FuncData) (ps : List Str), ClX.CRead K C mc ∧ PySem.W.findCls K (.ref C) mc f = some (.get (.builtin "staticmethod.__get__") (.ref p) .none (.ref C)) ∧ PySem.W.recIn K p "staticmethod" = some (.ref g :: rest) ∧ PySem.W.keepIn K (.ref g) = true ∧ Binds K fd ps [] ∧ FnOk P w K mg base CX k g fd ps sp
/-- the property f of the class at C -/
structure PrAt (K : PySem.W.Frag) (C : Addr) (f qual : Str) (st : Stmt) : Prop where
  ex : ∃ (p g : Addr) (fd : FuncData), PropOf K C f p g ∧ Fun K f qual st g fd
structure PrDef (P : Program) (w : World) (K : PySem.W.Frag) (mg : Str → Option Value) (base : Heap) (CX : CXT) (k : Nat) (C : Addr) (f : Str) (sp : Sp) : Prop where
  ex : ∃ (p g : Addr) (fd : FuncData) (ps : List Str), PropOf K C f p g ∧ Binds K fd ps [] ∧ FnOk P w K mg base CX k g fd ps sp
section
variable {P : Program} {w : World} {K : PySem.W.Frag} {mg : Str → Option Value} {base : Heap} {CX : CXT} {j k : Nat} {C : Addr} {f qual : Str} {ps N : List Str} {sp : Sp} {st : Stmt}
theorem StDef.mono (D : StDef P w K mg base CX j C f sp) (h : j ≤ k) : StDef P w K mg base CX k C f sp := by
  obtain ⟨mc, p, g, rest, fd, ps, a, b, c, d, e, F⟩ := D.ex
  exact ⟨mc, p, g, rest, fd, ps, a, b, c, d, e, F.mono h⟩
theorem PrDef.mono (D : PrDef P w K mg base CX j C f sp) (h : j ≤ k) : PrDef P w K mg base CX k C f sp := by
  obtain ⟨p, g, fd, ps, a, b, F⟩ := D.ex
  exact ⟨p, g, fd, ps, a, b, F.mono h⟩
theorem StAt.ok (F : StAt K C f qual st) (S : FnScope N ps (defScope st))
    (hb : ∀ (kV doc pm : Value) (an : Option Addr) (cdv ct : Value) (us : List Value), us.length = ps.length → bindArgs (PySem.W.fnOf f qual (defArgs st) (defBody st) (defScope st) .none kV doc pm an cdv ct) ⟨us, []⟩ = pure (ps.zip us))
    (len : ∀ vs H Q E, sp vs H Q E → vs.length = ps.length)
    (hbody : ∀ (f : Addr) (cdv : Value) (A : Around) (outer : List Env) (s : Shared) (H : Hp) (vs : List V) (Q : VK) (E : XK), Room k (A.deeper (PyProof.Rows.envOfC qual (defScope st) s.heap.objs.size f cdv)) → sp vs H Q E →
      ∃ t, PSs (cxOf CX0 P w K mg base N qual (defScope st) f cdv A outer s H E).nox (defBody st) t ∧ t { nx := fun _ H' => Q .non H', rt := Q } (start N vs) H) : StDef P w K mg base CX0 (k + 1) C f sp := by
  obtain ⟨mc, p, g, rest, fd, a, b, c, G⟩ := F.ex
  exact ⟨mc, p, g, rest, fd, ps, a, b, c, G.kp, G.binds hb, G.ok S len fun cdv A outer s H vs Q E hr h => hbody g cdv A outer s H vs Q E hr h⟩
theorem PrAt.ok (F : PrAt K C f qual st) (S : FnScope N ps (defScope st))
    (hb : ∀ (kV doc pm : Value) (an : Option Addr) (cdv ct : Value) (us : List Value), us.length = ps.length → bindArgs (PySem.W.fnOf f qual (defArgs st) (defBody st) (defScope st) .none kV doc pm an cdv ct) ⟨us, []⟩ = pure (ps.zip us))
    (len : ∀ vs H Q E, sp vs H Q E → vs.length = ps.length)
    (hbody : ∀ (f : Addr) (cdv : Value) (A : Around) (outer : List Env) (s : Shared) (H : Hp) (vs : List V) (Q : VK) (E : XK), Room k (A.deeper (PyProof.Rows.envOfC qual (defScope st) s.heap.objs.size f cdv)) → sp vs H Q E →
      ∃ t, PSs (cxOf CX0 P w K mg base N qual (defScope st) f cdv A outer s H E).nox (defBody st) t ∧ t { nx := fun _ H' => Q .non H', rt := Q } (start N vs) H) : PrDef P w K mg base CX0 (k + 1) C f sp := by
  obtain ⟨p, g, fd, a, G⟩ := F.ex
  exact ⟨p, g, fd, ps, a, G.binds hb, G.ok S len fun cdv A outer s H vs Q E hr h => hbody g cdv A outer s H vs Q E hr h⟩
end
section
variable {X : Cx} {CX : CXT} {k : Nat} {C : Addr} {x f : Str} {sp : Sp} {E : XK} {e o : Expr} {es : List Expr} {p apos pos : PySem.Pos} {t : TA} {ta : TE} {pl : Sem Bool}
end
end Cw
set_option Elab.async false
set_option linter.all false
set_option maxRecDepth 100000
set_option maxHeartbeats 4000000
/-! what the top has left: static methods and properties -/
namespace Cw
open PySem PySem.Spec L2
section
variable {K : PySem.W.Frag} {m qual : Str} {st : Stmt} {C p g : Addr} {rest : List Value} {oc kV dc pm cd ct : Value} {od an : Option Addr} {sl : Array (Option Value)}
end
end Cw
set_option Elab.async false
set_option linter.all false
set_option maxRecDepth 100000
namespace CwTop
open PySem PySem.W PySem.Calls PyProof.Rows
abbrev topRow : OpenRow := OpenLaw.row PySem.Challenge.rw_crosswalls_k75_closed_floors_met_and_joi
abbrev topView : Program := view topRow.prog [topRow.prog.main.body.length - 1]
def topLoose : List PySem.Str := topRow.prog.boundNames.filter fun x => x != topRow.name
end CwTop
open PySem PySem.W PySem.Calls PyProof.Rows in
local macro_rules | `(tactic| o_head $H) => `(tactic| refine CwTop.headKm (r := CwTop.topRow) (q := CwTop.topView) (M := 9000) (loose := CwTop.topLoose) (show CwTop.TagH $H from trivial) (by kernel_rfl) (fun s => by kernel_rfl) (fun w => by intro os; kernel_rfl) (by rfl) (by rfl) (by rfl) (by rfl) (by first | assumption | decide +kernel) (by decide +kernel) ⟨rfl, rfl, rfl, rfl, rfl, by decide +kernel⟩ ?hw ?hc)
open PySem PySem.W PyProof.Rows in
set_option maxHeartbeats 0 in
open_top Cw.headOf for PySem.Challenge.rw_crosswalls_k75_closed_floors_met_and_joi
set_option Elab.async false
set_option linter.all false
set_option maxRecDepth 100000
set_option maxHeartbeats 4000000
namespace Cw
open PySem PySem.Spec L2
local macro_rules | `(tactic| walk_at "side") => `(tactic| first | omega | assumption | (dsimp only; omega) | (unfold CMul; omega) | exact ⟨by decide, by decide, by decide⟩ | exact wdiv (by first | assumption | decide | omega) (by first | assumption | decide | omega) | (simp only [List.length_cons, List.length_nil]; omega) | rfl)
local macro_rules | `(tactic| walk_at "hl") => `(tactic| first | assumption | exact upd_same | ((refine Cw.Same.at (by assumption) ?_); walk_at "hl") | ((refine Cw.Keep.at (by assumption) ?_ (by assumption)); walk_at "hl"))
local macro_rules | `(tactic| walk_at "st") => `(tactic| first
  | (with_reducible refine s_seq ?_) | (with_reducible refine g_nm ?_) | (with_reducible refine s_next ?_) | (with_reducible refine s_set ?_) | (with_reducible refine s_drop ?_) | (with_reducible refine s_ret ?_) | (with_reducible refine s_if ?_)
  | ((with_reducible refine e_varG ?_); refine ⟨_, (by with_unfolding_all rfl), ?_⟩) | (with_reducible refine e_c ?_) | (with_reducible refine e_op ?_) | (with_reducible refine e_un ?_)
  | (with_reducible refine e_cons ?_) | (with_reducible refine e_nil ?_) | (with_reducible refine e_cb ?_) | (with_reducible refine e_call ?_) | (with_reducible refine e_md ?_)
  | (with_reducible refine t_test ?_) | (with_reducible refine t_B ?_) | (with_reducible refine t_and ?_) | (with_reducible refine t_or ?_) | (with_reducible refine t_not ?_)
  | (with_reducible refine e_andV ?_) | (with_reducible refine e_orV ?_) | (with_reducible refine e_notV ?_) | (with_reducible refine e_if ?_)
  | (with_reducible refine v_I0 ?_) | ((with_reducible refine v_I ?c ?_); try (case c => walk_at "side")) | (with_reducible refine v_bl ?_)
  | ((with_reducible refine v_eq ?c ?_); (case c => with_unfolding_all rfl)) | ((with_reducible refine v_ne ?c ?_); (case c => with_unfolding_all rfl))
  | (with_reducible refine v_inti ?_) | (with_reducible refine v_intb ?_) | ((with_reducible refine v_lenG ?_); refine ⟨_, (by walk_at "hl"), ?_⟩)
  | ((with_reducible refine v_lenS ?c ?_); try (case c => walk_at "side"))
  | (with_reducible refine e_dnew ?_) | (with_reducible refine e_dget ?_) | (with_reducible refine s_dput ?_) | (with_reducible refine e_lst ?_) | (with_reducible refine e_tup ?_)
  | ((with_reducible refine v_lst ?c ?_); (case c => walk_at "side")) | ((with_reducible refine v_tup ?c ?_); (case c => walk_at "side"))
  | ((with_reducible refine v_dgetG ?_); refine ⟨_, (by assumption), ?_⟩)
  | (with_reducible refine e_sl ?_) | (with_reducible refine e_nopart ?_) | (with_reducible refine e_part ?_) | (with_reducible refine e_m1 ?_) | (with_reducible refine v_isS ?_) | (with_reducible refine v_int ?_)
  | (with_reducible refine e_lc ?_) | (with_reducible refine e_iStr ?_) | (with_reducible refine e_iEnumS ?_) | (with_reducible refine v_iEnumS ?_) | (with_reducible refine v_str ?_) | (with_reducible refine e_yes ?_) | (with_reducible refine e_fld ?_) | (with_reducible refine e_sfld ?_)
  | ((with_reducible refine v_addS ?c ?_); try (case c => walk_at "side")) | (with_reducible refine v_inS ?_) | (with_reducible refine v_notInS ?_) | (with_reducible refine v_ltS ?_)
  | ((with_reducible refine v_inLG ?_); refine ⟨_, (by walk_at "hl"), ?_⟩) | (with_reducible refine v_isiS ?_) | (with_reducible refine e_revS ?_) | ((with_reducible refine v_revS ?c ?_); try (case c => walk_at "side"))
  | ((with_reducible refine v_lenSetG ?_); refine ⟨_, (by walk_at "hl"), ?_⟩)
  | (with_reducible refine e_bm ?_) | (with_reducible refine e_bm0 ?_) | ((with_reducible refine v_tyLG ?_); refine ⟨_, (by walk_at "hl"), ?_⟩)
  | (with_reducible refine iteNT ?_) | (with_reducible refine iteNF ?_) | (with_reducible refine e_for ?_)
  | (with_reducible refine e_iL ?_) | (with_reducible refine e_iT ?_) | ((with_reducible refine v_iLG ?_); refine ⟨_, (by walk_at "hl"), ?_⟩) | (with_reducible refine e_iR1 ?_) | ((with_reducible refine v_iR1 ?c1 ?c2 ?_); try (case c1 => walk_at "side"); try (case c2 => walk_at "side"))
  | (with_reducible refine e_iR2 ?_) | ((with_reducible refine v_iR2 ?c1 ?_); try (case c1 => walk_at "side"))
  | (with_reducible refine e_pr0 ?_) | (with_reducible refine e_pr ?_) | (with_reducible refine e_disp ?_) | (with_reducible refine s_asgT ?_) | (with_reducible refine e_tryA ?_) | (with_reducible refine e_callS ?_) | (with_reducible refine e_mdS ?_) | (with_reducible refine e_par ?_) | (with_reducible refine v_par ?_) | (with_reducible refine e_par3 ?_) | (with_reducible refine v_par3 ?_) | (with_reducible refine e_iK ?_) | (with_reducible refine e_dnotin ?_)
  | (with_reducible refine iteT ?_) | (with_reducible refine iteF ?_))
local macro_rules | `(tactic| walk_at "go") => `(tactic| repeat walk_at "st")
section
open PySem PySem.Spec L2
def top (i : Nat) : Stmt := PySem.Challenge.pw_crosswalls_k75_closed_floors_met_and_joi.main.body.getD i (.Pass ⟨0, 0, 0, 0⟩)
/-! ### the pen -/
def penL (cl : Addr) (a r : Int) : List (Key × V) := [(Sum.inr "cells", .ref cl), (Sum.inr "begun", .int a), (Sum.inr "left", .int r)]
structure Pen where
  p : Addr
  cl : Addr
  cells : List Int
structure PenAt (g : Pen) (H : Hp) (n : Nat) : Prop where
  ex : ∃ (a r : Int), H g.p = some (.dK (penL g.cl a r)) ∧ H g.cl = some (.lst (g.cells.map V.int)) ∧ g.cells.length ≤ 63 ∧ 0 ≤ a ∧ a ≤ n ∧ 0 ≤ r
section
variable {g : Pen} {H H' : Hp} {n m : Nat} {q : Addr}
theorem PenAt.mono (h : PenAt g H n) (l : n ≤ m) : PenAt g H m := by
  obtain ⟨a, r, h1, h2, h3, h4, h5, h6⟩ := h.ex
  exact ⟨a, r, h1, h2, h3, h4, by omega, h6⟩
theorem PenAt.same (h : PenAt g H n) (s : Same H H') : PenAt g H' n := by
  obtain ⟨a, r, h1, h2, h3, h4, h5, h6⟩ := h.ex
  exact ⟨a, r, s _ _ h1, s _ _ h2, h3, h4, h5, h6⟩
theorem PenAt.keep (h : PenAt g H n) (s : Keep q H H') (n1 : g.p ≠ q) (n2 : g.cl ≠ q) : PenAt g H' n := by
  obtain ⟨a, r, h1, h2, h3, h4, h5, h6⟩ := h.ex
  exact ⟨a, r, s _ _ h1 n1, s _ _ h2 n2, h3, h4, h5, h6⟩
theorem PenAt.p_ne (h : PenAt g H n) (s : H q = none) : g.p ≠ q := by
  obtain ⟨a, r, h1, h2, h3, h4, h5, h6⟩ := h.ex
  exact ne_of_none h1 s
theorem PenAt.cl_ne (h : PenAt g H n) (s : H q = none) : g.cl ≠ q := by
  obtain ⟨a, r, h1, h2, h3, h4, h5, h6⟩ := h.ex
  exact ne_of_none h2 s
end
theorem kcp : ¬ ((Sum.inr ("cells" : Str) : Key) = Sum.inr ("begun" : Str)) := by decide +kernel
theorem kcr : ¬ ((Sum.inr ("cells" : Str) : Key) = Sum.inr ("left" : Str)) := by decide +kernel
theorem kpr : ¬ ((Sum.inr ("begun" : Str) : Key) = Sum.inr ("left" : Str)) := by decide +kernel
section
variable {H : Hp} {p cl : Addr} {a r z : Int}
theorem pen_cells (h : H p = some (.dK (penL cl a r))) : DGet H p (.str "cells") (some (.ref cl)) := by
  have e := DGet.k (k := Sum.inr "cells") h
  rw [penL, valV_pos rfl] at e
  exact e
theorem pen_place (h : H p = some (.dK (penL cl a r))) : DGet H p (.str "begun") (some (.int a)) := by
  have e := DGet.k (k := Sum.inr "begun") h
  rw [penL, valV_neg kcp, valV_pos rfl] at e
  exact e
theorem pen_rest (h : H p = some (.dK (penL cl a r))) : DGet H p (.str "left") (some (.int r)) := by
  have e := DGet.k (k := Sum.inr "left") h
  rw [penL, valV_neg kcr, valV_neg kpr, valV_pos rfl] at e
  exact e
theorem put_place : putK (penL cl a r) (Sum.inr "begun") (.int z) = penL cl z r := by
  unfold putK penL
  rw [if_pos (by rw [valV_any]; first | (rw [valV_neg kcp, valV_pos rfl] <;> rfl) | (rw [valV_neg kcr, valV_neg kpr, valV_pos rfl] <;> rfl))]
  show [(if _ then _ else _), (if _ then _ else _), (if _ then _ else _)] = _
  rw [if_neg kcp, if_pos rfl, if_neg (fun e => kpr e.symm)]
theorem put_rest : putK (penL cl a r) (Sum.inr "left") (.int z) = penL cl a z := by
  unfold putK penL
  rw [if_pos (by rw [valV_any]; first | (rw [valV_neg kcp, valV_pos rfl] <;> rfl) | (rw [valV_neg kcr, valV_neg kpr, valV_pos rfl] <;> rfl))]
  show [(if _ then _ else _), (if _ then _ else _), (if _ then _ else _)] = _
  rw [if_neg kcr, if_neg kpr, if_pos rfl]
theorem pen_setPlace (h : H p = some (.dK (penL cl a r))) : DPut H p (.str "begun") (.int z) (upd H p (.dK (penL cl z r))) := by
  have e := DPut.k (k := Sum.inr "begun") (v := .int z) h (by show 3 < sizeLine; decide)
  rw [put_place] at e
  exact e
theorem pen_setRest (h : H p = some (.dK (penL cl a r))) : DPut H p (.str "left") (.int z) (upd H p (.dK (penL cl a z))) := by
  have e := DPut.k (k := Sum.inr "left") (v := .int z) h (by show 3 < sizeLine; decide)
  rw [put_rest] at e
  exact e
end
/-! ### the module's built-in names -/
structure Txt (K : PySem.W.Frag) (mg : Str → Option Value) : Prop where
  len : mg "len" = none
  int : mg "int" = none
  list : mg "list" = none
def spDraw : Sp := fun vs H Q _ => ∃ (g : Pen) (m : Int) (n : Nat), vs = [.ref g.p, .int m] ∧ 0 < m ∧ m < 1000000 ∧ PenAt g H n ∧ n < 1000000 ∧
  ∀ (z : Int) (H' : Hp), 0 ≤ z → z < m → PenAt g H' (n + 1) → Keep g.p H H' → Q (.int z) H'
section
variable {P : Program} {w : World} {K : PySem.W.Frag} {mg : Str → Option Value} {base : Heap}
end
end
section
open PySem PySem.Spec L2
structure Txt71 (K : PySem.W.Frag) (mg : Str → Option Value) : Prop extends Txt K mg where
  abs : mg "abs" = none
section
variable {P : Program} {w : World} {K : PySem.W.Frag} {mg : Str → Option Value} {base : Heap}
abbrev stdraw71 : Stmt := (top 40)
abbrev Ndraw71 : List Str := ["_law_pen", "_law_span", "_law_digit", "_law_at", "_law_cell", "_law_n"]
theorem scdraw71 : FnScope Ndraw71 ["_law_pen", "_law_span"] (defScope stdraw71) := ⟨rfl, rfl, rfl, by decide +kernel, rfl, by decide +kernel, by decide +kernel⟩

theorem ok_draw71 (F : FnAt K mg "_law_draw" stdraw71) (T : Txt71 K mg) : Def P w K mg base CX0 1 "_law_draw" ["_law_pen", "_law_span"] spDraw := by
  refine F.ok scdraw71 (fun _ _ _ _ _ _ us hl => match us, hl with | [_, _], _ => rfl) (fun vs H Q E h => ?_) (fun f cdv A outer s H vs Q E hr h => ?_)
  · obtain ⟨p, m, n, rfl, _⟩ := h
    rfl
  obtain ⟨⟨p, cl, cells⟩, m, n, rfl, hm0, hm1, hp, hn, k⟩ := h
  have hu := hu_of hr
  have nd := scdraw71.nd
  refine ⟨_, (pss_cons (ps_if (pt_cmpR op_gt (pe_dget hu (pv 0) pe_str (fun _ _ => rfl)) pe_int (nomark _))
      (pss_cons (ps_set (i := 2) nd rfl (Or.inl rfl) (pe_op op_mod (pe_callTy c_int (by rfl) T.int (by decide +kernel) (pa_cons (pe_dget hu (pv 0) pe_str (fun _ _ => rfl)) pa_nil)) (pv 1)))
        (pss_cons (ps_dput hu (pv 0) pe_str (pe_op op_fdivW (pe_dget hu (pv 0) pe_str (fun _ _ => rfl)) (pv 1)) rfl)
        (pss_one (ps_ret (pv 2)))))
      pss_nil)
      (pss_cons (ps_set (i := 3) nd rfl (Or.inl rfl) (pe_dget hu (pv 0) pe_str (fun _ _ => rfl)))
      (pss_cons (ps_dput hu (pv 0) pe_str (pe_op op_add (pv 3) pe_int) rfl)
      (pss_cons (ps_set (i := 4) nd rfl (Or.inl rfl) (pe_op op_add (pe_op op_mul pe_int (pv 3)) pe_int))
      (pss_cutS (ps_if (pt_cmpR (op_neDK (K := K) rfl hr.units) (pe_dget hu (pv 0) pe_str (fun _ _ => rfl)) (pe_lst pa_nil) (nomark _))
      (pss_one (ps_set (i := 4) nd rfl (Or.inl rfl) (pe_ix (ix_LK (K := K) rfl) (pe_dget hu (pv 0) pe_str (fun _ _ => rfl)) (pe_op op_mod (pe_callTy c_int (by rfl) T.int (by decide +kernel) (pa_cons (pv 3) pa_nil)) (pe_callB (c_lenK (K := K) rfl) (by rfl) T.len PySem.boot_len (pa_cons (pe_dget hu (pv 0) pe_str (fun _ _ => rfl)) pa_nil))) (fun _ _ => rfl))))
      pss_nil)
      (pss_cutS (ps_if (PW.pt (pw_and (pt_cmpR op_lt (pv 3) (pe_callB (c_lenK (K := K) rfl) (by rfl) T.len PySem.boot_len (pa_cons (pe_dget hu (pv 0) pe_str (fun _ _ => rfl)) pa_nil)) (nomark _)) (pw_and1 (pt_cmpR op_ge (pe_callB c_abs (by rfl) T.abs (by decide +kernel) (pa_cons (pv 4) pa_nil)) (pe_op op_pow pe_int pe_int) (nomark _)))))
      (pss_cons (ps_dput hu (pv 0) pe_str (pe_op op_fdivW (pe_op op_sub (pe_callB c_abs (by rfl) T.abs (by decide +kernel) (pa_cons (pv 4) pa_nil)) (pe_op op_pow pe_int pe_int)) (pv 1)) rfl)
        (pss_one (ps_ret (pe_op op_mod (pe_callTy c_int (by rfl) T.int (by decide +kernel) (pa_cons (pe_op op_sub (pe_callB c_abs (by rfl) T.abs (by decide +kernel) (pa_cons (pv 4) pa_nil)) (pe_op op_pow pe_int pe_int)) pa_nil)) (pv 1)))))
      pss_nil)
      (pss_cons (ps_set (i := 5) nd rfl (Or.inl rfl) (pe_op op_mod (pe_callTy c_int (by rfl) T.int (by decide +kernel) (pa_cons (pe_op op_add (pe_op op_add (pe_op op_add (pe_op op_mul (pe_op op_mod (pe_callTy c_int (by rfl) T.int (by decide +kernel) (pa_cons (pv 4) pa_nil)) pe_int) pe_int) (pe_op op_mul (pe_op op_mul pe_int (pv 3)) (pv 3))) (pe_op op_mul pe_int (pv 3))) pe_int) pa_nil)) pe_int))
      (pss_cons (ps_set (i := 5) nd rfl (Or.inl rfl) (pe_op op_mod (pe_callTy c_int (by rfl) T.int (by decide +kernel) (pa_cons (pe_op op_add (pe_op op_add (pe_op op_add (pe_op op_mul (pv 5) (pv 5)) (pe_op op_mul pe_int (pv 5))) (pe_op op_mul pe_int (pv 3))) pe_int) pa_nil)) pe_int))
      (pss_cons (ps_set (i := 5) nd rfl (Or.inl rfl) (pe_op op_mod (pe_callTy c_int (by rfl) T.int (by decide +kernel) (pa_cons (pe_op op_add (pe_op op_add (pe_op op_mul (pv 5) (pv 5)) (pe_op op_mul pe_int (pv 5))) (pv 3)) pa_nil)) pe_int))
      (pss_one (ps_ret (pe_op op_mod (pe_callTy c_int (by rfl) T.int (by decide +kernel) (pa_cons (pe_op op_fdivW (pe_op op_mod (pe_callTy c_int (by rfl) T.int (by decide +kernel) (pa_cons (pe_op op_mul (pv 5) (pe_op op_add (pv 5) pe_int)) pa_nil)) pe_int) pe_int) pa_nil)) (pv 1))))))))))))), ?_⟩
  refine s_start [some _, some _, none, none, none, none] rfl ?_
  obtain ⟨a, r, h1, h2, h3, h4, h5, h6⟩ := hp.ex
  dsimp only at h1 h2 h3 k ⊢
  have g1 := pen_rest h1
  have g2 := pen_place h1
  have g3 := pen_cells h1
  have fin : ∀ (H2 : Hp) (a2 r2 z : Int), H2 p = some (.dK (penL cl a2 r2)) → Keep p H H2 → 0 ≤ a2 → a2 ≤ a + 1 → 0 ≤ r2 → 0 ≤ z → z < m → Q (.int z) H2 := by
    intro H2 a2 r2 z e1 e2 e3 e4 e5 e6 e7
    have ne : cl ≠ p := ne_of h2 h1 (by intro z; cases z)
    exact k z H2 e6 e7 ⟨a2, r2, e1, e2 _ _ h2 ne, h3, e3, by omega, e5⟩ e2
  walk_at "go"
  refine if_dec (fun c => ?_) (fun c => ?_)
  · walk_at "go"
    refine v_put (pen_setRest h1) fun H1 s1 e1 => ?_
    walk_at "go"
    refine fin H1 _ _ _ e1 s1 h4 (by omega) (Int.ediv_nonneg h6 (by omega)) (Int.emod_nonneg _ (by omega)) (Int.emod_lt_of_pos _ hm0)
  · walk_at "go"
    refine v_put (pen_setPlace h1) fun H1 s1 e1 => ?_
    have ne : cl ≠ p := ne_of h2 h1 (by intro z; cases z)
    have h2' := s1 _ _ h2 ne
    have g1 := pen_rest e1
    have g3 := pen_cells e1
    walk_at "go"
    refine s_cut (fun σ' H' => ∃ c : Int, σ' = [some (.ref p), some (.int m), none, some (.int a), some (.int c), none] ∧ Same H1 H') ?_ ?_
    · walk_at "go"
      intro q H2 hq s2 e2
      refine v_neNilI (s2 _ _ h2') e2 ?_
      have g3 := pen_cells (s2 _ _ e1)
      walk_at "go"
      refine if_bool (fun c => ?_) (fun c => ?_)
      · have hne : 0 < cells.length := by
          cases cells with
          | nil => simp at c
          | cons _ _ => simp
        walk_at "go"
        · rw [List.length_map]; omega
        walk_at "go"
        rw [List.length_map]
        have hz0 : 0 ≤ a % (cells.length : Int) := Int.emod_nonneg _ (by omega)
        have hz1 : a % (cells.length : Int) < cells.length := Int.emod_lt_of_pos _ (by omega)
        have hlt : (a % (cells.length : Int)).toNat < cells.length := by omega
        refine v_ixL (s2 _ _ h2') (at_of (j := (a % (cells.length : Int)).toNat) (by omega) (by rw [List.getElem?_map, List.getElem?_eq_getElem hlt]; rfl)) ?_
        exact ⟨_, rfl, s2⟩
      · walk_at "go"
        exact ⟨_, rfl, s2⟩
    · rintro σ' H2 ⟨c, rfl, s2⟩
      have e2 := s2 _ _ e1
      have h22 := s2 _ _ h2'
      have g3 := pen_cells e2
      have kk : Keep p H H2 := s1.trans (Keep.of s2)
      have ze : (10 : Int) ^ (18 : Int).toNat = 1000000000000000000 := by decide
      refine s_cut (fun σ' H' => σ' = [some (.ref p), some (.int m), none, some (.int a), some (.int c), none] ∧ H' = H2) ?_ ?_
      · walk_at "go"
        refine if_dec (fun c1 => ?_) (fun c1 => ?_)
        · walk_at "go"
          refine v_abs ?_
          walk_at "go"
          rw [ze]
          refine if_dec (fun c2 => ?_) (fun c2 => ?_)
          · walk_at "go"
            refine v_abs ?_
            walk_at "go"
            rw [ze]
            refine v_put (pen_setRest e2) fun H3 s3 e3 => ?_
            walk_at "go"
            refine v_abs ?_
            walk_at "go"
            rw [ze]
            exact fin H3 _ _ _ e3 (kk.trans s3) (by omega) (by omega) (Int.ediv_nonneg (by omega) (by omega)) (Int.emod_nonneg _ (by omega)) (Int.emod_lt_of_pos _ hm0)
          · walk_at "go"
            exact ⟨rfl, rfl⟩
        · walk_at "go"
          exact ⟨rfl, rfl⟩
      · rintro σ' H' ⟨rfl, rfl⟩
        walk_at "go"
        exact fin H' _ _ _ e2 kk (by omega) (by omega) h6 (Int.emod_nonneg _ (by omega)) (Int.emod_lt_of_pos _ hm0)
end
end
section
open PySem PySem.Spec L2
def RowTu (H : Hp) (q : Addr) (r : List Nat) : Prop := H q = some (.tup (numV r))
abbrev TabT (H : Hp) (t : Addr) (T : List (List Nat)) : Prop := RefsT RowTu H t T
theorem TabT.keep {H H' : Hp} {t : Addr} {T : List (List Nat)} (h : TabT H t T) (s : Same H H') : TabT H' t T := h.same s fun p a e => s _ _ e
theorem walk_tabT {α : Type} {K : PySem.W.Frag} {t : Addr} {E : List (α × Addr)} : Walk (Itt K t) E.length (fun H => SqT K H t (refV E)) (fun k H x H' => H' = H ∧ ∃ e, E[k]? = some e ∧ x = V.ref e.2) := by
  have w := walk_tup (K := K) (a := t) (xs := refV E)
  rw [List.length_map] at w
  refine w.mono (fun _ z => z) fun i H x H' hi _ y => ?_
  obtain ⟨rfl, e⟩ := y
  rw [List.getElem?_map] at e
  obtain ⟨z, h1, h2⟩ := Option.map_eq_some_iff.mp e
  exact ⟨rfl, z, h1, h2.symm⟩
theorem num_at {l : List Nat} {i : Nat} (h : i < l.length) : (numV l)[i]? = some (.int ((l.getD i 0 : Nat) : Int)) := by
  unfold numV
  rw [List.getElem?_map, List.getD_eq_getElem?_getD, List.getElem?_eq_getElem h]
  rfl
structure TxtCl (K : PySem.W.Frag) (mg : Str → Option Value) : Prop extends Txt71 K mg where
  tuple : mg "tuple" = none
  enumerate : mg "enumerate" = none
def spFoundP : Sp := fun vs H Q _ => ∃ (t : Addr) (T : List (List Nat)) (n first : Nat), vs = [.ref t, .int ((first : Nat) : Int)] ∧ TabT H t T ∧ OkT n T ∧ first < n ∧ n ≤ 1000 ∧ ∀ p H', H p = none → Same H H' → H' p = some (.lst (numV (bfs T n first))) → Q (.ref p) H'
section
variable {P : Program} {w : World} {K : PySem.W.Frag} {mg : Str → Option Value} {base : Heap}
abbrev stfound_places : Stmt := (top 29)
abbrev Nfound_places : List Str := ["rows", "first", "found", "seen", "at", "row", "place"]
theorem scfound_places : FnScope Nfound_places ["rows", "first"] (defScope stfound_places) := ⟨rfl, rfl, rfl, by decide +kernel, rfl, by decide +kernel, by decide +kernel⟩

theorem ok_found_places (F : FnAt K mg "found_places" stfound_places) (T : TxtCl K mg) : Def P w K mg base CX0 1 "found_places" ["rows", "first"] spFoundP := by
  refine F.ok scfound_places (fun _ _ _ _ _ _ us hl => match us, hl with | [_, _], _ => rfl) (fun vs H Q E h => ?_) (fun f cdv A outer s H vs Q E hr h => ?_)
  · obtain ⟨t, T, n, first, rfl, _⟩ := h
    rfl
  obtain ⟨t, TT, n, first, rfl, hT, okT, lf, ln, k⟩ := h
  have hu := hu_of hr
  have nd := scfound_places.nd
  refine ⟨_, (pss_cons (ps_set (i := 2) nd rfl (Or.inl rfl) (pe_lst (pa_cons (pv 1) pa_nil)))
      (pss_cons (ps_set (i := 3) nd rfl (Or.inl rfl) (pe_disp (pps_cons (pv 1) pe_bl pps_nil) (by rfl) (by rfl) (fun z => by cases z) (by decide)))
      (pss_cons (ps_set (i := 4) nd rfl (Or.inl rfl) pe_int)
      (pss_cutS (ps_while PassesOwn.never (pt_cmpR op_lt (pv 4) (pe_callB (c_lenK (K := K) rfl) (by rfl) T.len PySem.boot_len (pa_cons (pv 2) pa_nil)) (nomark _))
      (pss_cons (ps_for PassesOwn.never rfl (pi_tupK (K := K) rfl (pv 0)) (pg_name (i := 5) nd rfl (Or.inl rfl))
        (pss_cons (ps_set (i := 6) nd rfl (Or.inl rfl) (pe_ix (ix_TK (K := K) rfl) (pv 5) (pe_ix (ix_LK (K := K) rfl) (pv 2) (pv 4) (fun _ _ => rfl)) (fun _ _ => rfl)))
          (pss_one (ps_if (pt_cmp (pc_dnotin hu (pv 6) (pv 3)))
          (pss_cons (ps_dput hu (pv 3) (pv 6) pe_bl rfl)
            (pss_one (ps_expr (pe_appK (K := K) rfl (pv 2) (pv 6)))))
          pss_nil))))
        (pss_one (ps_aug (i := 4) nd rfl (Or.inl rfl) pe_int ip_add))))
      (pss_one (ps_ret (pv 2))))))), ?_⟩
  refine s_start [some _, some _, none, none, none, none, none] rfl ?_
  obtain ⟨E, e1, e2, e3⟩ := hT.ex
  walk_at "go"
  intro fo H1 hfo s1 efo
  walk_at "go"
  intro se hse
  refine e_pr ?_
  walk_at "go"
  refine ⟨upd_same, [(Sum.inl ((first : Nat) : Int), .bl true)], rfl, (by show 1 ≤ 15; decide), ?_⟩
  have em : upd (upd H1 se (.dK [])) se (.dK (mergeK [] [((Sum.inl ((first : Nat) : Int) : Key), V.bl true)])) = upd H1 se (.dK (nKV [first] fun _ => .bl true)) := by
    funext b
    by_cases c : b = se
    · subst c
      rw [upd_same, upd_same]
      rfl
    · rw [upd_ne c, upd_ne c, upd_ne c]
  rw [em]
  have s2 : Same H1 (upd H1 se (.dK (nKV [first] fun _ => .bl true))) := Same.new hse
  have ese : upd H1 se (.dK (nKV [first] fun _ => .bl true)) se = some (.dK (nKV [first] fun _ => .bl true)) := upd_same
  generalize upd H1 se (.dK (nKV [first] fun _ => .bl true)) = H2 at s2 ese
  walk_at "go"
  have nfs : fo ≠ se := ne_of_none efo hse
  have hse0 : H se = none := Same.free s1 hse
  refine s_cut (fun σ H' => ∃ y4 y5 y6, σ = [some (.ref t), some (.int ((first : Nat) : Int)), some (.ref fo), some (.ref se), y4, y5, y6] ∧ Same H H' ∧ H' fo = some (.lst (numV (bfs TT n first)))) ?_ ?_
  · refine s_while (fun m σ H' => ∃ i fd y5 y6, m + i = n + 1 ∧ σ = [some (.ref t), some (.int ((first : Nat) : Int)), some (.ref fo), some (.ref se), some (.int ((i : Nat) : Int)), y5, y6] ∧ FdOk n fd ∧ i ≤ fd.length ∧ fp TT m i fd = bfs TT n first ∧ H' fo = some (.lst (numV fd)) ∧ H' se = some (.dK (nKV fd fun _ => .bl true)) ∧ Same H H') (n + 1) ⟨0, [first], _, _, rfl, rfl, .one lf, Nat.zero_le _, rfl, s2 _ _ efo, ese, s1.trans s2⟩ ?_
    rintro m σ H3 ⟨i, fd, y5, y6, hm, rfl, fok, li, efp, e1', e2', s3⟩
    have lfd := fok.len
    walk_at "go"
    have lnm : (numV fd).length = fd.length := List.length_map _
    refine if_dec (fun c => ?_) (fun c => ?_)
    · have ci : i < fd.length := by omega
      obtain ⟨m', rfl⟩ : ∃ m', m = m' + 1 := ⟨m - 1, by omega⟩
      have hx : fd.getD i 0 < n := fok.lt _ (getD_mem ci)
      have efp2 : fp TT m' (i + 1) (addT TT (fd.getD i 0) fd) = bfs TT n first := by
        rw [← efp]
        show _ = if i < fd.length then _ else _
        rw [if_pos ci]
      refine v_turn ?_
      generalize hxd : fd.getD i 0 = x at hx efp2
      walk_at "go"
      refine ⟨_, rfl, ⟨_, SqT.of (s3 _ _ e2)⟩, ?_⟩
      refine for_it (walk_tabT (K := K) (E := E)) (fun j σ H' => ∃ y5 y6, σ = [some (.ref t), some (.int ((first : Nat) : Int)), some (.ref fo), some (.ref se), some (.int ((i : Nat) : Int)), y5, y6] ∧ FdOk n (addT (TT.take j) x fd) ∧ H' fo = some (.lst (numV (addT (TT.take j) x fd))) ∧ H' se = some (.dK (nKV (addT (TT.take j) x fd) fun _ => .bl true)) ∧ Same H H') ⟨_, _, rfl, fok, e1', e2', s3⟩ ?_ ?_ ?_
      · rintro j σ H' _ ⟨_, _, _, _, _, _, sH⟩
        exact SqT.of (sH _ _ e2)
      · rintro j v σ H4 H5 hj ⟨y5, y6, rfl, fok4, e14, e24, s4⟩ ⟨rfl, e, he, rfl⟩
        have em := List.mem_of_getElem? he
        have hr : TT[j]? = some e.1 := by rw [← e1, List.getElem?_map, he]; rfl
        have er : H5 e.2 = some (.tup (numV e.1)) := s4 _ _ (e3 e em)
        have eT : e.1 ∈ TT := List.mem_of_getElem? hr
        have hp : e.1.getD x 0 < n := okT.get eT hx
        have nx : addT (TT.take (j + 1)) x fd = if e.1.getD x 0 ∈ addT (TT.take j) x fd then addT (TT.take j) x fd else addT (TT.take j) x fd ++ [e.1.getD x 0] := by rw [take_succ_get hr, addT_snoc]
        obtain ⟨qq, hqq⟩ := addT_pre (TT.take j) x fd
        have gi : (addT (TT.take j) x fd).getD i 0 = x := by
          rw [hqq, List.getD_eq_getElem?_getD, List.getElem?_append_left ci, ← List.getD_eq_getElem?_getD, hxd]
        have li4 : i < (addT (TT.take j) x fd).length := by rw [hqq, List.length_append]; omega
        have l4 := fok4.len
        generalize addT (TT.take j) x fd = fd4 at *
        walk_at "go"
        refine v_ixL e14 (at_of (j := i) rfl (num_at li4)) ?_
        rw [gi]
        walk_at "go"
        refine v_ixT er (at_of (j := x) rfl (num_at (by rw [(okT _ eT).1]; exact hx))) ?_
        walk_at "go"
        by_cases c4 : e.1.getD x 0 ∈ fd4
        · refine v_dnotin (num_get e24 c4) ?_
          rw [if_pos c4] at nx
          walk_at "go"
          exact ⟨_, _, rfl, by rw [nx]; exact fok4, by rw [nx]; exact e14, by rw [nx]; exact e24, s4⟩
        · refine v_dnotin (num_not e24 c4) ?_
          rw [if_neg c4] at nx
          try walk_at "go"
          rw [if_pos (show (!(none : Option V).isSome) = true from rfl)]
          walk_at "go"
          refine v_put (num_put e24 c4 (by omega)) fun H6 k6 e6 => ?_
          walk_at "go"
          have e16 := k6 _ _ e14 nfs
          refine v_app e16 (by unfold numV; rw [List.length_map]; omega) fun H7 k7 e7 => ?_
          refine ⟨_, _, rfl, by rw [nx]; exact fok4.snoc hp c4, ?_, ?_, fun b o hb => k7 _ _ (k6 _ _ (s4 _ _ hb) (ne_of_none hb hse0)) (ne_of_none hb hfo)⟩
          · rw [nx, e7]
            unfold numV
            rw [List.map_append]
            rfl
          · rw [nx, k7 _ _ e6 nfs.symm]
            refine congrArg (fun z => some (HO.dK z)) ?_
            unfold nKV
            exact List.map_congr_left fun c _ => by simp
      · rintro σ H4 ⟨y5, y6, rfl, fok4, e14, e24, s4⟩
        rw [List.take_of_length_le (by rw [← e1, List.length_map]; exact Nat.le_refl _)] at fok4 e14 e24
        refine ⟨_, rfl, _, _, rfl, rfl, ?_⟩
        obtain ⟨qq, hqq⟩ := addT_pre TT x fd
        exact ⟨m', Nat.lt_succ_self _, i + 1, addT TT x fd, _, _, by omega, rfl, fok4, by rw [hqq, List.length_append]; omega, efp2, e14, e24, s4⟩
    · have : i = fd.length := by omega
      have efd : fd = bfs TT n first := by
        rw [← efp]
        cases m with
        | zero => rfl
        | succ m =>
          show _ = if i < fd.length then _ else _
          rw [if_neg (by omega)]
      walk_at "go"
      exact ⟨_, _, _, rfl, s3, by rw [← efd]; exact e1'⟩
  rintro σ' H3 ⟨y4, y5, y6, rfl, s3, e1'⟩
  walk_at "go"
  exact k fo H3 hfo s3 e1'
end
end
section
open PySem PySem.Spec L2
theorem ne_tupL {H : Hp} {a b : Addr} {xs ys : List V} (h : H a = some (.tup xs)) (h2 : H b = some (.lst ys)) : a ≠ b := fun e => by
  rw [e, h2] at h
  cases h
theorem walk_numL {K : PySem.W.Frag} {a : Addr} {l : List Nat} : Walk (Itl K a) l.length (fun H => SqL K H a (numV l)) (fun k H x H' => H' = H ∧ x = .int ((l.getD k 0 : Nat) : Int)) := by
  have w := walk_list (K := K) (a := a) (xs := numV l)
  rw [show (numV l).length = l.length from List.length_map _] at w
  refine w.mono (fun _ z => z) fun i H x H' hi _ y => ⟨y.1, ?_⟩
  have z := y.2
  rw [num_at hi] at z
  exact (Option.some.inj z).symm
theorem range_num (l : List Nat) (g : Nat → Nat) : (((List.range l.length).filter fun _ => true).map fun k => V.int ((g (l.getD k 0) : Nat) : Int)) = numV (l.map g) := by
  rw [List.filter_eq_self.mpr (fun _ _ => rfl)]
  unfold numV
  rw [List.map_map]
  refine List.ext_getElem (by simp) fun i h1 h2 => ?_
  rw [List.length_map, List.length_range] at h1
  rw [List.getElem_map, List.getElem_range, List.getElem_map, List.getD_eq_getElem?_getD, List.getElem?_eq_getElem h1]
  rfl
def spNumP : Sp := fun vs H Q _ => ∃ (t : Addr) (T : List (List Nat)) (n first : Nat), vs = [.ref t, .int ((first : Nat) : Int)] ∧ TabT H t T ∧ OkT n T ∧ T.length ≤ 1000 ∧ first < n ∧ n ≤ 1000 ∧ ∀ q H', H q = none → Same H H' → TabT H' q (numT T (bfs T n first)) → Q (.ref q) H'
section
variable {P : Program} {w : World} {K : PySem.W.Frag} {mg : Str → Option Value} {base : Heap}
abbrev stnumbered_rows : Stmt := (top 30)
abbrev Nnumbered_rows : List Str := ["rows", "first", "found", "numbers", "at", "place", "row"]
theorem scnumbered_rows : FnScope Nnumbered_rows ["rows", "first"] (defScope stnumbered_rows) := ⟨rfl, rfl, rfl, by decide +kernel, rfl, by decide +kernel, by decide +kernel⟩

theorem ok_numbered_rows (F : FnAt K mg "numbered_rows" stnumbered_rows) (T : TxtCl K mg) (D_found_places : Def P w K mg base CX0 1 "found_places" ["rows", "first"] spFoundP) : Def P w K mg base CX0 2 "numbered_rows" ["rows", "first"] spNumP := by
  refine F.ok scnumbered_rows (fun _ _ _ _ _ _ us hl => match us, hl with | [_, _], _ => rfl) (fun vs H Q E h => ?_) (fun f cdv A outer s H vs Q E hr h => ?_)
  · obtain ⟨t, T, n, first, rfl, _⟩ := h
    rfl
  obtain ⟨t, TT, n, first, rfl, hT, okT, lT, lf, ln, k⟩ := h
  have hu := hu_of hr
  have nd := scnumbered_rows.nd
  refine ⟨_, (pss_cons (ps_set (i := 2) nd rfl (Or.inr rfl) (pe_cd D_found_places hr pass0 (pa_cons (pv 0) (pa_cons (pv 1) pa_nil))))
      (pss_cons (ps_set (i := 3) nd rfl (Or.inr rfl) (pe_dc (own := [("at", 4), ("place", 5)]) (g := gTup K 2 (gCons (gName 4) (gCons (gName 5) (gNil)))) (by rfl) nd (pi_enum (by rfl) T.enumerate (pa_cons (pv 2) pa_nil)) (blkOk_by (own := [("at", 4), ("place", 5)]) (N := Nnumbered_rows) (sc := defScope stnumbered_rows) (by decide +kernel)) (fun _ _ _ _ _ => (pg_tup rfl (pgs_cons (pg_name (i := 4) nd rfl (Or.inl rfl)) (pgs_cons (pg_name (i := 5) nd rfl (Or.inl rfl)) pgs_nil)))) (fun _ _ _ _ _ => pts_nil) (fun _ _ _ _ _ => (pv 5)) (fun _ _ _ _ _ => (pv 4))))
      (pss_one (ps_ret (pe_callTy (c_tupleK (K := K) rfl) (by rfl) T.tuple (by decide +kernel) (pa_cons (pe_lc (own := [("row", 6)]) (g := gName 6) (by rfl) nd (pi_tupK (K := K) rfl (pv 0)) (blkOk_by (own := [("row", 6)]) (N := Nnumbered_rows) (sc := defScope stnumbered_rows) (by decide +kernel)) (fun _ _ _ _ _ => (pg_name (i := 6) nd rfl (Or.inr rfl))) (fun _ _ _ _ _ => pts_nil) (fun _ _ _ _ _ => (pe_callTy (c_tupleK (K := K) rfl) (by rfl) T.tuple (by decide +kernel) (pa_cons (pe_lc (own := [("place", 5)]) (g := gName 5) (by rfl) nd (pi_listK (K := K) rfl (pv 2)) (blkOk_by (own := [("place", 5)]) (N := Nnumbered_rows) (sc := { kind := .function, names := [(".0", .local), ("row", .cell), ("tuple", .globalImplicit), ("found", .cell), ("numbers", .cell)], isGenerator := false, isCoroutine := false }) (by decide +kernel)) (fun _ _ _ _ _ => (pg_name (i := 5) nd rfl (Or.inl rfl))) (fun _ _ _ _ _ => pts_nil) (fun _ _ _ _ _ => (pe_dget hu (pv 3) (pe_ix (ix_TK (K := K) rfl) (pv 6) (pv 5) (fun _ _ => rfl)) (fun _ _ => rfl)))) pa_nil)))) pa_nil)))))), ?_⟩
  refine s_start [some _, some _, none, none, none, none, none] rfl ?_
  obtain ⟨E, e1, e2, e3⟩ := hT.ex
  have lE : E.length = TT.length := by rw [← e1, List.length_map]
  walk_at "go"
  refine ⟨t, TT, n, first, rfl, hT, okT, lf, ln, fun p H1 hp s1 ep => ?_⟩
  have fok := bfs_ok okT lf
  have fcl := bfs_closed okT lf
  have lfd := fok.len
  generalize hfd : bfs TT n first = fd at *
  walk_at "go"
  refine e_iEnumL ?_
  walk_at "go"
  refine ⟨p, numV fd, rfl, SqL.of ep, ?_⟩
  refine dc_numE (by decide) fok.nd ep (by omega) (fun σ' H' R r => r) (fun kk x H' R r => ⟨_, rfl, r⟩) (fun kk x H' R r => ⟨_, rfl, r⟩) (fun d H2 hd s2 ed => ?_)
  have s02 := s1.trans s2
  walk_at "go"
  refine ⟨_, rfl, ⟨_, SqT.of (s02 _ _ e2)⟩, ?_⟩
  refine lc_refsT (E := E) (R' := fun H' v r => ∃ q, v = .ref q ∧ RowTu H' q (rowN fd r)) (s02 _ _ e2) (by omega) (fun v r H3 H4 ⟨q, e, z⟩ s => ⟨q, e, s _ _ z⟩) (fun v r H3 H4 D l ⟨q, e, z⟩ e0 kp => ⟨q, e, kp _ _ z (ne_tupL z e0)⟩) (fun e he H3 s3 R r => ?_) (fun e he H3 s3 R r => ?_) (fun D H3 vs hD s3 eD lv rv => ?_)
  · walk_at "go"
    exact r _ (Same.refl _)
  · have er : H3 e.2 = some (.tup (numV e.1)) := s3 _ _ (s02 _ _ (e3 e he))
    have eT : e.1 ∈ TT := by rw [← e1]; exact List.mem_map.mpr ⟨e, he, rfl⟩
    have ep3 := s3 _ _ (s2 _ _ ep)
    have ed3 := s3 _ _ ed
    walk_at "go"
    refine lc_gen (n := fd.length) (b := fun _ => true) (it := fun j => .int ((fd.getD j 0 : Nat) : Int)) (f := fun j => .int ((ixOf fd (e.1.getD (fd.getD j 0) 0) : Nat) : Int)) walk_numL (fun H' s' => SqL.of (s' _ _ ep3)) (by omega) (fun j hj H4 s4 R' rr => ?_) (fun j hj _ H4 s4 R' rr => ?_) (fun D H4 hD s4 eD => ?_)
    · walk_at "go"
      exact rr _ (Same.refl _)
    · have mj := getD_mem hj
      walk_at "go"
      refine v_ixT (s4 _ _ er) (at_of (j := fd.getD j 0) rfl (num_at (by rw [(okT _ eT).1]; exact fok.lt _ mj))) ?_
      walk_at "go"
      refine v_dget (num_get (s4 _ _ ed3) (fcl _ mj _ eT)) ?_
      walk_at "go"
      exact rr _ (Same.refl _)
    rw [range_num fd fun p => ixOf fd (e.1.getD p 0)] at eD
    walk_at "go"
    refine v_tuple eD fun q H5 hq s5 eq => ?_
    exact r _ _ (s4.trans s5) ⟨q, rfl, eq⟩
  walk_at "go"
  obtain ⟨G, g1, rfl, g3⟩ := refs_of (R := RowTu) (H := H3) (vs := vs) (D := numT TT fd) (by rw [lv]; unfold numT; rw [List.length_map]; exact lE) fun j v r h1 h2 => by
    unfold numT at h2
    rw [List.getElem?_map] at h2
    obtain ⟨r0, hr0, rfl⟩ := Option.map_eq_some_iff.mp h2
    rw [← e1, List.getElem?_map] at hr0
    obtain ⟨e, he, rfl⟩ := Option.map_eq_some_iff.mp hr0
    exact rv j v e h1 he
  refine v_tuple eD fun q H4 hq s4 eq => ?_
  exact k q H4 (Same.free (s02.trans s3) hq) ((s02.trans s3).trans s4) ⟨G, g1, eq, fun e he => s4 _ _ (g3 e he)⟩
end
end
section
open PySem PySem.Spec L2
structure TxtP (K : PySem.W.Frag) (mg : Str → Option Value) (C : Addr) : Prop where
  len : mg "len" = none
  int : mg "int" = none
  list : mg "list" = none
  isinstance : mg "isinstance" = none
  str : mg "str" = none
  all : mg "all" = none
  set : mg "set" = none
  tuple : mg "tuple" = none
  g_LETTERS : ∃ t, mg "LETTERS" = some (.str (tx LET) t)
  g_MOST_KINDS : ∃ t, mg "MOST_KINDS" = some (.int 8 t)
  Plan : ClsF K mg "Plan" C
  nK : NoAttr K C "kinds"
  nP : NoAttr K C "pairs"
  nO : NoAttr K C "own_crossing"
def spAreLetters : Sp := fun vs H Q _ => ∃ l : List Nat, vs = [.str (tx l)] ∧ l.length < 1000 ∧ ∀ H', Same H H' → Q (.bl (decide ((∀ c ∈ l, c ∈ LET) ∧ l.Nodup))) H'
def spAscending : Sp := fun vs H Q _ => ∃ l : List Nat, vs = [.str (tx l)] ∧ ∀ H', Same H H' → Q (.str (tx (ascOf l))) H'
def spIsList (K : PySem.W.Frag) : Sp := fun vs H Q _ => ∃ (p : Addr) (xs : List V), vs = [.ref p] ∧ SeqO K H p xs ∧ ∀ H', Same H H' → Q (.bl true) H'
def spNeedFew : Sp := fun vs H Q _ => ∃ l : List Nat, vs = [.str (tx l)] ∧ l.length ≤ 8 ∧ Q .non H
section
variable {P : Program} {w : World} {K : PySem.W.Frag} {mg : Str → Option Value} {base : Heap} {C : Addr}
abbrev stare_letters : Stmt := (top 17)
abbrev Nare_letters : List Str := ["value", "letter"]
theorem scare_letters : FnScope Nare_letters ["value"] (defScope stare_letters) := ⟨rfl, rfl, rfl, by decide +kernel, rfl, by decide +kernel, by decide +kernel⟩

theorem ok_are_letters (F : FnAt K mg "are_letters" stare_letters) (T : TxtP K mg C) : Def P w K mg base CX0 1 "are_letters" ["value"] spAreLetters := by
  refine F.ok scare_letters (fun _ _ _ _ _ _ us hl => match us, hl with | [_], _ => rfl) (fun vs H Q E h => ?_) (fun f cdv A outer s H vs Q E hr h => ?_)
  · obtain ⟨l, rfl, _⟩ := h
    rfl
  obtain ⟨l, rfl, hl, k⟩ := h
  have hu := hu_of hr
  have nd := scare_letters.nd
  refine ⟨_, (pss_one (ps_ret (pe_and (pe_callB (c_isiK (K := K) rfl) (by rfl) T.isinstance (by decide +kernel) (pa_cons (pv 0) (pa_cons (pe_bltn (v := .ty "str") (u := .type "str") (by rfl) T.str (by decide +kernel) rfl) pa_nil))) (pe_and (pe_callB (c_allK (K := K) rfl rfl) (by rfl) T.all (by decide +kernel) (pa_cons (pe_lc (own := [("letter", 1)]) (g := gName 1) (by rfl) nd (pi_str (pv 0)) (blkOk_by (own := [("letter", 1)]) (N := Nare_letters) (sc := defScope stare_letters) (by decide +kernel)) (fun _ _ _ _ _ => (pg_name (i := 1) nd rfl (Or.inl rfl))) (fun _ _ _ _ _ => pts_nil) (fun _ _ _ _ _ => (pe_cmpR op_inS (pv 1) (pe_globS T.g_LETTERS) (by rfl)))) pa_nil)) (pe_one (pe_cmpR op_eq (pe_callB c_lenSet (by rfl) T.len PySem.boot_len (pa_cons (pe_callTy (c_setS rfl) (by rfl) T.set (by decide +kernel) (pa_cons (pv 0) pa_nil)) pa_nil)) (pe_callB c_lenS (by rfl) T.len PySem.boot_len (pa_cons (pv 0) pa_nil)) (nomark _))))))), ?_⟩
  refine s_start [some _, none] rfl ?_
  walk_at "go"
  refine v_lcS (b := fun _ => true) (f := fun c => V.bl (decide (c ∈ LET))) (by omega) (fun c _ H1 s1 R r => ?_) (fun c _ _ H1 s1 R r => ?_) (fun D H1 hD s1 e1 => ?_)
  · walk_at "go"
    exact r H1 (Same.refl _)
  · walk_at "go"
    exact r H1 (Same.refl _)
  walk_at "go"
  have e2 : H1 D = some (.lst ((l.map fun c => decide (c ∈ LET)).map V.bl)) := by
    rw [e1, List.map_map, filter_yes]
    rfl
  refine v_all e2 ?_
  walk_at "go"
  have ha : (l.map fun c => decide (c ∈ LET)).all id = decide (∀ c ∈ l, c ∈ LET) := by
    rw [Bool.eq_iff_iff, List.all_eq_true, decide_eq_true_iff]
    simp
  rw [ha]
  refine if_dec (fun c => ?_) (fun c => ?_)
  · walk_at "go"
    refine v_setS (by omega) fun p H2 hp s2 e2 => ?_
    walk_at "go"
    have e3 : decide (V.int ((metOf (l.map fun c => tx [c])).length : Int) = V.int (l.length : Int)) = decide ((∀ c ∈ l, c ∈ LET) ∧ l.Nodup) := by
      rw [dec_int, Bool.eq_iff_iff, decide_eq_true_iff, beq_iff_eq]
      have := metOf_ones l
      constructor
      · intro e
        exact ⟨c, this.mp (by omega)⟩
      · intro e
        have := this.mpr e.2
        omega
    rw [e3]
    exact k H2 (s1.trans s2)
  · have e3 : decide ((∀ c ∈ l, c ∈ LET) ∧ l.Nodup) = false := decide_eq_false fun z => c z.1
    rw [e3] at k
    exact k H1 s1
abbrev stascending : Stmt := (top 18)
abbrev Nascending : List Str := ["letters", "letter"]
theorem scascending : FnScope Nascending ["letters"] (defScope stascending) := ⟨rfl, rfl, rfl, by decide +kernel, rfl, by decide +kernel, by decide +kernel⟩

theorem ok_ascending (F : FnAt K mg "ascending" stascending) (T : TxtP K mg C) : Def P w K mg base CX0 1 "ascending" ["letters"] spAscending := by
  refine F.ok scascending (fun _ _ _ _ _ _ us hl => match us, hl with | [_], _ => rfl) (fun vs H Q E h => ?_) (fun f cdv A outer s H vs Q E hr h => ?_)
  · obtain ⟨l, rfl, _⟩ := h
    rfl
  obtain ⟨l, rfl, k⟩ := h
  have hu := hu_of hr
  have nd := scascending.nd
  refine ⟨_, (pss_one (ps_ret (pe_joinK (K := K) rfl (pe_tx [] (by decide +kernel)) (pe_lc (own := [("letter", 1)]) (g := gName 1) (by rfl) nd (pi_str (pe_globS T.g_LETTERS)) (blkOk_by (own := [("letter", 1)]) (N := Nascending) (sc := defScope stascending) (by decide +kernel)) (fun _ _ _ _ _ => (pg_name (i := 1) nd rfl (Or.inl rfl))) (fun _ _ _ _ _ => (pts_one (pt_cmpR op_inS (pv 1) (pv 0) (by rfl)))) (fun _ _ _ _ _ => (pv 1)))))), ?_⟩
  refine s_start [some _, none] rfl ?_
  walk_at "go"
  refine v_lcS (l := LET) (b := fun c => decide (c ∈ l)) (f := fun c => V.str (tx [c])) (by decide) (fun c _ H1 s1 R r => ?_) (fun c _ _ H1 s1 R r => ?_) (fun D H1 hD s1 e1 => ?_)
  · walk_at "go"
    exact r H1 (Same.refl _)
  · walk_at "go"
    exact r H1 (Same.refl _)
  walk_at "go"
  rw [strs_ones] at e1
  refine v_join e1 ?_ ?_
  · rw [flat_ones]
    have := ascOf_len l
    unfold ascOf at this
    omega
  · rw [flat_ones]
    exact k H1 s1
abbrev stis_list : Stmt := (top 14)
abbrev Nis_list : List Str := ["value"]
theorem scis_list : FnScope Nis_list ["value"] (defScope stis_list) := ⟨rfl, rfl, rfl, by decide +kernel, rfl, by decide +kernel, by decide +kernel⟩

theorem ok_is_list (F : FnAt K mg "is_list" stis_list) (T : TxtP K mg C) : Def P w K mg base CX0 1 "is_list" ["value"] (spIsList K) := by
  refine F.ok scis_list (fun _ _ _ _ _ _ us hl => match us, hl with | [_], _ => rfl) (fun vs H Q E h => ?_) (fun f cdv A outer s H vs Q E hr h => ?_)
  · obtain ⟨p, xs, rfl, _⟩ := h
    rfl
  obtain ⟨p, xs, rfl, hp, k⟩ := h
  have hu := hu_of hr
  have nd := scis_list.nd
  refine ⟨_, (pss_one (ps_ret (pe_callB (c_isiTK (K := K) rfl) (by rfl) T.isinstance (by decide +kernel) (pa_cons (pv 0) (pa_cons (pe_tup (pa_cons (pe_bltn (v := .ty "list") (u := .type "list") (by rfl) T.list (by decide +kernel) rfl) (pa_cons (pe_bltn (v := .ty "tuple") (u := .type "tuple") (by rfl) T.tuple (by decide +kernel) rfl) pa_nil))) pa_nil))))), ?_⟩
  refine s_start [some _] rfl ?_
  walk_at "go"
  intro t H1 ht s1 e1
  walk_at "go"
  exact v_isiQ (hp.same s1) e1 (k H1 s1)
abbrev stneed_few : Stmt := (top 21)
abbrev Nneed_few : List Str := ["kinds"]
theorem scneed_few : FnScope Nneed_few ["kinds"] (defScope stneed_few) := ⟨rfl, rfl, rfl, by decide +kernel, rfl, by decide +kernel, by decide +kernel⟩

theorem ok_need_few (F : FnAt K mg "need_few" stneed_few) (T : TxtP K mg C) : Def P w K mg base CX0 1 "need_few" ["kinds"] spNeedFew := by
  refine F.ok scneed_few (fun _ _ _ _ _ _ us hl => match us, hl with | [_], _ => rfl) (fun vs H Q E h => ?_) (fun f cdv A outer s H vs Q E hr h => ?_)
  · obtain ⟨l, rfl, _⟩ := h
    rfl
  obtain ⟨l, rfl, hl, k⟩ := h
  have hu := hu_of hr
  have nd := scneed_few.nd
  refine ⟨_, (pss_one (ps_if (pt_cmpR op_gt (pe_callB c_lenS (by rfl) T.len PySem.boot_len (pa_cons (pv 0) pa_nil)) (pe_globI T.g_MOST_KINDS) (nomark _))
      (pss_one ps_never)
      pss_nil)), ?_⟩
  refine s_start [some _] rfl ?_
  walk_at "go"
  refine if_dec (fun c => ?_) (fun c => ?_)
  · omega
  · walk_at "go"
    exact k
end
end
section
open PySem PySem.Spec L2
def spChecked (K : PySem.W.Frag) : Sp := fun vs H Q _ => ∃ (ks : List Nat) (p : Addr) (ps : List (List Nat)), vs = [.str (tx ks), .ref p] ∧ SeqO K H p (strsV ps) ∧ ps.length < 1000 ∧ PairsIn ks ps ∧ (∀ c ∈ ks, c ∈ LET) ∧
  ∀ t H', H t = none → Same H H' → H' t = some (.tup (strsV (pairsOf (ps.map ascOf)))) → Q (.ref t) H'
def spCross : Sp := fun vs H Q _ => ∃ (ks : List Nat) (t : Addr) (ps : List (List Nat)), vs = [.str (tx ks), .ref t] ∧ H t = some (.tup (strsV ps)) ∧ ks.length < 1000 ∧ ks.Nodup ∧
  ∀ d H', H d = none → Same H H' → H' d = some (.dK (crossKV ks ps ks)) → Q (.ref d) H'
section
variable {P : Program} {w : World} {K : PySem.W.Frag} {mg : Str → Option Value} {base : Heap} {C : Addr}
abbrev stchecked_pairs : Stmt := (top 19)
abbrev Nchecked_pairs : List Str := ["kinds", "crossing", "found", "pair", "a", "b"]
theorem scchecked_pairs : FnScope Nchecked_pairs ["kinds", "crossing"] (defScope stchecked_pairs) := ⟨rfl, rfl, rfl, by decide +kernel, rfl, by decide +kernel, by decide +kernel⟩

theorem ok_checked_pairs (F : FnAt K mg "checked_pairs" stchecked_pairs) (T : TxtP K mg C) (D_is_list : Def P w K mg base CX0 1 "is_list" ["value"] (spIsList K)) (D_are_letters : Def P w K mg base CX0 1 "are_letters" ["value"] spAreLetters) (D_ascending : Def P w K mg base CX0 1 "ascending" ["letters"] spAscending) :
    Def P w K mg base CX0 2 "checked_pairs" ["kinds", "crossing"] (spChecked K) := by
  refine F.ok scchecked_pairs (fun _ _ _ _ _ _ us hl => match us, hl with | [_, _], _ => rfl) (fun vs H Q E h => ?_) (fun f cdv A outer s H vs Q E hr h => ?_)
  · obtain ⟨ks, p, ps, rfl, _⟩ := h
    rfl
  obtain ⟨ks, p, ps, rfl, hp, hl, hps, hks, k⟩ := h
  have hu := hu_of hr
  have nd := scchecked_pairs.nd
  refine ⟨_, (pss_cons (ps_if (pt_not (pt_val (pe_cd D_is_list hr pass0 (pa_cons (pv 1) pa_nil))))
      (pss_one ps_never)
      pss_nil)
      (pss_cons (ps_set (i := 2) nd rfl (Or.inr rfl) (pe_lst pa_nil))
      (pss_cons (ps_for PassesOwn.never rfl (pi_or (pi_listK (K := K) rfl (pv 1)) (pi_tupK (K := K) rfl (pv 1))) (pg_name (i := 3) nd rfl (Or.inl rfl))
      (pss_cutS (ps_if (PW.pt (pw_or (pt_not (pt_val (pe_callB (c_isiK (K := K) rfl) (by rfl) T.isinstance (by decide +kernel) (pa_cons (pv 3) (pa_cons (pe_bltn (v := .ty "str") (u := .type "str") (by rfl) T.str (by decide +kernel) rfl) pa_nil))))) (pw_or (pt_cmpR op_ne (pe_callB c_lenS (by rfl) T.len PySem.boot_len (pa_cons (pv 3) pa_nil)) pe_int (nomark _)) (pw_or1 (pt_not (pt_val (pe_cd D_are_letters hr pass0 (pa_cons (pv 3) pa_nil))))))))
        (pss_one ps_never)
        pss_nil)
        (pss_cutS (ps_if (PW.pt (pw_or (pt_cmpR op_notInS (pe_ix ix_str (pv 3) pe_int (fun _ _ => rfl)) (pv 0) (by rfl)) (pw_or1 (pt_cmpR op_notInS (pe_ix ix_str (pv 3) pe_int (fun _ _ => rfl)) (pv 0) (by rfl)))))
        (pss_one ps_never)
        pss_nil)
        (pss_one (ps_expr (pe_appK (K := K) rfl (pv 2) (pe_cd D_ascending hr pass0 (pa_cons (pv 3) pa_nil))))))))
      (pss_one (ps_ret (pe_callTy (c_tupleK (K := K) rfl) (by rfl) T.tuple (by decide +kernel) (pa_cons (pe_lc2 (own := [("a", 4), ("b", 5)]) (vs1 := [5]) (by rfl) nd (pi_str (pe_globS T.g_LETTERS)) (blkOk_by (own := [("a", 4), ("b", 5)]) (N := Nchecked_pairs) (sc := defScope stchecked_pairs) (by decide +kernel)) (by decide) (fun _ _ _ _ _ => (pg_name (i := 4) nd rfl (Or.inl rfl))) (fun _ _ _ _ _ => pts_nil) (fun _ _ _ _ _ => (pi_str (pe_globS T.g_LETTERS))) (fun _ _ _ _ _ => (pg_name (i := 5) nd rfl (Or.inl rfl))) (fun _ _ _ _ _ => (pts_one (pt_cmpR (op_inLK (K := K) rfl) (pe_op op_addS (pv 4) (pv 5)) (pv 2) (by rfl)))) (fun _ _ _ _ _ => (pe_op op_addS (pv 4) (pv 5)))) pa_nil))))))), ?_⟩
  refine s_start [some _, some _, none, none, none, none] rfl ?_
  walk_at "go"
  refine ⟨p, _, rfl, hp, fun H1 s1 => ?_⟩
  walk_at "go"
  intro q H2 hq s2 e2
  walk_at "go"
  refine e_forSeq (xs := strsV ps) hp (s1.trans s2) (fun Q q => by walk_at "go"; exact q) (fun k σ H' => ∃ x, σ = [some (.str (tx ks)), some (.ref p), some (.ref q), x, none, none] ∧ Same H H' ∧ H' q = some (.lst (strsV ((ps.take k).map ascOf)))) ⟨_, rfl, s1.trans s2, e2⟩ ?_ ?_ ?_
  · rintro i σ H' ⟨x, rfl, s3, e3⟩
    exact s3
  · rintro i v σ H3 H4 hi ⟨x, rfl, s3, e3⟩ ⟨rfl, hv⟩
    have hi' : i < ps.length := by simpa using hi
    obtain ⟨a, b, hab, hne, ha, hb⟩ := hps _ (List.getElem_mem hi')
    have hv' : v = .str (tx [a, b]) := by
      have : (strsV ps)[i]? = some (V.str (tx ps[i])) := by
        rw [List.getElem?_map, List.getElem?_eq_getElem hi']
        rfl
      rw [hv, hab] at this
      exact Option.some.inj this
    subst hv'
    have ha2 := hks a ha
    have hb2 := hks b hb
    refine s_cut (fun σ' H' => σ' = [some (.str (tx ks)), some (.ref p), some (.ref q), some (.str (tx [a, b])), none, none] ∧ Same H4 H') ?_ ?_
    · walk_at "go"
      refine if_ndec (fun c => absurd rfl c) (fun _ => ?_)
      walk_at "go"
      refine ⟨[a, b], rfl, by simp, fun H5 s5 => ?_⟩
      have e5 : decide ((∀ c ∈ [a, b], c ∈ LET) ∧ [a, b].Nodup) = true := by
        rw [decide_eq_true_iff]
        refine ⟨?_, by simp [hne]⟩
        intro c hc
        simp only [List.mem_cons, List.not_mem_nil, or_false] at hc
        rcases hc with rfl | rfl <;> assumption
      rw [e5]
      walk_at "go"
      exact ⟨rfl, s5⟩
    · rintro σ' H5 ⟨rfl, s5⟩
      refine s_cut (fun σ' H' => σ' = [some (.str (tx ks)), some (.ref p), some (.ref q), some (.str (tx [a, b])), none, none] ∧ H' = H5) ?_ ?_
      · walk_at "go"
        refine v_ixS (c := a) (by simp) rfl ?_
        walk_at "go"
        refine if_ndec (fun c => absurd ha c) (fun _ => ?_)
        walk_at "go"
        refine v_ixS (c := b) (by simp) rfl ?_
        walk_at "go"
        refine if_ndec (fun c => absurd hb c) (fun _ => ?_)
        walk_at "go"
        exact ⟨rfl, rfl⟩
      · rintro σ' H6 ⟨rfl, rfl⟩
        have e6 := s5 _ _ e3
        walk_at "go"
        refine ⟨[a, b], rfl, fun H7 s7 => ?_⟩
        walk_at "go"
        refine v_app (s7 _ _ e6) ?_ fun H8 s8 e8 => ?_
        · simp only [strsV, List.length_map, List.length_take]
          omega
        refine ⟨_, rfl, fun b' o hb' => s8 _ _ (s7 _ _ (s5 _ _ (s3 _ _ hb'))) (ne_of_none hb' (L2.Same.free s1 hq)), ?_⟩
        rw [e8, List.take_add_one, List.getElem?_eq_getElem hi', hab, List.map_append]
        simp only [strsV, List.map_append]
        rfl
  · rintro σ H3 ⟨x, rfl, s3, e3⟩
    walk_at "go"
    rw [List.take_of_length_le (by simp)] at e3
    refine v_lc2S (lb := LET) (b := fun a b => decide ([a, b] ∈ ps.map ascOf)) (f := fun a b => V.str (tx [a, b])) (by decide) (by decide) (fun c _ H1 s1 R r => r) (fun c d _ _ H1 s1 R r => ?_) (fun c d _ _ _ H1 s1 R r => ?_) (fun D H5 hD s5 e5 => ?_)
    · have e1 := s1 _ _ e3
      walk_at "go"
      exact r H1 (Same.refl _)
    · walk_at "go"
      exact r H1 (Same.refl _)
    · walk_at "go"
      refine v_tuple e5 fun t H6 ht s6 e6 => ?_
      refine k t H6 (L2.Same.free s3 (L2.Same.free s5 ht)) ((s3.trans s5).trans s6) ?_
      rw [e6]
      unfold strsV pairsOf
      rw [List.map_flatMap]
      simp only [List.map_map]
      rfl
abbrev stcrossing_table : Stmt := (top 23)
abbrev Ncrossing_table : List Str := ["kinds", "pairs", "found", "kind", "other"]
theorem sccrossing_table : FnScope Ncrossing_table ["kinds", "pairs"] (defScope stcrossing_table) := ⟨rfl, rfl, rfl, by decide +kernel, rfl, by decide +kernel, by decide +kernel⟩

theorem ok_crossing_table (F : FnAt K mg "crossing_table" stcrossing_table) (T : TxtP K mg C) : Def P w K mg base CX0 1 "crossing_table" ["kinds", "pairs"] spCross := by
  refine F.ok sccrossing_table (fun _ _ _ _ _ _ us hl => match us, hl with | [_, _], _ => rfl) (fun vs H Q E h => ?_) (fun f cdv A outer s H vs Q E hr h => ?_)
  · obtain ⟨ks, t, ps, rfl, _⟩ := h
    rfl
  obtain ⟨ks, t, ps, rfl, ht, hl, hnd, k⟩ := h
  have hu := hu_of hr
  have nd := sccrossing_table.nd
  refine ⟨_, (pss_cons (ps_set (i := 2) nd rfl (Or.inl rfl) pe_dnewK)
      (pss_cons (ps_for PassesOwn.never rfl (pi_str (pv 0)) (pg_name (i := 3) nd rfl (Or.inr rfl))
      (pss_one (ps_dput hu (pv 2) (pv 3) (pe_joinK (K := K) rfl (pe_tx [] (by decide +kernel)) (pe_lc (own := [("other", 4)]) (g := gName 4) (by rfl) nd (pi_str (pv 0)) (blkOk_by (own := [("other", 4)]) (N := Ncrossing_table) (sc := defScope stcrossing_table) (by decide +kernel)) (fun _ _ _ _ _ => (pg_name (i := 4) nd rfl (Or.inl rfl))) (fun _ _ _ _ _ => (pts_one (PW.pt (pw_or (pt_cmpR (op_inLK (K := K) rfl) (pe_op op_addS (pv 3) (pv 4)) (pv 1) (by rfl)) (pw_or1 (pt_cmpR (op_inLK (K := K) rfl) (pe_op op_addS (pv 4) (pv 3)) (pv 1) (by rfl))))))) (fun _ _ _ _ _ => (pv 4)))) rfl)))
      (pss_one (ps_ret (pv 2))))), ?_⟩
  refine s_start [some _, some _, none, none, none] rfl ?_
  walk_at "go"
  intro d H1 hd s1 e1
  walk_at "go"
  refine for_it (walk_tx ks) (fun k σ H' => ∃ x, σ = [some (.str (tx ks)), some (.ref t), some (.ref d), x, none] ∧ Same H H' ∧ H' d = some (.dK (crossKV ks ps (ks.take k)))) ⟨_, rfl, s1, e1⟩ (fun _ _ _ _ _ => trivial) ?_ ?_
  · rintro i v σ H2 H3 hi ⟨x, rfl, s2, e2⟩ ⟨rfl, rfl⟩
    have h0 := s2 _ _ ht
    show sDPut _ _ _ _ _ _
    walk_at "go"
    refine v_lcS (b := fun o => decide ([ks.getD i 0, o] ∈ ps) || decide ([o, ks.getD i 0] ∈ ps)) (f := fun c => V.str (tx [c])) (by omega) (fun c _ H1 s1 R r => ?_) (fun c _ _ H1 s1 R r => ?_) (fun D H4 hD s4 e4 => ?_)
    · have h1 := s1 _ _ h0
      walk_at "go"
      refine v_inT (SqT.of h1) ?_
      walk_at "go"
      refine if_dec (fun c1 => ?_) (fun c1 => ?_)
      · rw [show [ks.getD i 0] ++ [c] = [ks.getD i 0, c] from rfl] at c1
        rw [decide_eq_true c1, Bool.true_or] at r
        exact r H1 (Same.refl _)
      · rw [show [ks.getD i 0] ++ [c] = [ks.getD i 0, c] from rfl] at c1
        walk_at "go"
        refine v_inT (SqT.of h1) ?_
        walk_at "go"
        rw [decide_eq_false c1, Bool.false_or] at r
        exact r H1 (Same.refl _)
    · walk_at "go"
      exact r H1 (Same.refl _)
    walk_at "go"
    rw [strs_ones] at e4
    refine v_join e4 ?_ ?_
    · rw [flat_ones]
      have := crossOf_len ks ps (ks.getD i 0)
      unfold crossOf at this
      omega
    rw [flat_ones]
    walk_at "go"
    have e5 := s4 _ _ e2
    have hz : valV (crossKV ks ps (ks.take i)) (Sum.inr (tx [ks.getD i 0])) = none := letV_none (take_notin hnd hi)
    refine v_put (DPut.cross e5 hz ?_) fun H6 s6 e6 => ?_
    · unfold crossKV
      rw [List.length_map, List.length_take]
      omega
    refine ⟨_, rfl, fun b o hb => s6 _ _ (s4 _ _ (s2 _ _ hb)) (ne_of_none hb hd), ?_⟩
    rw [e6, take_getD hi]
    unfold crossKV
    rw [List.map_append]
    rfl
  · rintro σ H2 ⟨x, rfl, s2, e2⟩
    rw [List.take_of_length_le (Nat.le_refl _)] at e2
    walk_at "go"
    exact k d H2 hd s2 e2
end
end
section
open PySem PySem.Spec L2
def planF (ks : List Nat) (t d : Addr) : List (Str × V) := putF "own_crossing" (.ref d) (putF "pairs" (.ref t) (putF "kinds" (.str (tx ks)) []))
theorem nkp : ¬ (("kinds" : Str) = "pairs") := by decide +kernel
theorem nko : ¬ (("kinds" : Str) = "own_crossing") := by decide +kernel
theorem npo : ¬ (("pairs" : Str) = "own_crossing") := by decide +kernel
section
variable {ks : List Nat} {t d : Addr}
theorem planF_k : (planF ks t d).lookup ("kinds" : Str) = some (.str (tx ks)) := by
  unfold planF
  rw [lookup_putF, if_neg nko, lookup_putF, if_neg nkp, lookup_putF, if_pos rfl]
theorem planF_p : (planF ks t d).lookup ("pairs" : Str) = some (.ref t) := by
  unfold planF
  rw [lookup_putF, if_neg npo, lookup_putF, if_pos rfl]
theorem planF_o : (planF ks t d).lookup ("own_crossing" : Str) = some (.ref d) := by
  unfold planF
  rw [lookup_putF, if_pos rfl]
end
/-- a plan of the kinds ks and the pairs ps stands at x -/
structure PlanAt (C : Addr) (H : Hp) (x : Addr) (ks : List Nat) (ps : List (List Nat)) : Prop where
  ex : ∃ dx t d, H x = some (.ins C dx (planF ks t d)) ∧ H t = some (.tup (strsV ps)) ∧ H d = some (.dK (crossKV ks ps ks))
theorem PlanAt.same {C : Addr} {H H' : Hp} {x : Addr} {ks : List Nat} {ps : List (List Nat)} (h : PlanAt C H x ks ps) (s : Same H H') : PlanAt C H' x ks ps := by
  obtain ⟨dx, t, d, a, b, c⟩ := h.ex
  exact ⟨dx, t, d, s _ _ a, s _ _ b, s _ _ c⟩
/-- the plan at x does not rest on the object at b -/
def PlanOff (C : Addr) (H : Hp) (x b : Addr) : Prop := ∃ dx ks t d, H x = some (.ins C dx (planF ks t d)) ∧ b ≠ t ∧ b ≠ d
theorem PlanOff.same {C : Addr} {H H' : Hp} {x b : Addr} (h : PlanOff C H x b) (s : Same H H') : PlanOff C H' x b := by
  obtain ⟨dx, ks, t, d, e, n⟩ := h
  exact ⟨dx, ks, t, d, s _ _ e, n⟩
theorem PlanAt.off {C : Addr} {H H' : Hp} {x b : Addr} {ks : List Nat} {ps : List (List Nat)} (h : PlanAt C H x ks ps) (n : PlanOff C H x b) (nx : x ≠ b) (k : Keep b H H') : PlanAt C H' x ks ps := by
  obtain ⟨dx, t, d, a1, a2, a3⟩ := h.ex
  obtain ⟨dx', ks', t', d', e, n1, n2⟩ := n
  rw [a1] at e
  injection e with e
  injection e with _ _ e
  have e1 := planF_p (ks := ks) (t := t) (d := d)
  rw [e, planF_p] at e1
  injection e1 with e1
  injection e1 with e1
  have e2 := planF_o (ks := ks) (t := t) (d := d)
  rw [e, planF_o] at e2
  injection e2 with e2
  injection e2 with e2
  exact ⟨dx, t, d, k _ _ a1 nx, k _ _ a2 (fun z => n1 (z.symm.trans e1.symm)), k _ _ a3 (fun z => n2 (z.symm.trans e2.symm))⟩
/-- the kinds and pairs of Plan(l, ps) -/
abbrev kindsOf (l : List Nat) : List Nat := ascOf l
abbrev prsOf (ps : List (List Nat)) : List (List Nat) := pairsOf (ps.map ascOf)
def PlanArgs (K : PySem.W.Frag) (H : Hp) (l : List Nat) (p : Addr) (ps : List (List Nat)) : Prop := SeqO K H p (strsV ps) ∧ ps.length < 1000 ∧ PairsIn l ps ∧ (∀ c ∈ l, c ∈ LET) ∧ l.Nodup ∧ l.length ≤ 8
def spPlan0 (K : PySem.W.Frag) (C : Addr) : Sp := fun vs H Q _ => ∃ (x dx : Addr) (l : List Nat) (p : Addr) (ps : List (List Nat)), vs = [.ref x, .str (tx l), .ref p] ∧ H x = some (.ins C dx []) ∧ PlanArgs K H l p ps ∧
  ∀ H', Keep x H H' → PlanAt C H' x (kindsOf l) (prsOf ps) → (∀ b o, H b = some o → b ≠ x → PlanOff C H' x b) → Q .non H'
def spPlan (K : PySem.W.Frag) (C : Addr) : Sp := fun vs H Q _ => ∃ (l : List Nat) (p : Addr) (ps : List (List Nat)), vs = [.str (tx l), .ref p] ∧ PlanArgs K H l p ps ∧ ∀ x H', H x = none → Same H H' → PlanAt C H' x (kindsOf l) (prsOf ps) → (∀ b o, H b = some o → PlanOff C H' x b) → Q (.ref x) H'
theorem conv_plan (K : PySem.W.Frag) (C : Addr) : Conv C (spPlan0 K C) (spPlan K C) := by
  rintro vs H Q E ⟨l, p, ps, rfl, ⟨hp, hr⟩, k⟩ x dx hx hdx hne
  refine ⟨x, dx, l, p, ps, rfl, upd_same, ⟨hp.go fun o ho => by rw [upd_ne (ne_of_none ho hx), upd_ne (ne_of_none ho hdx)]; exact ho, hr⟩, fun H' s' a off => ⟨rfl, k x H' hx (fun b o hb => ?_) a fun b o hb => off b o (by rw [upd_ne (ne_of_none hb hx), upd_ne (ne_of_none hb hdx)]; exact hb) (ne_of_none hb hx)⟩⟩
  refine s' b o ?_ (ne_of_none hb hx)
  rw [upd_ne (ne_of_none hb hx), upd_ne (ne_of_none hb hdx)]
  exact hb
theorem asc_len {l : List Nat} (h1 : ∀ c ∈ l, c ∈ LET) (h2 : l.Nodup) : (ascOf l).length = l.length := by
  have p : (ascOf l).Perm l := by
    refine (List.perm_ext_iff_of_nodup (ascOf_nodup l) h2).mpr fun c => ?_
    rw [ascOf_mem]
    exact ⟨fun z => z.2, fun z => ⟨h1 c z, z⟩⟩
  exact p.length_eq
section
variable {P : Program} {w : World} {K : PySem.W.Frag} {mg : Str → Option Value} {base : Heap} {C : Addr}
abbrev stPlan_init : Stmt := (inClass (top 22) 0)
abbrev NPlan_init : List Str := ["self", "kinds", "crossing"]
theorem scPlan_init : FnScope NPlan_init ["self", "kinds", "crossing"] (defScope stPlan_init) := ⟨rfl, rfl, rfl, by decide +kernel, rfl, by decide +kernel, by decide +kernel⟩

theorem ok_Plan {dvs : List V} (F : MAtD K C "__init__" "Plan.__init__" stPlan_init dvs) (hd : dvs.length = 1) (T : TxtP K mg C) (D_are_letters : Def P w K mg base CX0 1 "are_letters" ["value"] spAreLetters) (D_ascending : Def P w K mg base CX0 1 "ascending" ["letters"] spAscending)
    (D_checked_pairs : Def P w K mg base CX0 2 "checked_pairs" ["kinds", "crossing"] (spChecked K)) (D_need_few : Def P w K mg base CX0 1 "need_few" ["kinds"] spNeedFew) (D_crossing_table : Def P w K mg base CX0 1 "crossing_table" ["kinds", "pairs"] spCross) :
    CMk P w K mg base CX0 3 "Plan" C (spPlan K C) ["self", "kinds", "crossing"] "Plan.__init__" stPlan_init dvs := by
  refine F.make (sp0 := spPlan0 K C) T.Plan scPlan_init (by intro z; rw [z] at hd; cases hd) (fun T kV doc pm an cdv ct us its l1 l2 => ?_) (fun vs H Q E h => ?_) (conv_plan K C) (fun f cdv A outer s H vs Q E hr h => ?_)
  · rw [hd] at l2 ⊢
    match us, l1, its, l2 with
    | [_, _, _], _, [_], _ => exact ⟨_, rfl, rfl⟩
  · obtain ⟨x, dx, l, p, ps, rfl, _⟩ := h
    rfl
  obtain ⟨x, dx, l, p, ps, rfl, hx, ⟨hp, h1, h2, h3, h4, h5⟩, k⟩ := h
  have hu := hu_of hr
  have nd := scPlan_init.nd
  replace D_are_letters := D_are_letters.mono (show 1 ≤ 2 by decide)
  replace D_ascending := D_ascending.mono (show 1 ≤ 2 by decide)
  replace D_need_few := D_need_few.mono (show 1 ≤ 2 by decide)
  replace D_crossing_table := D_crossing_table.mono (show 1 ≤ 2 by decide)
  refine ⟨_, (pss_cons (ps_if (pt_not (pt_val (pe_cd D_are_letters hr pass0 (pa_cons (pv 1) pa_nil))))
      (pss_one ps_never)
      pss_nil)
      (pss_cons (ps_flK (K := K) rfl (pv 0) (pe_cd D_ascending hr pass0 (pa_cons (pv 1) pa_nil)) rfl)
      (pss_cons (ps_flK (K := K) rfl (pv 0) (pe_cd D_checked_pairs hr pass0 (pa_cons (pe_flK (K := K) rfl (pv 0) rfl) (pa_cons (pv 2) pa_nil))) rfl)
      (pss_cons (ps_expr (pe_cd D_need_few hr pass0 (pa_cons (pe_flK (K := K) rfl (pv 0) rfl) pa_nil)))
      (pss_one (ps_flK (K := K) rfl (pv 0) (pe_cd D_crossing_table hr pass0 (pa_cons (pe_flK (K := K) rfl (pv 0) rfl) (pa_cons (pe_flK (K := K) rfl (pv 0) rfl) pa_nil))) rfl)))))), ?_⟩
  refine s_start [some _, some _, some _] rfl ?_
  walk_at "go"
  refine ⟨l, rfl, by omega, fun H1 s1 => ?_⟩
  rw [decide_eq_true (show (∀ c ∈ l, c ∈ LET) ∧ l.Nodup from ⟨h3, h4⟩)]
  walk_at "go"
  refine ⟨l, rfl, fun H2 s2 => ?_⟩
  walk_at "go"
  have s12 := s1.trans s2
  refine v_sfld (s12 _ _ hx) T.Plan.cl T.nK (by decide) fun H3 s3 e3 => ?_
  have hp3 := (hp.same s12).keepI s3 (s12 _ _ hx)
  walk_at "go"
  refine v_fld e3 T.Plan.cl T.nK (by rw [lookup_putF, if_pos rfl]) ?_
  walk_at "go"
  refine ⟨ascOf l, p, ps, rfl, hp3, h1, ?_, fun c hc => (ascOf_mem.mp hc).1, fun t H4 ht s4 e4 => ?_⟩
  · intro q hq
    obtain ⟨a, b, e, n, ha, hb⟩ := h2 q hq
    exact ⟨a, b, e, n, ascOf_mem.mpr ⟨h3 a ha, ha⟩, ascOf_mem.mpr ⟨h3 b hb, hb⟩⟩
  walk_at "go"
  refine v_sfld (s4 _ _ e3) T.Plan.cl T.nP (by show 1 < 1000; decide) fun H5 s5 e5 => ?_
  have nt : t ≠ x := fun z => by rw [z, e3] at ht; cases ht
  have e5t := s5 _ _ e4 nt
  walk_at "go"
  refine v_fld e5 T.Plan.cl T.nK (by rw [lookup_putF, if_neg nkp, lookup_putF, if_pos rfl]) ?_
  walk_at "go"
  refine ⟨ascOf l, rfl, by rw [asc_len h3 h4]; exact h5, ?_⟩
  walk_at "go"
  refine v_fld e5 T.Plan.cl T.nK (by rw [lookup_putF, if_neg nkp, lookup_putF, if_pos rfl]) ?_
  walk_at "go"
  refine v_fld e5 T.Plan.cl T.nP (by rw [lookup_putF, if_pos rfl]) ?_
  walk_at "go"
  refine ⟨ascOf l, t, _, rfl, e5t, by have := ascOf_len l; omega, ascOf_nodup l, fun d H6 hd s6 e6 => ?_⟩
  walk_at "go"
  refine v_sfld (s6 _ _ e5) T.Plan.cl T.nO (by show 2 < 1000; decide) fun H7 s7 e7 => ?_
  have ndx : d ≠ x := fun z => by rw [z, e5] at hd; cases hd
  refine k H7 (fun b o hb nb => s7 _ _ (s6 _ _ (s5 _ _ (s4 _ _ (s3 _ _ (s12 _ _ hb) nb)) nb)) nb) ⟨dx, t, d, e7, s7 _ _ (s6 _ _ e5t) nt, s7 _ _ e6 ndx⟩ fun b o hb nb => ⟨dx, _, t, d, e7, ?_, ?_⟩
  · exact ne_of_none (s3 _ _ (s12 _ _ hb) nb) ht
  · exact ne_of_none (s5 _ _ (s4 _ _ (s3 _ _ (s12 _ _ hb) nb)) nb) hd
end
end
section
open PySem PySem.Spec L2
/-- tables of n places that lead back -/
def Back (n : Nat) (T : List (List Nat)) : Prop := ∀ r ∈ T, ∀ p, p < n → r.getD (r.getD p 0) 0 = p
theorem walk_zipS {K : PySem.W.Frag} {a : Addr} {ks : List Nat} {xs : List V} : Walk (Itzs K (tx ks) a xs) xs.length (fun H => H a = some (.tup xs)) (fun i H v H' => ∃ T c y, v = .ref T ∧ H T = none ∧ H' = upd H T (.tup [.str (tx [c]), y]) ∧ ks[i]? = some c ∧ xs[i]? = some y) := by
  refine ⟨fun i H hi h => ⟨hi, SqT.of h⟩, fun H h => ⟨Nat.le_refl _, SqT.of h⟩, fun i H v H' hi h y => ?_⟩
  obtain ⟨T, c, z, e1, e2, e3, e4, e5⟩ := y
  exact ⟨T, c, z, e1, e2, e3, by simpa using e4, e5⟩
theorem e_chain71 {r r' : R2} {ta tb tc : TE} {σ : L2.St} {H : Hp} {Q : VK} (q : ta σ H fun x H1 => tb σ H1 fun y H2 => r x y H2 fun z H3 => ∃ k, z = .bl k ∧ (if k = true then tc σ H3 fun w' H4 => r' y w' H4 Q else Q (.bl false) H3)) : tChain r r' ta tb tc σ H Q := q
theorem v_lenT71 {K : PySem.W.Frag} {H : Hp} {Q : VK} {p : Addr} {xs : List V} (h : H p = some (.tup xs)) (q : Q (.int ((xs.length : Nat) : Int)) H) : rLen K [.ref p] H Q := ⟨p, xs, rfl, .inr (SqT.of h), q⟩
theorem e_iZipS {K : PySem.W.Frag} {ta : TA} {σ : L2.St} {H : Hp} {R : It → Hp → Prop} (q : ta σ H fun vs H1 => ∃ x a xs, vs = [.str x, .ref a] ∧ SqT K H1 a xs ∧ x.cps.size = xs.length ∧ R (Itzs K x a xs) H1) : iZipS K ta σ H R := q
theorem e_iEnumT71 {K : PySem.W.Frag} {ta : TA} {σ : L2.St} {H : Hp} {R : It → Hp → Prop} (q : ta σ H fun vs H1 => ∃ a xs, vs = [.ref a] ∧ SqT K H1 a xs ∧ R (Itet K a xs) H1) : iEnumT K ta σ H R := q
theorem walk_enumT71 {K : PySem.W.Frag} {a : Addr} {xs : List V} : Walk (Itet K a xs) xs.length (fun H => H a = some (.tup xs)) (fun i H v H' => ∃ T x, v = .ref T ∧ H T = none ∧ H' = upd H T (.tup [.int ((i : Nat) : Int), x]) ∧ xs[i]? = some x) := ⟨fun i H hi h => ⟨hi, SqT.of h⟩, fun H h => ⟨Nat.le_refl _, SqT.of h⟩, fun i H v H' hi h y => y⟩
structure TxtCp (K : PySem.W.Frag) (mg : Str → Option Value) (C : Addr) : Prop extends TxtCl K mg where
  zip : mg "zip" = none
  range : mg "range" = none
  Plan : ClsF K mg "Plan" C
  nK : NoAttr K C "kinds"
  nP : NoAttr K C "pairs"
def spNeedE (C : Addr) : Sp := fun vs H Q _ => ∃ (x t : Addr) (b : Bool) (ks : List Nat) (ps T : List (List Nat)) (n : Nat), vs = [.ref x, .ref t, .bl b] ∧ PlanAt C H x ks ps ∧ TabT H t T ∧ T.length = ks.length ∧ OkT n T ∧ n ≤ 1000 ∧ (b = true → Back n T) ∧ ∀ H', Same H H' → Q .non H'
section
variable {P : Program} {w : World} {K : PySem.W.Frag} {mg : Str → Option Value} {base : Heap} {C : Addr}
abbrev stneed_entries : Stmt := (top 27)
abbrev Nneed_entries : List Str := ["plan", "rows", "turning", "kind", "row", "place", "entry"]
theorem scneed_entries : FnScope Nneed_entries ["plan", "rows", "turning"] (defScope stneed_entries) := ⟨rfl, rfl, rfl, by decide +kernel, rfl, by decide +kernel, by decide +kernel⟩

theorem ok_need_entries (F : FnAt K mg "need_entries" stneed_entries) (T : TxtCp K mg C) : Def P w K mg base CX0 1 "need_entries" ["plan", "rows", "turning"] (spNeedE C) := by
  refine F.ok scneed_entries (fun _ _ _ _ _ _ us hl => match us, hl with | [_, _, _], _ => rfl) (fun vs H Q E h => ?_) (fun f cdv A outer s H vs Q E hr h => ?_)
  · obtain ⟨x, t, b, ks, ps, T, n, rfl, _⟩ := h
    rfl
  obtain ⟨x, t, b, ks, ps, TT, n, rfl, pl, hT, lT, okT, ln, bk, k⟩ := h
  have hu := hu_of hr
  have nd := scneed_entries.nd
  refine ⟨_, (pss_one (ps_for PassesOwn.never rfl (pi_zipS (by rfl) T.zip (pa_cons (pe_flK (K := K) rfl (pv 0) rfl) (pa_cons (pv 1) pa_nil))) (pg_tup rfl (pgs_cons (pg_name (i := 3) nd rfl (Or.inl rfl)) (pgs_cons (pg_name (i := 4) nd rfl (Or.inl rfl)) pgs_nil)))
      (pss_one (ps_for PassesOwn.never rfl (pi_enumT (by rfl) T.enumerate (pa_cons (pv 4) pa_nil)) (pg_tup rfl (pgs_cons (pg_name (i := 5) nd rfl (Or.inl rfl)) (pgs_cons (pg_name (i := 6) nd rfl (Or.inl rfl)) pgs_nil)))
        (pss_one (ps_if (PW.pt (pw_or (pt_not (pt_chain op_le op_lt pe_int (pv 6) (pe_callB (c_lenK (K := K) rfl) (by rfl) T.len PySem.boot_len (pa_cons (pv 4) pa_nil)))) (pw_or1 (PW.pt (pw_and (pt_val (pv 2)) (pw_and1 (pt_cmpR op_ne (pe_ix (ix_TK (K := K) rfl) (pv 4) (pv 6) (fun _ _ => rfl)) (pv 5) (nomark _))))))))
          (pss_one ps_never)
          pss_nil)))))), ?_⟩
  refine s_start [some _, some _, some _, none, none, none, none] rfl ?_
  obtain ⟨E, e1, e2, e3⟩ := hT.ex
  have lE : E.length = TT.length := by rw [← e1, List.length_map]
  obtain ⟨dx, tp, dq, a1, a2, a3⟩ := pl.ex
  walk_at "go"
  refine e_iZipS ?_
  walk_at "go"
  refine v_fld a1 T.Plan.cl T.nK planF_k ?_
  walk_at "go"
  have lr : (refV E).length = E.length := List.length_map _
  refine ⟨tx ks, t, refV E, rfl, SqT.of e2, by rw [lr, lE, lT]; simp, ?_⟩
  refine for_it (walk_zipS (K := K) (a := t) (ks := ks) (xs := refV E)) (fun j σ H' => ∃ y3 y4 y5 y6, σ = [some (.ref x), some (.ref t), some (.bl b), y3, y4, y5, y6] ∧ Same H H') ⟨_, _, _, _, rfl, Same.refl _⟩ (fun _ _ _ _ ⟨_, _, _, _, _, sH⟩ => sH _ _ e2) ?_ ?_
  · rintro i v σ H1 H2 hi ⟨y3, y4, y5, y6, rfl, s1⟩ ⟨T0, c, y, rfl, hT0, rfl, hc, hy⟩
    rw [lr] at hi
    have he : E[i]? = some E[i] := List.getElem?_eq_getElem hi
    have hy0 : y = .ref E[i].2 := by
      rw [List.getElem?_map, he] at hy
      exact (Option.some.inj hy).symm
    subst hy0
    have em : E[i] ∈ E := List.getElem_mem hi
    have eT : E[i].1 ∈ TT := by rw [← e1]; exact List.mem_map.mpr ⟨_, em, rfl⟩
    generalize E[i] = e at em eT
    refine v_gTup2 rfl upd_same ?_
    have s2 : Same H1 (upd H1 T0 (.tup [.str (tx [c]), .ref e.2])) := Same.new hT0
    generalize upd H1 T0 (.tup [.str (tx [c]), .ref e.2]) = H2 at s2
    have s02 := s1.trans s2
    have er : H2 e.2 = some (.tup (numV e.1)) := s02 _ _ (e3 e em)
    have lnm : (numV e.1).length = n := by rw [show (numV e.1).length = e.1.length from List.length_map _, (okT _ eT).1]
    refine e_iEnumT71 ?_
    walk_at "go"
    refine ⟨e.2, numV e.1, rfl, SqT.of er, ?_⟩
    refine for_it (walk_enumT71 (K := K) (a := e.2) (xs := numV e.1)) (fun j σ H' => ∃ y5 y6, σ = [some (.ref x), some (.ref t), some (.bl b), some (.str (tx [c])), some (.ref e.2), y5, y6] ∧ Same H2 H') ⟨_, _, rfl, Same.refl _⟩ (fun _ _ _ _ ⟨_, _, _, sH⟩ => sH _ _ er) ?_ ?_
    · rintro j v σ H3 H4 hj ⟨y5, y6, rfl, s3⟩ ⟨T1, z, rfl, hT1, rfl, hz⟩
      rw [lnm] at hj
      have hj1 : j < e.1.length := by rw [(okT _ eT).1]; exact hj
      rw [num_at hj1] at hz
      obtain rfl := Option.some.inj hz
      refine v_gTup2 rfl upd_same ?_
      have s4 : Same H3 (upd H3 T1 (.tup [.int ((j : Nat) : Int), .int ((e.1.getD j 0 : Nat) : Int)])) := Same.new hT1
      generalize upd H3 T1 (.tup [.int ((j : Nat) : Int), .int ((e.1.getD j 0 : Nat) : Int)]) = H4 at s4
      have s24 := s3.trans s4
      have er4 := s24 _ _ er
      have hp := okT.get eT hj
      walk_at "go"
      refine e_chain71 ?_
      walk_at "go"
      rw [if_pos (show decide ((0 : Int) ≤ ((e.1.getD j 0 : Nat) : Int)) = true from decide_eq_true (Int.natCast_nonneg _))]
      walk_at "go"
      refine v_lenT71 er4 ?_
      rw [lnm]
      walk_at "go"
      rw [decide_eq_true (show ((e.1.getD j 0 : Nat) : Int) < ((n : Nat) : Int) from by omega)]
      refine ⟨_, rfl, ?_⟩
      walk_at "go"
      cases b with
      | false =>
        walk_at "go"
        exact ⟨_, _, rfl, s24⟩
      | true =>
        walk_at "go"
        refine v_ixT er4 (at_of (j := e.1.getD j 0) rfl (num_at (by rw [(okT _ eT).1]; exact hp))) ?_
        rw [bk rfl _ eT j hj]
        walk_at "go"
        rw [decide_eq_true (show V.int ((j : Nat) : Int) = V.int ((j : Nat) : Int) from rfl), if_neg (show ¬ (!true) = true from Bool.false_ne_true)]
        walk_at "go"
        exact ⟨_, _, rfl, s24⟩
    · rintro σ H3 ⟨y5, y6, rfl, s3⟩
      walk_at "go"
      exact ⟨_, _, _, _, rfl, s02.trans s3⟩
  · rintro σ H1 ⟨y3, y4, y5, y6, rfl, s1⟩
    walk_at "go"
    exact k H1 s1
end
end
section
open PySem PySem.Spec L2
/-- the row of a kind -/
def rowK (ks : List Nat) (T : List (List Nat)) (c : Nat) : List Nat := T.getD (ixOf ks c) []
/-- crossing kinds may be exchanged -/
def Exch (n : Nat) (ks : List Nat) (ps T : List (List Nat)) : Prop := ∀ p ∈ ps, ∃ a b, p = [a, b] ∧ a ∈ ks ∧ b ∈ ks ∧ ∀ x, x < n → (rowK ks T b).getD ((rowK ks T a).getD x 0) 0 = (rowK ks T a).getD ((rowK ks T b).getD x 0) 0
def spNeedX (C : Addr) : Sp := fun vs H Q _ => ∃ (x t : Addr) (ks : List Nat) (ps T : List (List Nat)) (n : Nat), vs = [.ref x, .ref t] ∧ PlanAt C H x ks ps ∧ TabT H t T ∧ T.length = ks.length ∧ ks.length ≤ 1000 ∧ ps.length ≤ 1000 ∧ OkT n T ∧ n ≤ 1000 ∧ Exch n ks ps T ∧ ∀ H', Same H H' → Q .non H'
section
variable {P : Program} {w : World} {K : PySem.W.Frag} {mg : Str → Option Value} {base : Heap} {C : Addr}
abbrev stneed_exchanged : Stmt := (top 28)
abbrev Nneed_exchanged : List Str := ["plan", "rows", "many", "place", "pair", "one", "other"]
theorem scneed_exchanged : FnScope Nneed_exchanged ["plan", "rows"] (defScope stneed_exchanged) := ⟨rfl, rfl, rfl, by decide +kernel, rfl, by decide +kernel, by decide +kernel⟩

theorem ok_need_exchanged (F : FnAt K mg "need_exchanged" stneed_exchanged) (T : TxtCp K mg C) : Def P w K mg base CX0 1 "need_exchanged" ["plan", "rows"] (spNeedX C) := by
  refine F.ok scneed_exchanged (fun _ _ _ _ _ _ us hl => match us, hl with | [_, _], _ => rfl) (fun vs H Q E h => ?_) (fun f cdv A outer s H vs Q E hr h => ?_)
  · obtain ⟨x, t, ks, ps, T, n, rfl, _⟩ := h
    rfl
  obtain ⟨x, t, ks, ps, TT, n, rfl, pl, hT, lT, lk, lp, okT, ln, ex, k⟩ := h
  have hu := hu_of hr
  have nd := scneed_exchanged.nd
  refine ⟨_, (pss_cons (ps_set (i := 2) nd rfl (Or.inl rfl) (pe_cut (pe_ifExp (pt_cmpR op_gt (pe_callB (c_lenK (K := K) rfl) (by rfl) T.len PySem.boot_len (pa_cons (pv 1) pa_nil)) pe_int (nomark _)) (pe_callB (c_lenK (K := K) rfl) (by rfl) T.len PySem.boot_len (pa_cons (pe_ix (ix_TK (K := K) rfl) (pv 1) pe_int (fun _ _ => rfl)) pa_nil)) pe_int)))
      (pss_one (ps_for PassesOwn.never rfl (pi_range1 (by rfl) T.range (pa_cons (pv 2) pa_nil)) (pg_name (i := 3) nd rfl (Or.inl rfl))
      (pss_one (ps_for PassesOwn.never rfl (pi_tupK (K := K) rfl (pe_flK (K := K) rfl (pv 0) rfl)) (pg_name (i := 4) nd rfl (Or.inl rfl))
        (pss_cons (ps_par (i := 5) (j := 6) (by rfl) nd rfl rfl (by decide) rfl rfl (pa_cons (pe_ix (ix_TK (K := K) rfl) (pv 1) (pe_find (pe_flK (K := K) rfl (pv 0) rfl) (pe_ix ix_str (pv 4) pe_int (fun _ _ => rfl))) (fun _ _ => rfl)) (pa_cons (pe_ix (ix_TK (K := K) rfl) (pv 1) (pe_find (pe_flK (K := K) rfl (pv 0) rfl) (pe_ix ix_str (pv 4) pe_int (fun _ _ => rfl))) (fun _ _ => rfl)) pa_nil)) (by rfl))
          (pss_one (ps_if (pt_cmpR op_ne (pe_ix (ix_TK (K := K) rfl) (pv 6) (pe_ix (ix_TK (K := K) rfl) (pv 5) (pv 3) (fun _ _ => rfl)) (fun _ _ => rfl)) (pe_ix (ix_TK (K := K) rfl) (pv 5) (pe_ix (ix_TK (K := K) rfl) (pv 6) (pv 3) (fun _ _ => rfl)) (fun _ _ => rfl)) (nomark _))
          (pss_one ps_never)
          pss_nil)))))))), ?_⟩
  refine s_start [some _, some _, none, none, none, none, none] rfl ?_
  obtain ⟨E, e1, e2, e3⟩ := hT.ex
  have lE : E.length = TT.length := by rw [← e1, List.length_map]
  obtain ⟨dx, tp, dq, a1, a2, a3⟩ := pl.ex
  have lr : (refV E).length = E.length := List.length_map _
  walk_at "go"
  refine e_cut (fun v H' => ∃ m : Nat, v = .int ((m : Nat) : Int) ∧ H' = H ∧ m ≤ n) ?_ ?_
  · walk_at "go"
    refine v_lenT71 e2 ?_
    rw [lr]
    walk_at "go"
    by_cases c : 0 < E.length
    · rw [decide_eq_true (show (0 : Int) < ((E.length : Nat) : Int) by omega)]
      refine ⟨_, rfl, ?_⟩
      walk_at "go"
      have he : E[0]? = some E[0] := List.getElem?_eq_getElem c
      have em : E[0] ∈ E := List.getElem_mem c
      refine v_ixT e2 (at_of (j := 0) rfl (by rw [List.getElem?_map, he]; rfl)) ?_
      walk_at "go"
      refine v_lenT71 (e3 _ em) ?_
      refine ⟨_, rfl, rfl, ?_⟩
      rw [show (numV E[0].1).length = E[0].1.length from List.length_map _, (okT _ (by rw [← e1]; exact List.mem_map.mpr ⟨_, em, rfl⟩)).1]
      exact Nat.le_refl n
    · rw [decide_eq_false (show ¬ (0 : Int) < ((E.length : Nat) : Int) by omega)]
      refine ⟨_, rfl, ?_⟩
      walk_at "go"
      exact ⟨rfl, Nat.zero_le _⟩
  rintro v H' ⟨m, rfl, rfl, lm⟩
  walk_at "go"
  rw [Int.toNat_natCast]
  refine for_it (walk_rI (fun i => ((i : Nat) : Int)) (fun k => Int.zero_add _)) (fun i σ H1 => ∃ y3 y4 y5 y6, σ = [some (.ref x), some (.ref t), some (.int ((m : Nat) : Int)), y3, y4, y5, y6] ∧ H1 = H') ⟨_, _, _, _, rfl, rfl⟩ (fun _ _ _ _ _ => trivial) ?_ ?_
  · rintro i v σ H1 H2 hi ⟨y3, y4, y5, y6, rfl, rfl⟩ ⟨rfl, rfl⟩
    walk_at "go"
    refine v_fld a1 T.Plan.cl T.nP planF_p ?_
    walk_at "go"
    refine ⟨tp, rfl, ⟨_, SqT.of a2⟩, ?_⟩
    refine for_it (walk_tup (K := K) (a := tp) (xs := strsV ps)) (fun j σ H1 => ∃ y4 y5 y6, σ = [some (.ref x), some (.ref t), some (.int ((m : Nat) : Int)), some (.int ((i : Nat) : Int)), y4, y5, y6] ∧ H1 = H2) ⟨_, _, _, rfl, rfl⟩ (fun _ _ _ _ ⟨_, _, _, _, e⟩ => by rw [e]; exact SqT.of a2) ?_ ?_
    · rintro j v σ H1 H3 hj ⟨y4, y5, y6, rfl, rfl⟩ ⟨rfl, hv⟩
      obtain ⟨p, hp, rfl⟩ : ∃ p, ps[j]? = some p ∧ v = V.str (tx p) := by
        unfold strsV at hv
        rw [List.getElem?_map] at hv
        obtain ⟨p, h1, h2⟩ := Option.map_eq_some_iff.mp hv
        exact ⟨p, h1, h2.symm⟩
      obtain ⟨a, b, rfl, ha, hb, hex⟩ := ex p (List.mem_of_getElem? hp)
      have row : ∀ c, c ∈ ks → ∃ e ∈ E, (refV E)[ixOf ks c]? = some (.ref e.2) ∧ rowK ks TT c = e.1 ∧ e.1 ∈ TT := fun c hc => by
        have l1 : ixOf ks c < E.length := by rw [lE, lT]; exact (ixOf_get hc).1
        have he : E[ixOf ks c]? = some E[ixOf ks c] := List.getElem?_eq_getElem l1
        refine ⟨E[ixOf ks c], List.getElem_mem l1, by rw [List.getElem?_map, he]; rfl, ?_, by rw [← e1]; exact List.mem_map.mpr ⟨_, List.getElem_mem l1, rfl⟩⟩
        unfold rowK
        rw [← e1, List.getD_eq_getElem?_getD, List.getElem?_map, he]
        rfl
      obtain ⟨ea, ma, ga, ra, ta⟩ := row a ha
      obtain ⟨eb, mb, gb, rb, tb⟩ := row b hb
      have im : i < n := by omega
      have hex := hex i im
      rw [ra, rb] at hex
      walk_at "go"
      refine v_fld a1 T.Plan.cl T.nK planF_k ?_
      refine ⟨⟨_, rfl⟩, ?_⟩
      walk_at "go"
      refine v_ixS (by show 2 ≤ 1000000; decide) (show atI [a, b] 0 = some a from rfl) ?_
      refine v_find ha ?_
      refine v_ixT e2 (at_of (j := ixOf ks a) rfl ga) ?_
      walk_at "go"
      refine v_fld a1 T.Plan.cl T.nK planF_k ?_
      refine ⟨⟨_, rfl⟩, ?_⟩
      walk_at "go"
      refine v_ixS (by show 2 ≤ 1000000; decide) (show atI [a, b] 1 = some b from rfl) ?_
      refine v_find hb ?_
      refine v_ixT e2 (at_of (j := ixOf ks b) rfl gb) ?_
      walk_at "go"
      have la : ∀ {z : Nat}, z < n → z < ea.1.length := fun h => by rw [(okT _ ta).1]; exact h
      have lb : ∀ {z : Nat}, z < n → z < eb.1.length := fun h => by rw [(okT _ tb).1]; exact h
      refine v_ixT (e3 _ ma) (at_of (j := i) rfl (num_at (la im))) ?_
      refine v_ixT (e3 _ mb) (at_of (j := ea.1.getD i 0) rfl (num_at (lb (okT.get ta im)))) ?_
      walk_at "go"
      refine v_ixT (e3 _ mb) (at_of (j := i) rfl (num_at (lb im))) ?_
      refine v_ixT (e3 _ ma) (at_of (j := eb.1.getD i 0) rfl (num_at (la (okT.get tb im)))) ?_
      rw [hex]
      walk_at "go"
      try rw [decide_eq_true (show V.int ((ea.1.getD (eb.1.getD i 0) 0 : Nat) : Int) = V.int ((ea.1.getD (eb.1.getD i 0) 0 : Nat) : Int) from rfl)]
      try rw [if_neg (show ¬ (!true) = true from Bool.false_ne_true)]
      try walk_at "go"
      exact ⟨_, _, _, rfl, rfl⟩
    · rintro σ H1 ⟨y4, y5, y6, rfl, rfl⟩
      exact ⟨_, _, _, _, rfl, rfl⟩
  · rintro σ H1 ⟨y3, y4, y5, y6, rfl, rfl⟩
    exact k H1 (Same.refl _)
end
end
section
open PySem PySem.Spec L2
/-- numbers in a list or in a tuple -/
def SqN (H : Hp) (p : Addr) (r : List Nat) : Prop := H p = some (.lst (numV r)) ∨ H p = some (.tup (numV r))
theorem SqN.same {H H' : Hp} {p : Addr} {r : List Nat} (h : SqN H p r) (s : Same H H') : SqN H' p r := h.imp (s _ _) (s _ _)
theorem v_lenN71 {K : PySem.W.Frag} {H : Hp} {Q : VK} {p : Addr} {r : List Nat} (h : SqN H p r) (q : Q (.int ((r.length : Nat) : Int)) H) : rLen K [.ref p] H Q := by
  have e : (numV r).length = r.length := List.length_map _
  rw [← e] at q
  exact ⟨p, numV r, rfl, h.imp SqL.of SqT.of, q⟩
theorem walk_numT {K : PySem.W.Frag} {a : Addr} {l : List Nat} : Walk (Itt K a) l.length (fun H => SqT K H a (numV l)) (fun k H x H' => H' = H ∧ x = .int ((l.getD k 0 : Nat) : Int)) := by
  have w := walk_tup (K := K) (a := a) (xs := numV l)
  rw [show (numV l).length = l.length from List.length_map _] at w
  refine w.mono (fun _ z => z) fun i H x H' hi _ y => ⟨y.1, ?_⟩
  have z := y.2
  rw [num_at hi] at z
  exact (Option.some.inj z).symm
structure TxtCi (K : PySem.W.Frag) (mg : Str → Option Value) (C : Addr) : Prop extends TxtCp K mg C where
  all : mg "all" = none
  bool : mg "bool" = none
  isinstance : mg "isinstance" = none
def spIsI71 : Sp := fun vs H Q _ => ∃ n : Int, vs = [.int n] ∧ Q (.bl true) H
def spRowOk : Sp := fun vs H Q _ => ∃ (p : Addr) (r : List Nat), vs = [.ref p, .non] ∧ SqN H p r ∧ 0 < r.length ∧ r.length ≤ 1000 ∧ ∀ H', Same H H' → Q (.bl true) H'
section
variable {P : Program} {w : World} {K : PySem.W.Frag} {mg : Str → Option Value} {base : Heap} {C : Addr}
abbrev stis_integer : Stmt := (top 13)
abbrev Nis_integer : List Str := ["value"]
theorem scis_integer : FnScope Nis_integer ["value"] (defScope stis_integer) := ⟨rfl, rfl, rfl, by decide +kernel, rfl, by decide +kernel, by decide +kernel⟩

theorem ok_is_integer71 (F : FnAt K mg "is_integer" stis_integer) (T : TxtCi K mg C) : Def P w K mg base CX0 1 "is_integer" ["value"] spIsI71 := by
  refine F.ok scis_integer (fun _ _ _ _ _ _ us hl => match us, hl with | [_], _ => rfl) (fun vs H Q E h => ?_) (fun f cdv A outer s H vs Q E hr h => ?_)
  · obtain ⟨n, rfl, _⟩ := h
    rfl
  obtain ⟨n, rfl, k⟩ := h
  have hu := hu_of hr
  have nd := scis_integer.nd
  refine ⟨_, (pss_one (ps_ret (pe_and (pe_callB (c_isiK (K := K) rfl) (by rfl) T.isinstance (by decide +kernel) (pa_cons (pv 0) (pa_cons (pe_bltn (v := .ty "int") (u := .type "int") (by rfl) T.int (by decide +kernel) rfl) pa_nil))) (pe_one (pe_not (pe_callB (c_isiK (K := K) rfl) (by rfl) T.isinstance (by decide +kernel) (pa_cons (pv 0) (pa_cons (pe_bltn (v := .ty "bool") (u := .type "bool") (by rfl) T.bool (by decide +kernel) rfl) pa_nil)))))))), ?_⟩
  refine s_start [some _] rfl ?_
  walk_at "go"
  refine ⟨.int n, .ty "int", .type "int", .type "int", true, rfl, .ty "int", .base (.int n), kit_ty (by decide +kernel), ?_⟩
  refine ⟨_, rfl, ?_⟩
  rw [if_pos rfl]
  walk_at "go"
  refine ⟨.int n, .ty "bool", .type "int", .type "bool", false, rfl, .ty "bool", .base (.int n), kit_ty (by decide +kernel), ?_⟩
  walk_at "go"
  exact k
abbrev stis_table_row : Stmt := (top 25)
abbrev Nis_table_row : List Str := ["value", "many", "entry"]
theorem scis_table_row : FnScope Nis_table_row ["value", "many"] (defScope stis_table_row) := ⟨rfl, rfl, rfl, by decide +kernel, rfl, by decide +kernel, by decide +kernel⟩

theorem ok_is_table_row (F : FnAt K mg "is_table_row" stis_table_row) (T : TxtCi K mg C) (D_is_list : Def P w K mg base CX0 1 "is_list" ["value"] (spIsList K)) (D_is_integer : Def P w K mg base CX0 1 "is_integer" ["value"] spIsI71) : Def P w K mg base CX0 2 "is_table_row" ["value", "many"] spRowOk := by
  refine F.ok scis_table_row (fun _ _ _ _ _ _ us hl => match us, hl with | [_, _], _ => rfl) (fun vs H Q E h => ?_) (fun f cdv A outer s H vs Q E hr h => ?_)
  · obtain ⟨p, r, rfl, _⟩ := h
    rfl
  obtain ⟨p, r, rfl, hp, r0, lr, k⟩ := h
  have hu := hu_of hr
  have nd := scis_table_row.nd
  refine ⟨_, (pss_cutS (ps_if (PW.pt (pw_or (pt_not (pt_val (pe_cd D_is_list hr pass0 (pa_cons (pv 0) pa_nil)))) (pw_or (pt_cmpR op_eq (pe_callB (c_lenK (K := K) rfl) (by rfl) T.len PySem.boot_len (pa_cons (pv 0) pa_nil)) pe_int (nomark _)) (pw_or1 (PW.pt (pw_and (pt_cmpR op_notN1 (pv 1) pe_non (nomark _)) (pw_and1 (pt_cmpR op_ne (pe_callB (c_lenK (K := K) rfl) (by rfl) T.len PySem.boot_len (pa_cons (pv 0) pa_nil)) (pv 1) (nomark _)))))))))
      (pss_one (ps_ret pe_bl))
      pss_nil)
      (pss_one (ps_ret (pe_callB (c_allK (K := K) rfl rfl) (by rfl) T.all (by decide +kernel) (pa_cons (pe_lc (own := [("entry", 2)]) (g := gName 2) (by rfl) nd (pi_or (pi_listK (K := K) rfl (pv 0)) (pi_tupK (K := K) rfl (pv 0))) (blkOk_by (own := [("entry", 2)]) (N := Nis_table_row) (sc := defScope stis_table_row) (by decide +kernel)) (fun _ _ _ _ _ => (pg_name (i := 2) nd rfl (Or.inl rfl))) (fun _ _ _ _ _ => pts_nil) (fun _ _ _ _ _ => (pe_cd D_is_integer hr pass0 (pa_cons (pv 2) pa_nil)))) pa_nil))))), ?_⟩
  refine s_start [some _, some _, none] rfl ?_
  refine s_cut (fun σ H' => σ = [some (.ref p), some .non, none] ∧ Same H H') ?_ ?_
  · walk_at "go"
    refine ⟨p, numV r, rfl, hp.elim .inl fun z => .inr (.inl z), fun H1 s1 => ?_⟩
    walk_at "go"
    refine v_lenN71 (hp.same s1) ?_
    walk_at "go"
    rw [if_neg (show ¬ decide (V.int ((r.length : Nat) : Int) = V.int 0) = true from fun z => by
      have z := of_decide_eq_true z
      injection z with z
      omega)]
    walk_at "go"
    refine ⟨rfl, false, rfl, ?_⟩
    walk_at "go"
    exact ⟨rfl, s1⟩
  rintro σ H1 ⟨rfl, s1⟩
  have fin : ∀ D H', H1 D = none → Same H1 H' → H' D = some (.lst (((List.range r.length).filter fun _ => true).map fun _ => V.bl true)) → rAll K [.ref D] H' Q := fun D H' hD s e => by
    have e2 : H' D = some (.lst (((List.range r.length).map fun _ => true).map V.bl)) := by
      rw [e, List.filter_eq_self.mpr (fun _ _ => rfl), List.map_map]
      rfl
    refine v_all e2 ?_
    rw [show (((List.range r.length).map fun _ => true).all id) = true from by simp]
    exact k H' (s1.trans s)
  walk_at "go"
  rcases hp.same s1 with z | z
  · refine Or.inl ⟨_, rfl, p, rfl, ⟨_, SqL.of z⟩, ?_⟩
    refine lc_gen (n := r.length) (b := fun _ => true) (it := fun j => .int ((r.getD j 0 : Nat) : Int)) (f := fun _ => V.bl true) walk_numL (fun H' s' => SqL.of (s' _ _ z)) (by omega) (fun j hj H4 s4 R' rr => ?_) (fun j hj _ H4 s4 R' rr => ?_) (fun D H4 hD s4 eD => ?_)
    · walk_at "go"
      exact rr _ (Same.refl _)
    · walk_at "go"
      exact ⟨_, rfl, rr _ (Same.refl _)⟩
    · exact fin D H4 hD s4 eD
  · refine Or.inr ⟨_, rfl, p, rfl, ⟨_, SqT.of z⟩, ?_⟩
    refine lc_gen (n := r.length) (b := fun _ => true) (it := fun j => .int ((r.getD j 0 : Nat) : Int)) (f := fun _ => V.bl true) walk_numT (fun H' s' => SqT.of (s' _ _ z)) (by omega) (fun j hj H4 s4 R' rr => ?_) (fun j hj _ H4 s4 R' rr => ?_) (fun D H4 hD s4 eD => ?_)
    · walk_at "go"
      exact rr _ (Same.refl _)
    · walk_at "go"
      exact ⟨_, rfl, rr _ (Same.refl _)⟩
    · exact fin D H4 hD s4 eD
end
end
section
open PySem PySem.Spec L2
/-- tables as they are told -/
structure TabS (K : PySem.W.Frag) (H : Hp) (t : Addr) (T : List (List Nat)) : Prop where
  ex : ∃ E : List (List Nat × Addr), E.map (·.1) = T ∧ SeqO K H t (refV E) ∧ ∀ e ∈ E, SqN H e.2 e.1
def spTabRows (K : PySem.W.Frag) (C : Addr) : Sp := fun vs H Q _ => ∃ (x t : Addr) (ks : List Nat) (ps T : List (List Nat)) (n : Nat), vs = [.ref x, .ref t, .non] ∧ PlanAt C H x ks ps ∧ TabS K H t T ∧ T.length = ks.length ∧ ks.length ≤ 1000 ∧ OkT n T ∧ 0 < n ∧ n ≤ 1000 ∧ ∀ q H', H q = none → Same H H' → TabT H' q T → Q (.ref q) H'
theorem v_lenO71 {K : PySem.W.Frag} {H : Hp} {Q : VK} {p : Addr} {xs : List V} (h : SeqO K H p xs) (q : Q (.int ((xs.length : Nat) : Int)) H) : rLen K [.ref p] H Q := by
  rcases h with h | h | ⟨rfl, o, n, h, c, e⟩
  · exact ⟨p, xs, rfl, .inl (SqL.of h), q⟩
  · exact ⟨p, xs, rfl, .inr (SqT.of h), q⟩
  · exact ⟨p, [], rfl, .inr (.inr ⟨o, #[], n, h, c, e, by decide, .nil⟩), q⟩
theorem v_ixO71 {K : PySem.W.Frag} {H : Hp} {Q : VK} {p : Addr} {xs : List V} {v : V} (h : SeqO K H p xs) (e : atI xs 0 = some v) (q : Q v H) : rIxL K (.ref p) (.int 0) H Q ∨ rIxT K (.ref p) (.int 0) H Q := by
  rcases h with h | h | ⟨rfl, _⟩
  · exact .inl (v_ixL h e q)
  · exact .inr (v_ixT h e q)
  · cases e
section
variable {P : Program} {w : World} {K : PySem.W.Frag} {mg : Str → Option Value} {base : Heap} {C : Addr}
abbrev sttable_rows : Stmt := (top 26)
abbrev Ntable_rows : List Str := ["plan", "tables", "many", "row"]
theorem sctable_rows : FnScope Ntable_rows ["plan", "tables", "many"] (defScope sttable_rows) := ⟨rfl, rfl, rfl, by decide +kernel, rfl, by decide +kernel, by decide +kernel⟩

theorem ok_table_rows (F : FnAt K mg "table_rows" sttable_rows) (T : TxtCi K mg C) (D_is_list : Def P w K mg base CX0 1 "is_list" ["value"] (spIsList K)) (D_is_table_row : Def P w K mg base CX0 2 "is_table_row" ["value", "many"] spRowOk) : Def P w K mg base CX0 3 "table_rows" ["plan", "tables", "many"] (spTabRows K C) := by
  refine F.ok sctable_rows (fun _ _ _ _ _ _ us hl => match us, hl with | [_, _, _], _ => rfl) (fun vs H Q E h => ?_) (fun f cdv A outer s H vs Q E hr h => ?_)
  · obtain ⟨x, t, ks, ps, T, n, rfl, _⟩ := h
    rfl
  obtain ⟨x, t, ks, ps, TT, n, rfl, pl, hT, lT, lk, okT, n0, ln, k⟩ := h
  have hu := hu_of hr
  have nd := sctable_rows.nd
  replace D_is_list := D_is_list.mono (show 1 ≤ 2 by decide)
  refine ⟨_, (pss_cutS (ps_if (PW.pt (pw_or (pt_not (pt_val (pe_cd D_is_list hr pass0 (pa_cons (pv 1) pa_nil)))) (pw_or1 (pt_cmpR op_ne (pe_callB (c_lenK (K := K) rfl) (by rfl) T.len PySem.boot_len (pa_cons (pv 1) pa_nil)) (pe_callB c_lenS (by rfl) T.len PySem.boot_len (pa_cons (pe_flK (K := K) rfl (pv 0) rfl) pa_nil)) (nomark _)))))
      (pss_one ps_never)
      pss_nil)
      (pss_cons (ps_for PassesOwn.never rfl (pi_or (pi_listK (K := K) rfl (pv 1)) (pi_tupK (K := K) rfl (pv 1))) (pg_name (i := 3) nd rfl (Or.inl rfl))
      (pss_one (ps_if (PW.pt (pw_or (pt_not (pt_val (pe_cd D_is_table_row hr pass0 (pa_cons (pv 3) (pa_cons (pv 2) pa_nil))))) (pw_or1 (pt_cmpR op_ne (pe_callB (c_lenK (K := K) rfl) (by rfl) T.len PySem.boot_len (pa_cons (pv 3) pa_nil)) (pe_callB (c_lenK (K := K) rfl) (by rfl) T.len PySem.boot_len (pa_cons (pe_ix (IxR.or (ix_LK (K := K) rfl) (ix_TK (K := K) rfl)) (pv 1) pe_int (fun _ _ => rfl)) pa_nil)) (nomark _)))))
        (pss_one ps_never)
        pss_nil)))
      (pss_one (ps_ret (pe_callTy (c_tupleK (K := K) rfl) (by rfl) T.tuple (by decide +kernel) (pa_cons (pe_lc (own := [("row", 3)]) (g := gName 3) (by rfl) nd (pi_or (pi_listK (K := K) rfl (pv 1)) (pi_tupK (K := K) rfl (pv 1))) (blkOk_by (own := [("row", 3)]) (N := Ntable_rows) (sc := defScope sttable_rows) (by decide +kernel)) (fun _ _ _ _ _ => (pg_name (i := 3) nd rfl (Or.inl rfl))) (fun _ _ _ _ _ => pts_nil) (fun _ _ _ _ _ => (pe_callTy (c_tupleK (K := K) rfl) (by rfl) T.tuple (by decide +kernel) (pa_cons (pv 3) pa_nil)))) pa_nil)))))), ?_⟩
  refine s_start [some _, some _, some _, none] rfl ?_
  obtain ⟨E, e1, e2, e3⟩ := hT.ex
  have lE : E.length = TT.length := by rw [← e1, List.length_map]
  have lr : (refV E).length = E.length := List.length_map _
  obtain ⟨dx, tp, dq, a1, a2, a3⟩ := pl.ex
  have so : ∀ {H' : Hp}, Same H H' → SeqO K H' t (refV E) := fun s => e2.imp (s _ _) (Or.imp (s _ _) id)
  refine s_cut (fun σ H' => σ = [some (.ref x), some (.ref t), some .non, none] ∧ Same H H') ?_ ?_
  · walk_at "go"
    refine ⟨t, refV E, rfl, e2, fun H1 s1 => ?_⟩
    walk_at "go"
    refine v_lenO71 (so s1) ?_
    walk_at "go"
    refine v_fld (s1 _ _ a1) T.Plan.cl T.nK planF_k ?_
    walk_at "go"
    rw [decide_eq_true (show V.int (((refV E).length : Nat) : Int) = V.int ((ks.length : Nat) : Int) from by rw [lr, lE, lT]), if_neg (show ¬ (!true) = true from Bool.false_ne_true)]
    walk_at "go"
    exact ⟨rfl, s1⟩
  rintro σ H1 ⟨rfl, s1⟩
  refine e_forSeqA (te0 := tVar 1) e2 s1 (fun Q q => ⟨_, rfl, q⟩) (fun i σ H' => ∃ y3, σ = [some (.ref x), some (.ref t), some .non, y3] ∧ Same H H') ⟨_, rfl, s1⟩ (fun i σ' H' ⟨_, _, z⟩ => z) ?_ ?_
  · rintro i v σ H2 hv ⟨y3, rfl, s2⟩
    rw [List.getElem?_map] at hv
    obtain ⟨e, he, rfl⟩ := Option.map_eq_some_iff.mp hv
    have em := List.mem_of_getElem? he
    have eT : e.1 ∈ TT := by rw [← e1]; exact List.mem_map.mpr ⟨e, em, rfl⟩
    have le := (okT _ eT).1
    walk_at "go"
    refine ⟨e.2, e.1, rfl, (e3 e em).same s2, by omega, by omega, fun H3 s3 => ?_⟩
    have s23 := s2.trans s3
    walk_at "go"
    refine v_lenN71 ((e3 e em).same s23) ?_
    walk_at "go"
    have pE : 0 < E.length := by
      have := (List.getElem?_eq_some_iff.mp he).1
      omega
    have h0 : E[0]? = some E[0] := List.getElem?_eq_getElem pE
    have m0 : E[0] ∈ E := List.getElem_mem pE
    have l0 : E[0].1.length = n := (okT _ (by rw [← e1]; exact List.mem_map.mpr ⟨_, m0, rfl⟩)).1
    refine v_ixO71 (v := .ref E[0].2) (so s23) (at_of (j := 0) rfl (by rw [List.getElem?_map, h0]; rfl)) ?_
    walk_at "go"
    refine v_lenN71 ((e3 _ m0).same s23) ?_
    rw [l0, le]
    walk_at "go"
    try rw [decide_eq_true (show V.int ((n : Nat) : Int) = V.int ((n : Nat) : Int) from rfl)]
    try rw [if_neg (show ¬ (!true) = true from Bool.false_ne_true)]
    try walk_at "go"
    exact ⟨_, rfl, s23⟩
  rintro σ H2 ⟨y3, rfl, s2⟩
  walk_at "go"
  refine i_refs (te0 := tVar 1) (E := E) (R' := fun H' v r => ∃ q, v = .ref q ∧ RowTu H' q r) e2 s2 (by omega) (fun Q q => ⟨_, rfl, q⟩) (fun v r H3 H4 ⟨q, e, z⟩ s => ⟨q, e, s _ _ z⟩) (fun v r H3 H4 D l ⟨q, e, z⟩ e0 kp => ⟨q, e, kp _ _ z (ne_tupL z e0)⟩) (fun e he H3 s3 R r => ?_) (fun e he H3 s3 R r => ?_) (fun D H3 vs hD s3 eD lv rv => ?_)
  · walk_at "go"
    exact r _ (Same.refl _)
  · walk_at "go"
    rcases (e3 e he).same (s2.trans s3) with z | z
    · refine v_tuple z fun q H4 hq s4 eq => ?_
      exact r _ _ s4 ⟨q, rfl, eq⟩
    · exact ⟨e.2, _, rfl, .inr ⟨SqT.of z, r _ _ (Same.refl _) ⟨e.2, rfl, z⟩⟩⟩
  walk_at "go"
  obtain ⟨G, g1, rfl, g3⟩ := refs_of (R := RowTu) (H := H3) (vs := vs) (D := TT) (by rw [lv, lE]) fun j v r h1 h2 => by
    rw [← e1, List.getElem?_map] at h2
    obtain ⟨e, he, rfl⟩ := Option.map_eq_some_iff.mp h2
    exact rv j v e h1 he
  refine v_tuple eD fun q H4 hq s4 eq => ?_
  exact k q H4 (Same.free (s2.trans s3) hq) ((s2.trans s3).trans s4) ⟨G, g1, eq, fun e he => s4 _ _ (g3 e he)⟩
end
end
section
open PySem PySem.Spec L2
/-- letters alone -/
def PsOk (ps : List (List Nat)) : Prop := ∀ l ∈ ps, ∀ c ∈ l, c < 1000
def spPlanEq (C : Addr) : Sp := fun vs H Q _ => ∃ (x y : Addr) (ks ks' : List Nat) (ps ps' : List (List Nat)), vs = [.ref x, .ref y] ∧ PlanAt C H x ks ps ∧ PlanAt C H y ks' ps' ∧ PsOk ps ∧ PsOk ps' ∧ Q (.bl (decide (ks = ks' ∧ ps = ps'))) H
section
variable {P : Program} {w : World} {K : PySem.W.Frag} {mg : Str → Option Value} {base : Heap} {C : Addr}
abbrev stPlan_eq : Stmt := (inClass (top 22) 2)
abbrev NPlan_eq : List Str := ["self", "other"]
theorem scPlan_eq : FnScope NPlan_eq ["self", "other"] (defScope stPlan_eq) := ⟨rfl, rfl, rfl, by decide +kernel, rfl, by decide +kernel, by decide +kernel⟩

theorem ok_Plan_eq (F : MAt K C "__eq__" "Plan.__eq__" stPlan_eq) (T : TxtP K mg C) : MDef P w K mg base CX0 1 C "__eq__" ["self", "other"] (spPlanEq C) := by
  refine F.ok scPlan_eq (fun _ _ _ _ _ _ us hl => match us, hl with | [_, _], _ => rfl) (fun vs H Q E h => ?_) (fun f cdv A outer s H vs Q E hr h => ?_)
  · obtain ⟨x, y, ks, ks', ps, ps', rfl, _⟩ := h
    rfl
  obtain ⟨x, y, ks, ks', ps, ps', rfl, h1, h2, o1, o2, k⟩ := h
  have hu := hu_of hr
  have nd := scPlan_eq.nd
  refine ⟨_, (pss_one (ps_ret (pe_and (pe_callB (c_isiK (K := K) rfl) (by rfl) T.isinstance (by decide +kernel) (pa_cons (pv 1) (pa_cons (pe_globC T.Plan.at) pa_nil))) (pe_and (pe_cmpR op_eq (pe_flK (K := K) rfl (pv 0) rfl) (pe_flK (K := K) rfl (pv 1) rfl) (nomark _)) (pe_one (pe_cmpR (op_eqDK (K := K) rfl hr.units) (pe_flK (K := K) rfl (pv 0) rfl) (pe_flK (K := K) rfl (pv 1) rfl) (nomark _))))))), ?_⟩
  refine s_start [some _, some _] rfl ?_
  obtain ⟨dx, t, d, a1, a2, a3⟩ := h1.ex
  obtain ⟨dy, t', d', b1, b2, b3⟩ := h2.ex
  walk_at "go"
  refine v_isiC T.Plan b1 ?_
  walk_at "go"
  refine v_fld a1 T.Plan.cl T.nK planF_k ?_
  walk_at "go"
  refine v_fld b1 T.Plan.cl T.nK planF_k ?_
  walk_at "go"
  rw [dec_tx]
  refine if_dec (fun c => ?_) (fun c => ?_)
  · walk_at "go"
    refine v_fld a1 T.Plan.cl T.nP planF_p ?_
    walk_at "go"
    refine v_fld b1 T.Plan.cl T.nP planF_p ?_
    walk_at "go"
    refine v_eqT a2 b2 o1 o2 ?_
    have e : decide (ks = ks' ∧ ps = ps') = decide (ps = ps') := decide_eq_decide.mpr ⟨fun z => z.2, fun z => ⟨c, z⟩⟩
    rw [e] at k
    exact k
  · rw [decide_eq_false fun z => c z.1] at k
    exact k
end
end
section
open PySem PySem.Spec L2
def roomF (x : Addr) (name : List Nat) : List (Str × V) := putF "name" (.str (tx name)) (putF "plan" (.ref x) [])
theorem npn : ¬ (("plan" : Str) = "name") := by decide +kernel
theorem roomF_p {x : Addr} {name : List Nat} : (roomF x name).lookup ("plan" : Str) = some (.ref x) := by
  unfold roomF
  rw [lookup_putF, if_neg npn, lookup_putF, if_pos rfl]
theorem roomF_n {x : Addr} {name : List Nat} : (roomF x name).lookup ("name" : Str) = some (.str (tx name)) := by
  unfold roomF
  rw [lookup_putF, if_pos rfl]
/-- a room of the plan at x stands at r -/
structure RoomAt (R : Addr) (H : Hp) (r x : Addr) (name : List Nat) : Prop where
  ex : ∃ dx, H r = some (.ins R dx (roomF x name))
theorem RoomAt.same {R : Addr} {H H' : Hp} {r x : Addr} {name : List Nat} (h : RoomAt R H r x name) (s : Same H H') : RoomAt R H' r x name := by
  obtain ⟨dx, e⟩ := h.ex
  exact ⟨dx, s _ _ e⟩
structure TxtR (K : PySem.W.Frag) (mg : Str → Option Value) (C R O : Addr) : Prop extends TxtP K mg C where
  enumerate : mg "enumerate" = none
  OtherPlan : ExcF K mg "OtherPlan" O
/-- two plans, and what is due if they are equal and if not -/
def Plans2 (C : Addr) (H : Hp) (x y : Addr) (e : Bool) : Prop := ∃ (ks ks' : List Nat) (ps ps' : List (List Nat)), PlanAt C H x ks ps ∧ PlanAt C H y ks' ps' ∧ PsOk ps ∧ PsOk ps' ∧ e = decide (ks = ks' ∧ ps = ps')
def spNeedSame (C O : Addr) : Sp := fun vs H Q E => ∃ (x y : Addr) (e : Bool), vs = [.ref x, .ref y] ∧ Plans2 C H x y e ∧ (e = true → Q .non H) ∧ (e = false → E (.ref O) none H)
theorem PlanAt.none {C : Addr} {H : Hp} {x : Addr} {ks : List Nat} {ps : List (List Nat)} (h : PlanAt C H x ks ps) {a b : Addr} {o u : HO} (ha : H a = none) (hb : H b = none) : PlanAt C (upd (upd H a o) b u) x ks ps := by
  refine h.same fun c z hc => ?_
  rw [upd_ne (ne_of_none hc hb), upd_ne (ne_of_none hc ha)]
  exact hc
section
variable {P : Program} {w : World} {K : PySem.W.Frag} {mg : Str → Option Value} {base : Heap} {C R O : Addr}
abbrev stneed_same : Stmt := (top 15)
abbrev Nneed_same : List Str := ["plan", "other"]
theorem scneed_same : FnScope Nneed_same ["plan", "other"] (defScope stneed_same) := ⟨rfl, rfl, rfl, by decide +kernel, rfl, by decide +kernel, by decide +kernel⟩

theorem ok_need_same (F : FnAt K mg "need_same" stneed_same) (T : TxtR K mg C R O) (N_Plan_eq : MDef P w K mg base CX0 1 C "__eq__" ["self", "other"] (spPlanEq C)) : Def P w K mg base (L2.CX P w) 3 "need_same" ["plan", "other"] (spNeedSame C O) := by
  refine F.okX scneed_same (fun _ _ _ _ _ _ us hl => match us, hl with | [_, _], _ => rfl) (fun vs H Q E h => ?_) (fun f cdv A outer s H vs Q E hr h => ?_)
  · obtain ⟨x, y, e, rfl, _⟩ := h
    rfl
  obtain ⟨x, y, e, rfl, ⟨ks, ks', ps, ps', p1, p2, o1, o2, he⟩, q1, q2⟩ := h
  have hu := hu_of hr
  have nd := scneed_same.nd
  refine ⟨_, (pss_one (ps_if (pt_cmpR (op_neM N_Plan_eq T.Plan.ne T.Plan.ob hr pass0) (pv 0) (pv 1) (nomark _))
      (pss_one (ps_raise rfl (takes_of rfl rfl rfl rfl) (pmk_own0 T.OtherPlan)))
      pss_nil)), ?_⟩
  refine s_start [some _, some _] rfl ?_
  walk_at "go"
  obtain ⟨dx, t, d, a1, a2, a3⟩ := p1.ex
  obtain ⟨dy, t', d', b1, b2, b3⟩ := p2.ex
  refine v_M2n a1 b1 ?_
  refine ⟨x, y, ks, ks', ps, ps', rfl, p1, p2, o1, o2, ?_⟩
  refine ⟨_, rfl, ?_⟩
  walk_at "go"
  refine if_ndec (fun c => ?_) (fun c => ?_)
  · exact q2 (by rw [he, decide_eq_false c])
  · walk_at "go"
    exact q1 (by rw [he, decide_eq_true c])
end
end
local macro_rules | `(tactic| walk_at "ro") => `(tactic| first | assumption | ((apply RoomAt.go (by assumption)); walk_at "ro"))
local macro_rules | `(tactic| walk_at "pl") => `(tactic| first | assumption | ((apply PlanAt.go (by assumption)); walk_at "pl"))
local macro_rules | `(tactic| walk_at "st2") => `(tactic| first
  | (walk_at "st")
  | ((with_reducible refine v_rnameG ?_); refine ⟨_, _, _, (by walk_at "ro"), (by assumption), (by assumption), ?_⟩)
  | ((with_reducible refine v_rplanG ?_); refine ⟨_, _, _, (by walk_at "ro"), (by assumption), (by assumption), ?_⟩)
  | ((with_reducible refine v_rlenG ?_); refine ⟨_, _, (by walk_at "ro"), (by omega), ?_⟩)
  | ((with_reducible refine v_reqG ?_); refine ⟨_, _, _, _, _, (by walk_at "ro"), (by walk_at "ro"), (by walk_at "pl"), (by assumption), (by omega), (by omega), ?_⟩)
  | ((with_reducible refine v_rneG ?_); refine ⟨_, _, _, _, _, (by walk_at "ro"), (by walk_at "ro"), (by walk_at "pl"), (by assumption), (by omega), (by omega), ?_⟩)
  | ((with_reducible refine v_reqTG ?_); refine ⟨_, _, (by walk_at "ro"), ?_⟩)
  | ((with_reducible refine v_peqG ?_); refine ⟨_, _, (by walk_at "pl"), (by assumption), ?_⟩)
  | (with_reducible refine if_nI rfl ?_)
  | (with_reducible refine if_I rfl ?_)
  | ((with_reducible refine v_mdRG ?_); refine ⟨_, _, (by walk_at "ro"), (by decide +kernel), ?_⟩)
  | (with_reducible refine s_asgL ?_) | (with_reducible refine e_MN ?_)
  | (with_reducible refine e_CN ?_) | (refine ⟨rfl, rfl, ?_⟩))
local macro_rules | `(tactic| walk_at "go2") => `(tactic| repeat walk_at "st2")
section
open PySem PySem.Spec L2
/-! ### tables as data -/
def rowD71 (r : List Nat) : PyData := .tuple (r.map fun n => .int ((n : Nat) : Int))
def tabD (T : List (List Nat)) : PyData := .tuple (T.map rowD71)
theorem row71_eqv : ∀ r r' : List Nat, PyData.eqvAll (r.map fun n => PyData.int ((n : Nat) : Int)) (r'.map fun n => PyData.int ((n : Nat) : Int)) = decide (r = r')
  | [], [] => by simp [PyData.eqvAll]
  | [], _ :: _ => by simp [PyData.eqvAll]
  | _ :: _, [] => by simp [PyData.eqvAll]
  | a :: r, b :: r' => by
    rw [List.map_cons, List.map_cons]
    simp only [PyData.eqvAll, row71_eqv r r', PyData.eqv]
    rw [Bool.eq_iff_iff]
    simp only [Bool.and_eq_true, decide_eq_true_iff, List.cons.injEq]
    exact and_congr (beq_iff_eq.trans Int.ofNat_inj) Iff.rfl
theorem tab71_eqv : ∀ T T' : List (List Nat), PyData.eqvAll (T.map rowD71) (T'.map rowD71) = decide (T = T')
  | [], [] => by simp [PyData.eqvAll]
  | [], _ :: _ => by simp [PyData.eqvAll]
  | _ :: _, [] => by simp [PyData.eqvAll]
  | r :: T, r' :: T' => by
    rw [List.map_cons, List.map_cons]
    simp only [PyData.eqvAll, tab71_eqv T T']
    rw [show PyData.eqv (rowD71 r) (rowD71 r') = decide (r = r') from by
      unfold rowD71
      simp only [PyData.eqv, row71_eqv]]
    rw [Bool.eq_iff_iff]
    simp
theorem row71_lay : ∀ r : List Nat, PyData.canLayAll0 (r.map fun n => PyData.int ((n : Nat) : Int)) = true
  | [] => rfl
  | a :: r => by
    rw [List.map_cons]
    simp only [PyData.canLayAll0, PyData.canLay0, row71_lay r, Bool.and_true]
theorem tab71_lay : ∀ T : List (List Nat), PyData.canLayAll0 (T.map rowD71) = true
  | [] => rfl
  | r :: T => by
    rw [List.map_cons]
    simp only [PyData.canLayAll0, tab71_lay T, Bool.and_true]
    unfold rowD71
    simp only [PyData.canLay0, row71_lay r]
theorem row71_dep : ∀ r : List Nat, PyData.depthAll (r.map fun n => PyData.int ((n : Nat) : Int)) ≤ 4
  | [] => by show PyData.depthAll [] ≤ 4; decide
  | a :: r => Nat.max_le.mpr ⟨by show PyData.depth (PyData.int _) ≤ 4; simp [PyData.depth], row71_dep r⟩
theorem tab71_dep : ∀ T : List (List Nat), PyData.depthAll (T.map rowD71) ≤ 8
  | [] => by show PyData.depthAll [] ≤ 8; decide
  | r :: T => Nat.max_le.mpr ⟨by
      have := row71_dep r
      show PyData.depth (PyData.tuple _) ≤ 8
      simp only [PyData.depth]
      omega, tab71_dep T⟩
theorem tabD_shaped (T : List (List Nat)) : SeqAt.shaped (tabD T) = true := by
  have h1 := tab71_dep T
  have h2 : (PyData.tuple (T.map rowD71)).depth ≤ 64 := by simp only [PyData.depth]; omega
  have h3 : (PyData.tuple (T.map rowD71)).canLay0 = true := by simp only [PyData.canLay0]; exact tab71_lay T
  simp [SeqAt.shaped, tabD, h2, h3]
section
variable {K : PySem.W.Frag} {H : Hp} {Q : VK}
theorem dp_nums : ∀ r : List Nat, DpAll K H (numV r) (r.map fun n => PyData.int ((n : Nat) : Int))
  | [] => .nil
  | a :: r => .cons (.int _) (dp_nums r)
theorem dp_tab : ∀ {E : List (List Nat × Addr)}, (∀ e ∈ E, RowTu H e.2 e.1) → DpAll K H (refV E) ((E.map (·.1)).map rowD71)
  | [], _ => .nil
  | e :: E, h => .cons (.tup (SqT.of (h e (List.mem_cons_self ..))) (dp_nums e.1)) (dp_tab fun c hc => h c (List.mem_cons_of_mem _ hc))
theorem dp_tabT {t : Addr} {T : List (List Nat)} (h : TabT H t T) : Dp K H (.ref t) (tabD T) := by
  obtain ⟨E, e1, e2, e3⟩ := h.ex
  subst e1
  exact .tup (SqT.of e2) (dp_tab e3)
theorem v_eqTab {t t' : Addr} {T T' : List (List Nat)} (h : TabT H t T) (h' : TabT H t' T') (q : Q (.bl (decide (T = T'))) H) : rEqD K (.ref t) (.ref t') H Q :=
  ⟨_, _, dp_tabT h, dp_tabT h', tabD_shaped T, tabD_shaped T', by
    rw [show PyData.eqv (tabD T) (tabD T') = decide (T = T') from by
      unfold tabD
      simp only [PyData.eqv, tab71_eqv]]
    exact q⟩
end
/-! ### closed floors -/
/-- a closed floor -/
structure ClosedAt (CL : Addr) (H : Hp) (c x : Addr) (T : List (List Nat)) (m : Nat) : Prop where
  ml : m ≤ 1000
  ex : ∃ dx fs t q, H c = some (.ins CL dx fs) ∧ fs.lookup ("plan" : Str) = some (.ref x) ∧ fs.lookup ("tables" : Str) = some (.ref t) ∧ fs.lookup ("own_places" : Str) = some (.ref q) ∧ TabT H t T ∧ H q = some (.tup (numV (List.range m)))
  no : ∃ dx fs, H c = some (.ins CL dx fs) ∧ fs.lookup ("at" : Str) = none ∧ fs.lookup ("follow" : Str) = none ∧ fs.lookup ("need_place" : Str) = none ∧ fs.lookup ("walked" : Str) = none ∧ fs.lookup ("based" : Str) = none ∧ fs.lookup ("renamed" : Str) = none ∧ fs.lookup ("alike" : Str) = none ∧ fs.lookup ("first_ways" : Str) = none ∧ fs.lookup ("ways" : Str) = none
theorem ClosedAt.same {CL : Addr} {H H' : Hp} {c x : Addr} {T : List (List Nat)} {m : Nat} (h : ClosedAt CL H c x T m) (s : Same H H') : ClosedAt CL H' c x T m := by
  obtain ⟨dx, fs, t, q, e1, e2, e3, e4, e5, e6⟩ := h.ex
  obtain ⟨dy, gs, n1, n2⟩ := h.no
  exact ⟨h.ml, ⟨dx, fs, t, q, s _ _ e1, e2, e3, e4, e5.keep s, s _ _ e6⟩, dy, gs, s _ _ n1, n2⟩
structure TxtCc (K : PySem.W.Frag) (mg : Str → Option Value) (C CL : Addr) : Prop extends TxtCi K mg C where
  Closed : ClsF K mg "Closed" CL
  nQp : NoAttr K CL "plan"
  nQt : NoAttr K CL "tables"
  nQo : NoAttr K CL "own_places"
/-- what Closed(..) is made of -/
structure ClArg (K : PySem.W.Frag) (C : Addr) (H : Hp) (x t : Addr) (ks : List Nat) (ps T : List (List Nat)) (n : Nat) : Prop where
  pl : PlanAt C H x ks ps
  tab : TabS K H t T
  lT : T.length = ks.length
  lk : ks.length ≤ 1000
  lp : ps.length ≤ 1000
  ok : OkT n T
  n0 : 0 < n
  ln : n ≤ 1000
  back : Back n T
  exch : Exch n ks ps T
theorem TabS.same {K : PySem.W.Frag} {H H' : Hp} {t : Addr} {T : List (List Nat)} (h : TabS K H t T) (s : Same H H') : TabS K H' t T := by
  obtain ⟨E, e1, e2, e3⟩ := h.ex
  exact ⟨E, e1, e2.imp (s _ _) (Or.imp (s _ _) id), fun e he => (e3 e he).same s⟩
theorem ClArg.same {K : PySem.W.Frag} {C : Addr} {H H' : Hp} {x t : Addr} {ks : List Nat} {ps T : List (List Nat)} {n : Nat} (h : ClArg K C H x t ks ps T n) (s : Same H H') : ClArg K C H' x t ks ps T n :=
  ⟨h.pl.same s, h.tab.same s, h.lT, h.lk, h.lp, h.ok, h.n0, h.ln, h.back, h.exch⟩
theorem TabT.keepK {H H' : Hp} {t c CL dx : Addr} {fs : List (Str × V)} {T : List (List Nat)} (h : TabT H t T) (k : Keep c H H') (hc : H c = some (.ins CL dx fs)) : TabT H' t T := by
  obtain ⟨E, e1, e2, e3⟩ := h.ex
  exact ⟨E, e1, k _ _ e2 (ne_of e2 hc (by intro z; cases z)), fun e he => k _ _ (e3 e he) (ne_of (e3 e he) hc (by intro z; cases z))⟩
theorem bfs_nil (n first : Nat) : bfs [] n first = [first] := by
  show fp [] (n + 1) 0 [first] = [first]
  have a0 : ∀ (x : Nat) (fd : List Nat), addT [] x fd = fd := fun _ _ => rfl
  have key : ∀ m i, fp [] m i [first] = [first] := by
    intro m
    induction m with
    | zero => intro i; rfl
    | succ m ih =>
      intro i
      show (if i < [first].length then fp [] m (i + 1) (addT [] _ [first]) else [first]) = [first]
      rw [a0, ih]
      split <;> rfl
  exact key _ _
theorem bfs_pos (T : List (List Nat)) (n first : Nat) : 0 < (bfs T n first).length := by
  obtain ⟨q, hq⟩ := fp_pre T (n + 1) 0 [first]
  show 0 < (fp T (n + 1) 0 [first]).length
  rw [hq, List.length_append]
  exact Nat.lt_of_lt_of_le Nat.one_pos (Nat.le_add_right _ _)
def spClosed0 (K : PySem.W.Frag) (C CL : Addr) : Sp := fun vs H Q _ => ∃ (c dx x t : Addr) (G : Hp) (ks : List Nat) (ps T : List (List Nat)) (n : Nat), vs = [.ref c, .ref x, .ref t] ∧ H c = some (.ins CL dx []) ∧ G c = none ∧ Same G H ∧ ClArg K C G x t ks ps T n ∧
  ∀ H', Same G H' → ClosedAt CL H' c x (numT T (bfs T n 0)) (bfs T n 0).length → Q .non H'
def spClosed (K : PySem.W.Frag) (C CL : Addr) : Sp := fun vs H Q _ => ∃ (x t : Addr) (ks : List Nat) (ps T : List (List Nat)) (n : Nat), vs = [.ref x, .ref t] ∧ ClArg K C H x t ks ps T n ∧
  ∀ c H', H c = none → Same H H' → ClosedAt CL H' c x (numT T (bfs T n 0)) (bfs T n 0).length → Q (.ref c) H'
theorem conv_closed (K : PySem.W.Frag) (C CL : Addr) : Conv CL (spClosed0 K C CL) (spClosed K C CL) := by
  rintro vs H Q E ⟨x, t, ks, ps, T, n, rfl, ha, q⟩ a dx hx hdx hne
  have s0 : Same H (upd (upd H dx (.own a)) a (.ins CL dx [])) := fun b o hb => by
    rw [upd_ne (ne_of_none hb hx), upd_ne (ne_of_none hb hdx)]
    exact hb
  exact ⟨a, dx, x, t, H, ks, ps, T, n, rfl, upd_same, hx, s0, ha, fun H' s' z => ⟨rfl, q a H' hx s' z⟩⟩
def spClLen (CL : Addr) : Sp := fun vs H Q _ => ∃ (c x : Addr) (T : List (List Nat)) (m : Nat), vs = [.ref c] ∧ ClosedAt CL H c x T m ∧ Q (.int ((m : Nat) : Int)) H
def spClEq (C CL : Addr) : Sp := fun vs H Q _ => ∃ (c x c' x' : Addr) (T T' : List (List Nat)) (m m' : Nat) (e : Bool), vs = [.ref c, .ref c'] ∧ ClosedAt CL H c x T m ∧ ClosedAt CL H c' x' T' m' ∧ Plans2 C H x x' e ∧ Q (.bl (e && decide (T = T'))) H
theorem lt_rows {E : List (List Nat × Addr)} {T : List (List Nat)} {n : Nat} (e1 : E.map (·.1) = T) (ok : OkT n T) {e : List Nat × Addr} (he : e ∈ E) : e.1.length = n := (ok _ (by rw [← e1]; exact List.mem_map.mpr ⟨_, he, rfl⟩)).1
theorem e_tupRg1 {ta : TE} {σ : L2.St} {H : Hp} {Q : VK} (q : ta σ H fun x H1 => ∃ n : Nat, x = .int ((n : Nat) : Int) ∧ n ≤ 1000000 ∧ ∀ q H', H1 q = none → Same H1 H' → H' q = some (.tup (numV (List.range n))) → Q (.ref q) H') (mono : ∀ {Q1 Q2 : VK}, (∀ v H', Q1 v H' → Q2 v H') → ta σ H Q1 → ta σ H Q2) : tTupRg (tRg1 ta) σ H Q := by
  show ta σ H fun x H1 => ∃ n, x = .int n ∧ (RgOk 0 n ∧ ∀ q, H1 q = none → Q (.ref q) (upd H1 q (.tup (rgV 0 n))))
  refine mono (fun v H' ⟨n, e, ln, k⟩ => ?_) q
  refine ⟨_, e, .of_le (by omega) (by omega) (by omega) (by omega), fun q hq => k q _ hq (Same.new hq) ?_⟩
  rw [upd_same]
  have e2 : rgV 0 ((n : Nat) : Int) = numV (List.range n) := by
    unfold rgV numV
    rw [show (((n : Nat) : Int) - 0).toNat = n by omega]
    exact List.map_congr_left fun i _ => by rw [Int.zero_add]
  rw [e2]
section
variable {P : Program} {w : World} {K : PySem.W.Frag} {mg : Str → Option Value} {base : Heap} {C CL : Addr}
abbrev stClosed_init : Stmt := (inClass (top 32) 0)
abbrev NClosed_init : List Str := ["self", "plan", "tables", "rows"]
theorem scClosed_init : FnScope NClosed_init ["self", "plan", "tables"] (defScope stClosed_init) := ⟨rfl, rfl, rfl, by decide +kernel, rfl, by decide +kernel, by decide +kernel⟩

theorem ok_Closed (F : MAt K CL "__init__" "Closed.__init__" stClosed_init) (T : TxtCc K mg C CL) (D_table_rows : Def P w K mg base CX0 3 "table_rows" ["plan", "tables", "many"] (spTabRows K C)) (D_need_entries : Def P w K mg base CX0 1 "need_entries" ["plan", "rows", "turning"] (spNeedE C)) (D_need_exchanged : Def P w K mg base CX0 1 "need_exchanged" ["plan", "rows"] (spNeedX C)) (D_numbered_rows : Def P w K mg base CX0 2 "numbered_rows" ["rows", "first"] spNumP) :
    CMk0 P w K mg base CX0 4 "Closed" CL (spClosed K C CL) ["self", "plan", "tables"] "Closed.__init__" stClosed_init := by
  refine F.make0 (sp0 := spClosed0 K C CL) T.Closed scClosed_init (fun _ _ _ _ _ _ us hl => match us, hl with | [_, _, _], _ => rfl) (fun vs H Q E h => ?_) (conv_closed K C CL) (fun f cdv A outer s H vs Q E hr h => ?_)
  · obtain ⟨c, dx, x, t, G, ks, ps, T, n, rfl, _⟩ := h
    rfl
  obtain ⟨c, dx, x, t, G, ks, ps, TT, n, rfl, hc, hGc, sG, ha, q⟩ := h
  have hu := hu_of hr
  have nd := scClosed_init.nd
  replace D_need_entries := D_need_entries.mono (show 1 ≤ 3 by decide)
  replace D_need_exchanged := D_need_exchanged.mono (show 1 ≤ 3 by decide)
  replace D_numbered_rows := D_numbered_rows.mono (show 2 ≤ 3 by decide)
  refine ⟨_, (pss_cons (ps_set (i := 3) nd rfl (Or.inl rfl) (pe_cd D_table_rows hr pass0 (pa_cons (pv 1) (pa_cons (pv 2) (pa_cons pe_non pa_nil)))))
      (pss_cons (ps_expr (pe_cd D_need_entries hr pass0 (pa_cons (pv 1) (pa_cons (pv 3) (pa_cons pe_bl pa_nil)))))
      (pss_cons (ps_expr (pe_cd D_need_exchanged hr pass0 (pa_cons (pv 1) (pa_cons (pv 3) pa_nil))))
      (pss_cons (ps_flK (K := K) rfl (pv 0) (pv 1) rfl)
      (pss_cons (ps_flK (K := K) rfl (pv 0) (pe_cd D_numbered_rows hr pass0 (pa_cons (pv 3) (pa_cons pe_int pa_nil))) rfl)
      (pss_one (ps_flK (K := K) rfl (pv 0) (pe_tupRg rfl (by rfl) T.tuple (prg_1 (by rfl) T.range (pe_cut (pe_ifExp (pt_cmpR op_gt (pe_callB (c_lenK (K := K) rfl) (by rfl) T.len PySem.boot_len (pa_cons (pe_flK (K := K) rfl (pv 0) rfl) pa_nil)) pe_int (nomark _)) (pe_callB (c_lenK (K := K) rfl) (by rfl) T.len PySem.boot_len (pa_cons (pe_ix (ix_TK (K := K) rfl) (pe_flK (K := K) rfl (pv 0) rfl) pe_int (fun _ _ => rfl)) pa_nil)) pe_int)))) rfl))))))), ?_⟩
  refine s_start [some _, some _, some _, none] rfl ?_
  have keep : ∀ {H1 H2 : Hp}, Same G H1 → Keep c H1 H2 → Same G H2 := fun s k b ob hb => k _ _ (s _ _ hb) (ne_of_none hb hGc)
  walk_at "go"
  refine ⟨x, t, ks, ps, TT, n, rfl, ha.pl.same sG, ha.tab.same sG, ha.lT, ha.lk, ha.ok, ha.n0, ha.ln, fun r H1 hr1 s1 eT => ?_⟩
  have g1 := sG.trans s1
  walk_at "go"
  refine ⟨x, r, true, ks, ps, TT, n, rfl, ha.pl.same g1, eT, ha.lT, ha.ok, ha.ln, fun _ => ha.back, fun H2 s2 => ?_⟩
  have g2 := g1.trans s2
  walk_at "go"
  refine ⟨x, r, ks, ps, TT, n, rfl, ha.pl.same g2, eT.keep s2, ha.lT, ha.lk, ha.lp, ha.ok, ha.ln, ha.exch, fun H3 s3 => ?_⟩
  have g3 := g2.trans s3
  have s13 := s2.trans s3
  walk_at "go"
  have e3 := s13 _ _ (s1 _ _ hc)
  refine v_sfld e3 T.Closed.cl T.nQp (by decide) fun H4 k4 e4 => ?_
  have g4 := keep g3 k4
  have hT4 : TabT H4 r TT := (eT.keep s13).keepK k4 e3
  walk_at "go"
  refine ⟨r, TT, n, 0, rfl, hT4, ha.ok, by rw [ha.lT]; exact ha.lk, ha.n0, ha.ln, fun u H5 hu5 s5 eN => ?_⟩
  have g5 := g4.trans s5
  have e5 := s5 _ _ e4
  walk_at "go"
  refine v_sfld e5 T.Closed.cl T.nQt (by show 1 < 1000; decide) fun H6 k6 e6 => ?_
  have g6 := keep g5 k6
  have eN6 := eN.keepK k6 e5
  have okN := numT_ok (n := n) (x := 0) ha.ok ha.n0
  have lN : (numT TT (bfs TT n 0)).length = TT.length := List.length_map _
  have lb := (bfs_ok (n := n) ha.ok ha.n0).len
  have pb := bfs_pos TT n 0
  have bn : TT = [] → bfs TT n 0 = [0] := fun z => by rw [z]; exact bfs_nil n 0
  generalize bfs TT n 0 = fd at *
  obtain ⟨E, b1, b2, b3⟩ := eN6.ex
  have lE : E.length = TT.length := by rw [← lN, ← b1, List.length_map]
  have lr : (refV E).length = E.length := List.length_map _
  walk_at "go"
  refine e_tupRg1 ?_ (fun h z => ?_)
  · refine e_cut (fun v H' => v = .int ((fd.length : Nat) : Int) ∧ H' = H6) ?_ ?_
    · walk_at "go"
      refine v_fld e6 T.Closed.cl T.nQt (show (putF "tables" (.ref u) (putF "plan" (.ref x) [])).lookup ("tables" : Str) = some (V.ref u) from rfl) ?_
      walk_at "go"
      refine v_lenT71 b2 ?_
      rw [lr]
      walk_at "go"
      by_cases c0 : 0 < E.length
      · rw [decide_eq_true (show (0 : Int) < ((E.length : Nat) : Int) by omega)]
        refine ⟨_, rfl, ?_⟩
        walk_at "go"
        refine v_fld e6 T.Closed.cl T.nQt (show (putF "tables" (.ref u) (putF "plan" (.ref x) [])).lookup ("tables" : Str) = some (V.ref u) from rfl) ?_
        walk_at "go"
        have he : E[0]? = some E[0] := List.getElem?_eq_getElem c0
        refine v_ixT b2 (at_of (j := 0) rfl (by rw [List.getElem?_map, he]; rfl)) ?_
        walk_at "go"
        refine v_lenT71 (b3 _ (List.getElem_mem c0)) ?_
        rw [show (numV E[0].1).length = E[0].1.length from List.length_map _, lt_rows b1 okN (List.getElem_mem c0)]
        exact ⟨rfl, rfl⟩
      · rw [decide_eq_false (show ¬ (0 : Int) < ((E.length : Nat) : Int) by omega)]
        walk_at "go"
        refine ⟨?_, rfl⟩
        have z0 : TT = [] := List.length_eq_zero_iff.mp (by omega)
        rw [bn z0]
        rfl
    rintro v H' ⟨rfl, rfl⟩
    refine ⟨_, rfl, by have := ha.ln; omega, fun q1 H7 hq1 s7 eq1 => ?_⟩
    walk_at "go"
    have e7 := s7 _ _ e6
    refine v_sfld e7 T.Closed.cl T.nQo (by show 2 < 1000; decide) fun H8 k8 e8 => ?_
    exact q H8 (keep (g6.trans s7) k8) ⟨by have := ha.ln; omega, ⟨_, _, u, q1, e8, rfl, rfl, rfl, ((TabT.keep eN6 s7).keepK k8 e7), k8 _ _ eq1 (ne_of eq1 e7 (by intro z; cases z))⟩, _, _, e8, rfl, rfl, rfl, rfl, rfl, rfl, rfl, rfl, rfl⟩
  · obtain ⟨Mid, z1, z2⟩ := z
    exact ⟨Mid, z1, fun v H' y => h v H' (z2 v H' y)⟩
abbrev stClosed_len : Stmt := (inClass (top 32) 2)
abbrev NClosed_len : List Str := ["self"]
theorem scClosed_len : FnScope NClosed_len ["self"] (defScope stClosed_len) := ⟨rfl, rfl, rfl, by decide +kernel, rfl, by decide +kernel, by decide +kernel⟩

theorem ok_Closed_len (F : MAt K CL "__len__" "Closed.__len__" stClosed_len) (T : TxtCc K mg C CL) : MDef P w K mg base CX0 1 CL "__len__" ["self"] (spClLen CL) := by
  refine F.ok scClosed_len (fun _ _ _ _ _ _ us hl => match us, hl with | [_], _ => rfl) (fun vs H Q E h => ?_) (fun f cdv A outer s H vs Q E hr h => ?_)
  · obtain ⟨c, x, T, m, rfl, _⟩ := h
    rfl
  obtain ⟨c, x, TT, m, rfl, hc, q⟩ := h
  have hu := hu_of hr
  have nd := scClosed_len.nd
  refine ⟨_, (pss_one (ps_ret (pe_callB (c_lenK (K := K) rfl) (by rfl) T.len PySem.boot_len (pa_cons (pe_flK (K := K) rfl (pv 0) rfl) pa_nil)))), ?_⟩
  refine s_start [some _] rfl ?_
  obtain ⟨dx, fs, t, p, e1, e2, e3, e4, e5, e6⟩ := hc.ex
  walk_at "go"
  refine v_fld e1 T.Closed.cl T.nQo e4 ?_
  walk_at "go"
  refine v_lenT71 e6 ?_
  rw [show (numV (List.range m)).length = m from by unfold numV; rw [List.length_map, List.length_range]]
  exact q
abbrev stClosed_eq : Stmt := (inClass (top 32) 3)
abbrev NClosed_eq : List Str := ["self", "other"]
theorem scClosed_eq : FnScope NClosed_eq ["self", "other"] (defScope stClosed_eq) := ⟨rfl, rfl, rfl, by decide +kernel, rfl, by decide +kernel, by decide +kernel⟩

theorem ok_Closed_eq (F : MAt K CL "__eq__" "Closed.__eq__" stClosed_eq) (T : TxtCc K mg C CL) (M_Plan_eq : MDef P w K mg base CX0 1 C "__eq__" ["self", "other"] (spPlanEq C)) : MDef P w K mg base CX0 3 CL "__eq__" ["self", "other"] (spClEq C CL) := by
  refine F.ok scClosed_eq (fun _ _ _ _ _ _ us hl => match us, hl with | [_, _], _ => rfl) (fun vs H Q E h => ?_) (fun f cdv A outer s H vs Q E hr h => ?_)
  · obtain ⟨c, x, c', x', T1, T2, m, m', e, rfl, _⟩ := h
    rfl
  obtain ⟨c, x, c', x', T1, T2, m, m', e, rfl, hc, hc', ⟨ks, ks', ps, ps', pa, pb, oa, ob, he⟩, q⟩ := h
  have hu := hu_of hr
  have nd := scClosed_eq.nd
  replace M_Plan_eq := M_Plan_eq.mono (show 1 ≤ 2 by decide)
  refine ⟨_, (pss_one (ps_ret (pe_and (pe_callB (c_isiK (K := K) rfl) (by rfl) T.isinstance (by decide +kernel) (pa_cons (pv 1) (pa_cons (pe_globC T.Closed.at) pa_nil))) (pe_and (pe_cmpR (op_cmpM (op := .Eq) (fun _ _ => rfl) M_Plan_eq hr pass0) (pe_flK (K := K) rfl (pv 0) rfl) (pe_flK (K := K) rfl (pv 1) rfl) (nomark _)) (pe_one (pe_cmpR (op_eqDK (K := K) rfl hr.units) (pe_flK (K := K) rfl (pv 0) rfl) (pe_flK (K := K) rfl (pv 1) rfl) (nomark _))))))), ?_⟩
  refine s_start [some _, some _] rfl ?_
  obtain ⟨dx, fs, t, p, e1, e2, e3, e4, e5, e6⟩ := hc.ex
  obtain ⟨dx', fs', t', p', f1, f2, f3, f4, f5, f6⟩ := hc'.ex
  obtain ⟨dpa, ta, da, ga, _⟩ := pa.ex
  obtain ⟨dpb, tb, db, gb, _⟩ := pb.ex
  walk_at "go"
  refine v_isiC T.Closed f1 ?_
  walk_at "go"
  refine v_fld e1 T.Closed.cl T.nQp e2 ?_
  walk_at "go"
  refine v_fld f1 T.Closed.cl T.nQp f2 ?_
  refine v_M2 ga gb ⟨x, x', _, _, _, _, rfl, pa, pb, oa, ob, ?_⟩
  rw [← he]
  refine ⟨_, rfl, ?_⟩
  cases e with
  | true =>
    walk_at "go"
    refine v_fld e1 T.Closed.cl T.nQt e3 ?_
    walk_at "go"
    refine v_fld f1 T.Closed.cl T.nQt f3 ?_
    exact v_eqTab e5 f5 q
  | false =>
    walk_at "go"
    exact q
end
end
section
open PySem PySem.Spec L2
structure TxtCr (K : PySem.W.Frag) (mg : Str → Option Value) (C R O CL : Addr) : Prop extends TxtR K mg C R O, TxtCc K mg C CL
/-- the place to which a way leads -/
def walkT (ks : List Nat) (T : List (List Nat)) (p : Nat) (w : List Nat) : Nat := w.foldl (fun p c => (rowK ks T c).getD p 0) p
theorem walkT_snoc {ks : List Nat} {T : List (List Nat)} {p : Nat} {w : List Nat} {c : Nat} : walkT ks T p (w ++ [c]) = (rowK ks T c).getD (walkT ks T p w) 0 := by
  unfold walkT
  rw [List.foldl_append]
  rfl
theorem rowK_mem {ks : List Nat} {T : List (List Nat)} {c : Nat} (l : T.length = ks.length) (h : c ∈ ks) : rowK ks T c ∈ T := by
  have := (ixOf_get h).1
  unfold rowK
  rw [List.getD_eq_getElem?_getD, List.getElem?_eq_getElem (show ixOf ks c < T.length by omega)]
  exact List.getElem_mem _
theorem walkT_lt {n : Nat} {ks : List Nat} {T : List (List Nat)} (ok : OkT n T) (l : T.length = ks.length) : ∀ {w : List Nat} {p : Nat}, p < n → (∀ c ∈ w, c ∈ ks) → walkT ks T p w < n
  | [], _, h, _ => h
  | c :: w, p, h, hw => walkT_lt (w := w) ok l (ok.get (rowK_mem l (hw c (List.mem_cons_self ..))) h) fun d hd => hw d (List.mem_cons_of_mem _ hd)
section
variable {P : Program} {w : World} {K : PySem.W.Frag} {mg : Str → Option Value} {base : Heap} {C R O CL : Addr}
end
end
section
open PySem PySem.Spec L2
/-- tables of a plan that are right -/
structure Good (n : Nat) (ks : List Nat) (ps T : List (List Nat)) : Prop where
  lT : T.length = ks.length
  lk : ks.length ≤ 1000
  lp : ps.length ≤ 1000
  ok : OkT n T
  n0 : 0 < n
  ln : n ≤ 1000
  back : Back n T
  exch : Exch n ks ps T
theorem Good.arg {K : PySem.W.Frag} {C : Addr} {H : Hp} {x t : Addr} {ks : List Nat} {ps T : List (List Nat)} {n : Nat} (g : Good n ks ps T) (pl : PlanAt C H x ks ps) (tab : TabS K H t T) : ClArg K C H x t ks ps T n :=
  ⟨pl, tab, g.lT, g.lk, g.lp, g.ok, g.n0, g.ln, g.back, g.exch⟩
/-- places out of which nothing leads -/
structure Cl (n : Nat) (T : List (List Nat)) (fd : List Nat) : Prop where
  nd : fd.Nodup
  lt : ∀ x ∈ fd, x < n
  cl : ∀ y ∈ fd, ∀ r ∈ T, r.getD y 0 ∈ fd
section
variable {n : Nat} {ks : List Nat} {ps T S : List (List Nat)} {fd r : List Nat} {i j p x : Nat}
theorem Cl.of_bfs (ok : OkT n T) (h : x < n) : Cl n T (bfs T n x) := ⟨(bfs_ok ok h).nd, (bfs_ok ok h).lt, bfs_closed ok h⟩
theorem Cl.le (h : Cl n T fd) : fd.length ≤ n := (FdOk.mk h.nd h.lt).len
theorem getD_inj71 (nd : fd.Nodup) (hi : i < fd.length) (hj : j < fd.length) (e : fd.getD i 0 = fd.getD j 0) : i = j := by
  rw [List.getD_eq_getElem?_getD, List.getD_eq_getElem?_getD, List.getElem?_eq_getElem hi, List.getElem?_eq_getElem hj] at e
  exact (List.getElem_inj nd).mp e
theorem ixOf_getD (nd : fd.Nodup) (hj : j < fd.length) : ixOf fd (fd.getD j 0) = j := by
  obtain ⟨h1, h2⟩ := ixOf_get (getD_mem hj)
  exact getD_inj71 nd h1 hj h2
theorem rowN_get (hj : j < fd.length) : (rowN fd r).getD j 0 = ixOf fd (r.getD (fd.getD j 0) 0) := by
  unfold rowN
  rw [List.getD_eq_getElem?_getD, List.getElem?_map, List.getD_eq_getElem?_getD (l := fd), List.getElem?_eq_getElem hj]
  rfl
theorem rowN_lt (h : Cl n T fd) (hr : r ∈ T) (hj : j < fd.length) : (rowN fd r).getD j 0 < fd.length := by
  rw [rowN_get hj]
  exact (ixOf_get (h.cl _ (getD_mem hj) r hr)).1
theorem ph_row (h : Cl n T fd) (hr : r ∈ T) (hj : j < fd.length) : fd.getD ((rowN fd r).getD j 0) 0 = r.getD (fd.getD j 0) 0 := by
  rw [rowN_get hj]
  exact (ixOf_get (h.cl _ (getD_mem hj) r hr)).2
theorem Cl.numT (h : Cl n T fd) : OkT fd.length (numT T fd) := fun s hs => by
  obtain ⟨r, hr, rfl⟩ := List.mem_map.mp hs
  refine ⟨List.length_map _, fun y hy => ?_⟩
  obtain ⟨p, hp, rfl⟩ := List.mem_map.mp hy
  exact (ixOf_get (h.cl p hp r hr)).1
theorem Cl.back (h : Cl n T fd) (b : Back n T) : Back fd.length (Cw.numT T fd) := fun s hs p hp => by
  obtain ⟨r, hr, rfl⟩ := List.mem_map.mp hs
  have l1 := rowN_lt h hr hp
  refine getD_inj71 h.nd (rowN_lt h hr l1) hp ?_
  rw [ph_row h hr l1, ph_row h hr hp]
  exact b r hr _ (h.lt _ (getD_mem hp))
theorem rowK_num (l : T.length = ks.length) {c : Nat} (hc : c ∈ ks) : rowK ks (Cw.numT T fd) c = rowN fd (rowK ks T c) := by
  have h1 := (ixOf_get hc).1
  unfold rowK Cw.numT
  rw [List.getD_eq_getElem?_getD, List.getElem?_map, List.getD_eq_getElem?_getD, List.getElem?_eq_getElem (show ixOf ks c < T.length by omega)]
  rfl
theorem Cl.exch (h : Cl n T fd) (l : T.length = ks.length) (e : Exch n ks ps T) : Exch fd.length ks ps (Cw.numT T fd) := fun q hq => by
  obtain ⟨a, b, e1, ha, hb, hx⟩ := e q hq
  refine ⟨a, b, e1, ha, hb, fun x hx0 => ?_⟩
  rw [rowK_num l ha, rowK_num l hb]
  have ra := rowK_mem l ha
  have rb := rowK_mem l hb
  have la := rowN_lt h ra hx0
  have lb := rowN_lt h rb hx0
  refine getD_inj71 h.nd (rowN_lt h rb la) (rowN_lt h ra lb) ?_
  rw [ph_row h rb la, ph_row h ra lb, ph_row h ra hx0, ph_row h rb hx0]
  exact hx _ (h.lt _ (getD_mem hx0))
theorem Good.num (g : Good n ks ps T) (h : Cl n T fd) (h0 : 0 < fd.length) : Good fd.length ks ps (Cw.numT T fd) :=
  ⟨by rw [← g.lT]; exact List.length_map _, g.lk, g.lp, h.numT, h0, Nat.le_trans h.le g.ln, h.back g.back, h.exch g.lT g.exch⟩
theorem Good.bfs (g : Good n ks ps T) (h : x < n) : Good (bfs T n x).length ks ps (Cw.numT T (Cw.bfs T n x)) := g.num (.of_bfs g.ok h) (bfs_pos T n x)
/-! ### numbering commutes with finding -/
theorem map_mem_iff (nd : fd.Nodup) {l : List Nat} (hl : ∀ y ∈ l, y < fd.length) (hx : x < fd.length) : fd.getD x 0 ∈ l.map (fun j => fd.getD j 0) ↔ x ∈ l :=
  ⟨fun h => by
    obtain ⟨y, hy, e⟩ := List.mem_map.mp h
    rw [← getD_inj71 nd (hl y hy) hx e]
    exact hy, fun h => List.mem_map.mpr ⟨x, h, rfl⟩⟩
theorem addT_num (h : Cl n T fd) (hS : ∀ r ∈ S, r ∈ T) (hx : x < fd.length) : ∀ {l : List Nat}, (∀ y ∈ l, y < fd.length) → (addT (Cw.numT S fd) x l).map (fun j => fd.getD j 0) = addT S (fd.getD x 0) (l.map fun j => fd.getD j 0) ∧ ∀ y ∈ addT (Cw.numT S fd) x l, y < fd.length := by
  induction S with
  | nil => exact fun hl => ⟨rfl, hl⟩
  | cons r S ih =>
    intro l hl
    have hr := hS r (List.mem_cons_self ..)
    have lr := rowN_lt h hr hx
    have e := ph_row h hr hx
    have ih := fun (l : List Nat) => ih (fun s hs => hS s (List.mem_cons_of_mem _ hs)) (l := l)
    show (addT (Cw.numT S fd) x (if (rowN fd r).getD x 0 ∈ l then l else l ++ [(rowN fd r).getD x 0])).map _ = addT S _ (if r.getD (fd.getD x 0) 0 ∈ l.map _ then l.map _ else l.map _ ++ [r.getD (fd.getD x 0) 0]) ∧ ∀ y ∈ addT (Cw.numT S fd) x (if (rowN fd r).getD x 0 ∈ l then l else l ++ [(rowN fd r).getD x 0]), y < fd.length
    have mi := map_mem_iff h.nd hl lr
    rw [e] at mi
    by_cases c : (rowN fd r).getD x 0 ∈ l
    · rw [if_pos c, if_pos (mi.mpr c)]
      exact ih _ hl
    · rw [if_neg c, if_neg fun z => c (mi.mp z)]
      have hl2 : ∀ y ∈ l ++ [(rowN fd r).getD x 0], y < fd.length := fun y hy => by
        rcases List.mem_append.mp hy with z | z
        · exact hl y z
        · rw [List.mem_singleton.mp z]
          exact lr
      obtain ⟨a1, a2⟩ := ih _ hl2
      refine ⟨?_, a2⟩
      rw [a1, List.map_append, List.map_cons, List.map_nil, e]
theorem fp_num (h : Cl n T fd) (hS : ∀ r ∈ S, r ∈ T) : ∀ (m i : Nat) {l : List Nat}, (∀ y ∈ l, y < fd.length) → (fp (Cw.numT S fd) m i l).map (fun j => fd.getD j 0) = fp S m i (l.map fun j => fd.getD j 0) ∧ ∀ y ∈ fp (Cw.numT S fd) m i l, y < fd.length
  | 0, _, _, hl => ⟨rfl, hl⟩
  | m + 1, i, l, hl => by
    show (if i < l.length then fp (Cw.numT S fd) m (i + 1) (addT (Cw.numT S fd) (l.getD i 0) l) else l).map _ = (if i < (l.map fun j => fd.getD j 0).length then fp S m (i + 1) (addT S ((l.map fun j => fd.getD j 0).getD i 0) (l.map fun j => fd.getD j 0)) else _) ∧ ∀ y ∈ (if i < l.length then fp (Cw.numT S fd) m (i + 1) (addT (Cw.numT S fd) (l.getD i 0) l) else l), y < fd.length
    rw [List.length_map]
    by_cases c : i < l.length
    · rw [if_pos c, if_pos c]
      have eg : (l.map fun j => fd.getD j 0).getD i 0 = fd.getD (l.getD i 0) 0 := by
        rw [List.getD_eq_getElem?_getD, List.getElem?_map, List.getD_eq_getElem?_getD (l := l), List.getElem?_eq_getElem c]
        rfl
      obtain ⟨a1, a2⟩ := addT_num (x := l.getD i 0) h hS (hl _ (getD_mem c)) hl
      obtain ⟨b1, b2⟩ := fp_num h hS m (i + 1) a2
      exact ⟨by rw [b1, a1, eg], b2⟩
    · rw [if_neg c, if_neg c]
      exact ⟨rfl, hl⟩
/-- with fuel enough the fuel tells nothing -/
theorem fp_fuel (ok : OkT n T) : ∀ (m m' i : Nat) {l : List Nat}, FdOk n l → n + 1 ≤ m + i → n + 1 ≤ m' + i → fp T m i l = fp T m' i l
  | 0, 0, _, _, _, _, _ => rfl
  | 0, m' + 1, i, l, f, h1, h2 => by
    have := f.len
    show l = if i < l.length then _ else l
    rw [if_neg (by omega)]
  | m + 1, 0, i, l, f, h1, h2 => by
    have := f.len
    show (if i < l.length then _ else l) = l
    rw [if_neg (by omega)]
  | m + 1, m' + 1, i, l, f, h1, h2 => by
    show (if i < l.length then fp T m (i + 1) (addT T (l.getD i 0) l) else l) = (if i < l.length then fp T m' (i + 1) (addT T (l.getD i 0) l) else l)
    by_cases c : i < l.length
    · rw [if_pos c, if_pos c]
      exact fp_fuel ok m m' (i + 1) (f.add ok (f.lt _ (getD_mem c))) (by omega) (by omega)
    · rw [if_neg c, if_neg c]
theorem OkT.sub (ok : OkT n T) (hS : ∀ r ∈ S, r ∈ T) : OkT n S := fun r hr => ok r (hS r hr)
theorem bfs_num (ok : OkT n T) (h : Cl n T fd) (hS : ∀ r ∈ S, r ∈ T) (hp : p < fd.length) : (Cw.bfs (Cw.numT S fd) fd.length p).map (fun j => fd.getD j 0) = Cw.bfs S n (fd.getD p 0) ∧ ∀ y ∈ Cw.bfs (Cw.numT S fd) fd.length p, y < fd.length := by
  obtain ⟨a1, a2⟩ := fp_num h hS (fd.length + 1) 0 (l := [p]) fun y hy => by rw [List.mem_singleton.mp hy]; exact hp
  refine ⟨?_, a2⟩
  have okN : OkT fd.length (Cw.numT S fd) := fun s hs => h.numT s (by
    obtain ⟨r, hr, rfl⟩ := List.mem_map.mp hs
    exact List.mem_map.mpr ⟨r, hS r hr, rfl⟩)
  have e1 := fp_fuel okN (fd.length + 1) (n + 1) 0 (.one hp) (by omega) (by have := h.le; omega)
  show (fp (Cw.numT S fd) (fd.length + 1) 0 [p]).map _ = fp S (n + 1) 0 [fd.getD p 0]
  rw [e1]
  obtain ⟨b1, b2⟩ := fp_num h hS (n + 1) 0 (l := [p]) fun y hy => by rw [List.mem_singleton.mp hy]; exact hp
  rw [b1]
  rfl
theorem ixOf_map (nd : fd.Nodup) {l : List Nat} (hl : ∀ y ∈ l, y < fd.length) (hx : x ∈ l) : ixOf (l.map fun j => fd.getD j 0) (fd.getD x 0) = ixOf l x := by
  induction l with
  | nil => exact nomatch hx
  | cons a l ih =>
    unfold ixOf
    rw [List.map_cons, List.idxOf_cons, List.idxOf_cons]
    by_cases c : a = x
    · subst c
      simp
    · have c2 : ¬ fd.getD a 0 = fd.getD x 0 := fun z => c (getD_inj71 nd (hl a (List.mem_cons_self ..)) (hl x hx) z)
      have e1 : (fd.getD a 0 == fd.getD x 0) = false := beq_eq_false_iff_ne.mpr c2
      have e2 : (a == x) = false := beq_eq_false_iff_ne.mpr c
      rw [e1, e2]
      have := ih (fun y hy => hl y (List.mem_cons_of_mem _ hy)) ((List.mem_cons.mp hx).resolve_left fun z => c z.symm)
      unfold ixOf at this
      rw [this]
/-- numbering what is numbered -/
theorem numT_num (h : Cl n T fd) (hS : ∀ r ∈ S, r ∈ T) {g : List Nat} (hg : ∀ y ∈ g, y < fd.length) (hc : ∀ y ∈ g, ∀ r ∈ S, (rowN fd r).getD y 0 ∈ g) : Cw.numT (Cw.numT S fd) g = Cw.numT S (g.map fun j => fd.getD j 0) := by
  unfold Cw.numT
  rw [List.map_map]
  refine List.map_congr_left fun r hr => ?_
  show rowN g (rowN fd r) = rowN (g.map fun j => fd.getD j 0) r
  show g.map _ = (g.map fun j => fd.getD j 0).map _
  rw [List.map_map]
  refine List.map_congr_left fun y hy => ?_
  show ixOf g ((rowN fd r).getD y 0) = ixOf (g.map fun j => fd.getD j 0) (r.getD (fd.getD y 0) 0)
  rw [← ph_row h (hS r hr) (hg y hy), ixOf_map h.nd hg (hc y hy r hr)]
/-- the tables of the places found from a numbered place -/
theorem num_bfs (ok : OkT n T) (h : Cl n T fd) (hS : ∀ r ∈ S, r ∈ T) (hp : p < fd.length) : Cw.numT (Cw.numT S fd) (Cw.bfs (Cw.numT S fd) fd.length p) = Cw.numT S (Cw.bfs S n (fd.getD p 0)) ∧ (Cw.bfs (Cw.numT S fd) fd.length p).length = (Cw.bfs S n (fd.getD p 0)).length := by
  obtain ⟨a1, a2⟩ := bfs_num ok h hS hp
  have okN : OkT fd.length (Cw.numT S fd) := fun s hs => h.numT s (by
    obtain ⟨r, hr, rfl⟩ := List.mem_map.mp hs
    exact List.mem_map.mpr ⟨r, hS r hr, rfl⟩)
  refine ⟨?_, by rw [← a1, List.length_map]⟩
  rw [← a1]
  exact numT_num h hS a2 fun y hy r hr => bfs_closed okN hp y hy _ (List.mem_map.mpr ⟨r, hr, rfl⟩)
theorem bfs_first71 (T : List (List Nat)) (n x : Nat) : (Cw.bfs T n x).getD 0 0 = x := by
  obtain ⟨q, hq⟩ := fp_pre T (n + 1) 0 [x]
  show (fp T (n + 1) 0 [x]).getD 0 0 = x
  rw [hq]
  rfl
/-! ### found from any of the places -/
/-! ### ways -/
theorem walk_num (h : Cl n T fd) (l : T.length = ks.length) : ∀ {w : List Nat} {j : Nat}, (∀ c ∈ w, c ∈ ks) → j < fd.length → walkT ks (Cw.numT T fd) j w < fd.length ∧ fd.getD (walkT ks (Cw.numT T fd) j w) 0 = walkT ks T (fd.getD j 0) w
  | [], j, _, hj => ⟨hj, rfl⟩
  | c :: w, j, hw, hj => by
    have hc := hw c (List.mem_cons_self ..)
    have rc := rowK_mem l hc
    have := walk_num (w := w) h l (fun d hd => hw d (List.mem_cons_of_mem _ hd)) (rowN_lt h rc hj)
    rw [ph_row h rc hj] at this
    show walkT ks (Cw.numT T fd) ((rowK ks (Cw.numT T fd) c).getD j 0) w < fd.length ∧ fd.getD (walkT ks (Cw.numT T fd) ((rowK ks (Cw.numT T fd) c).getD j 0) w) 0 = walkT ks T ((rowK ks T c).getD (fd.getD j 0) 0) w
    rw [rowK_num l hc]
    exact this
end
end
section
open PySem PySem.Spec L2
/-- a closed floor's tables, numbered as they are found -/
structure Flo (ks : List Nat) (ps T : List (List Nat)) (m : Nat) : Prop where
  good : Good m ks ps T
  can : bfs T m 0 = List.range m
/-- ways of kinds -/
def Wd (ks w : List Nat) : Prop := ∀ c ∈ w, c ∈ ks
/-- two ways lead to one place -/
def ker (ks : List Nat) (T : List (List Nat)) (u v : List Nat) : Prop := walkT ks T 0 u = walkT ks T 0 v
section
variable {ks : List Nat} {ps T T' S : List (List Nat)} {n m m' x : Nat} {fd : List Nat}
theorem canon_of (g : Good n ks ps S) : Flo ks ps (numT S (bfs S n 0)) (bfs S n 0).length := by
  refine ⟨g.bfs g.n0, ?_⟩
  have cl := Cl.of_bfs g.ok g.n0
  obtain ⟨a1, a2⟩ := bfs_num (p := 0) g.ok cl (fun r hr => hr) (bfs_pos _ _ _)
  rw [bfs_first71] at a1
  have e : (List.range (bfs S n 0).length).map (fun j => (bfs S n 0).getD j 0) = bfs S n 0 := by
    refine List.ext_getElem (by simp) fun i h1 h2 => ?_
    rw [List.getElem_map, List.getElem_range, List.getD_eq_getElem?_getD, List.getElem?_eq_getElem h2]
    rfl
  generalize hb : bfs (numT S (bfs S n 0)) (bfs S n 0).length 0 = b at a1 a2
  generalize bfs S n 0 = fd at *
  have l1 : b.length = fd.length := by rw [← a1, List.length_map]
  refine List.ext_getElem (by rw [l1, List.length_range]) fun i h1 h2 => ?_
  have hi : i < fd.length := by omega
  have e1 : (b.map fun j => fd.getD j 0)[i]'(by rw [List.length_map]; exact h1) = fd[i] := by simp only [a1]
  rw [List.getElem_map] at e1
  rw [List.getElem_range]
  refine getD_inj71 cl.nd (a2 _ (List.getElem_mem h1)) hi ?_
  rw [e1, List.getD_eq_getElem?_getD, List.getElem?_eq_getElem hi]
  rfl
theorem Flo.num (f : Flo ks ps T m) : numT T (bfs T m 0) = T := by
  rw [f.can]
  have hr : ∀ r ∈ T, rowN (List.range m) r = r := fun r hr => by
    have lr := (f.good.ok r hr).1
    show (List.range m).map _ = r
    refine List.ext_getElem (by rw [List.length_map, List.length_range, lr]) fun i h1 h2 => ?_
    have hi : i < m := by omega
    rw [List.getElem_map, List.getElem_range]
    have lt : r.getD i 0 < m := f.good.ok.get hr hi
    have e : (List.range m).getD (r.getD i 0) 0 = r.getD i 0 := by
      rw [List.getD_eq_getElem?_getD, List.getElem?_range lt]
      rfl
    have := ixOf_getD (fd := List.range m) (j := r.getD i 0) List.nodup_range (by rw [List.length_range]; exact lt)
    rw [e] at this
    rw [this, List.getD_eq_getElem?_getD, List.getElem?_eq_getElem h2]
    rfl
  show T.map (rowN (List.range m)) = T
  conv => rhs; rw [← List.map_id T]
  exact List.map_congr_left fun r h => hr r h
theorem walkT_snoc' {p c : Nat} {w : List Nat} : walkT ks T p (w ++ [c]) = (rowK ks T c).getD (walkT ks T p w) 0 := walkT_snoc
theorem row_kind (knd : ks.Nodup) (l : T.length = ks.length) {r : List Nat} (hr : r ∈ T) : ∃ c ∈ ks, rowK ks T c = r := by
  obtain ⟨i, hi, er⟩ := List.getElem_of_mem hr
  have hik : i < ks.length := by omega
  refine ⟨ks[i], List.getElem_mem hik, ?_⟩
  have e : ixOf ks ks[i] = i := by
    have := ixOf_getD knd hik
    rw [List.getD_eq_getElem?_getD, List.getElem?_eq_getElem hik] at this
    exact this
  unfold rowK
  rw [e, List.getD_eq_getElem?_getD, List.getElem?_eq_getElem hi]
  exact er
/-- a way to each place that is found -/
theorem reach (knd : ks.Nodup) (g : Good n ks ps T) : ∀ y ∈ bfs T n x, ∃ w, Wd ks w ∧ walkT ks T x w = y := by
  have key : ∀ (Sr : List (List Nat)), (∀ r ∈ Sr, r ∈ T) → ∀ (z : Nat) {l : List Nat}, (∃ w, Wd ks w ∧ walkT ks T x w = z) → (∀ y ∈ l, ∃ w, Wd ks w ∧ walkT ks T x w = y) → ∀ y ∈ addT Sr z l, ∃ w, Wd ks w ∧ walkT ks T x w = y := by
    intro Sr
    induction Sr with
    | nil => exact fun _ _ _ _ hl => hl
    | cons r Sr ih =>
      intro hS z l hz hl
      have hr := hS r (List.mem_cons_self ..)
      show ∀ y ∈ addT Sr z (if r.getD z 0 ∈ l then l else l ++ [r.getD z 0]), _
      refine ih (fun s hs => hS s (List.mem_cons_of_mem _ hs)) z hz ?_
      split
      · exact hl
      · intro y hy
        rcases List.mem_append.mp hy with q | q
        · exact hl y q
        · rw [List.mem_singleton.mp q]
          obtain ⟨w, hw, e⟩ := hz
          obtain ⟨c, hc, er⟩ := row_kind knd g.lT hr
          refine ⟨w ++ [c], fun d hd => ?_, by rw [walkT_snoc', e, er]⟩
          rcases List.mem_append.mp hd with q | q
          · exact hw d q
          · rw [List.mem_singleton.mp q]
            exact hc
  have key2 : ∀ (k i : Nat) {l : List Nat}, (∀ y ∈ l, ∃ w, Wd ks w ∧ walkT ks T x w = y) → ∀ y ∈ fp T k i l, ∃ w, Wd ks w ∧ walkT ks T x w = y := by
    intro k
    induction k with
    | zero => exact fun _ _ hl => hl
    | succ k ih =>
      intro i l hl
      show ∀ y ∈ (if i < l.length then fp T k (i + 1) (addT T (l.getD i 0) l) else l), _
      split
      · rename_i c
        exact ih _ (key T (fun _ h => h) _ (hl _ (getD_mem c)) hl)
      · exact hl
  exact key2 _ _ fun y hy => ⟨[], (fun _ z => nomatch z), (List.mem_singleton.mp hy).symm⟩
theorem Flo.way (knd : ks.Nodup) (f : Flo ks ps T m) {p : Nat} (hp : p < m) : ∃ w, Wd ks w ∧ walkT ks T 0 w = p := reach knd f.good p (by rw [f.can]; exact List.mem_range.mpr hp)
theorem Flo.lt (f : Flo ks ps T m) {w : List Nat} (hw : Wd ks w) : walkT ks T 0 w < m := walkT_lt f.good.ok f.good.lT f.good.n0 hw
/-- the place of another floor that ways to a place lead to -/
theorem Flo.map (knd : ks.Nodup) (f : Flo ks ps T m) (f' : Flo ks ps T' m') (h : ∀ u v, Wd ks u → Wd ks v → ker ks T u v → ker ks T' u v) : ∃ φ : Nat → Nat, (∀ p, p < m → φ p < m') ∧ ∀ w, Wd ks w → φ (walkT ks T 0 w) = walkT ks T' 0 w := by
  classical
  refine ⟨fun p => if hp : p < m then walkT ks T' 0 (Classical.choose (f.way knd hp)) else 0, fun p hp => ?_, fun w hw => ?_⟩
  · simp only [dif_pos hp]
    exact f'.lt (Classical.choose_spec (f.way knd hp)).1
  · have hp := f.lt hw
    simp only [dif_pos hp]
    obtain ⟨h1, h2⟩ := Classical.choose_spec (f.way knd hp)
    exact h _ _ h1 hw h2
/-- a floor over which more ways meet has no more places -/
theorem ker_len (knd : ks.Nodup) (f : Flo ks ps T m) (f' : Flo ks ps T' m') (h : ∀ u v, Wd ks u → Wd ks v → ker ks T u v → ker ks T' u v) : m' ≤ m := by
  obtain ⟨φ, h1, h2⟩ := f.map knd f' h
  have sub : List.range m' ⊆ (List.range m).map φ := fun p hp => by
    obtain ⟨w, hw, e⟩ := f'.way knd (List.mem_range.mp hp)
    exact List.mem_map.mpr ⟨_, List.mem_range.mpr (f.lt hw), by rw [h2 w hw, e]⟩
  have := List.Nodup.length_le_of_subset List.nodup_range sub
  rw [List.length_map, List.length_range, List.length_range] at this
  exact this
/-- the ways that meet tell the floor -/
theorem ker_eq (knd : ks.Nodup) (f : Flo ks ps T m) (f' : Flo ks ps T' m') (h : ∀ u v, Wd ks u → Wd ks v → (ker ks T u v ↔ ker ks T' u v)) : T = T' := by
  obtain ⟨φ, h1, h2⟩ := f.map knd f' fun u v a b z => (h u v a b).mp z
  have em : m = m' := Nat.le_antisymm (ker_len knd f' f fun u v a b z => (h u v a b).mpr z) (ker_len knd f f' fun u v a b z => (h u v a b).mp z)
  subst em
  have inj : ∀ p, p < m → ∀ q, q < m → φ p = φ q → p = q := fun p hp q hq e => by
    obtain ⟨u, hu, rfl⟩ := f.way knd hp
    obtain ⟨v, hv, rfl⟩ := f.way knd hq
    rw [h2 u hu, h2 v hv] at e
    exact (h u v hu hv).mpr e
  have gm : ∀ j, j < m → ((List.range m).map φ).getD j 0 = φ j := fun j hj => by
    rw [List.getD_eq_getElem?_getD, List.getElem?_map, List.getElem?_range hj]
    rfl
  have lfd : ((List.range m).map φ).length = m := by rw [List.length_map, List.length_range]
  have com : ∀ c ∈ ks, ∀ p, p < m → φ ((rowK ks T c).getD p 0) = (rowK ks T' c).getD (φ p) 0 := fun c hc p hp => by
    obtain ⟨w, hw, rfl⟩ := f.way knd hp
    have hwc : Wd ks (w ++ [c]) := fun d hd => by
      rcases List.mem_append.mp hd with q | q
      · exact hw d q
      · rw [List.mem_singleton.mp q]; exact hc
    rw [← walkT_snoc', h2 _ hwc, walkT_snoc', h2 w hw]
  have nd : ((List.range m).map φ).Nodup := List.pairwise_map.mpr ((List.nodup_range (n := m)).imp_of_mem fun {a b} ha hb ne e => ne (inj a (List.mem_range.mp ha) b (List.mem_range.mp hb) e))
  have cl : Cl m T' ((List.range m).map φ) := ⟨nd, fun y hy => by
    obtain ⟨p, hp, rfl⟩ := List.mem_map.mp hy
    exact h1 p (List.mem_range.mp hp), fun y hy r hr => by
    obtain ⟨p, hp, rfl⟩ := List.mem_map.mp hy
    have hp := List.mem_range.mp hp
    obtain ⟨c, hc, rfl⟩ := row_kind knd f'.good.lT hr
    rw [← com c hc p hp]
    exact List.mem_map.mpr ⟨_, List.mem_range.mpr (f.good.ok.get (rowK_mem f.good.lT hc) hp), rfl⟩⟩
  have eT : numT T' ((List.range m).map φ) = T := by
    have hr : ∀ c ∈ ks, rowN ((List.range m).map φ) (rowK ks T' c) = rowK ks T c := fun c hc => by
      have rT := rowK_mem f.good.lT hc
      have rT' := rowK_mem f'.good.lT hc
      have lr := (f.good.ok _ rT).1
      have e1 : (rowN ((List.range m).map φ) (rowK ks T' c)).length = m := by unfold rowN; rw [List.length_map, lfd]
      refine List.ext_getElem (by rw [e1, lr]) fun i h3 h4 => ?_
      have hi : i < m := by omega
      have z1 := rowN_get (fd := (List.range m).map φ) (r := rowK ks T' c) (j := i) (by rw [lfd]; exact hi)
      rw [List.getD_eq_getElem?_getD, List.getElem?_eq_getElem h3] at z1
      have z1 : (rowN ((List.range m).map φ) (rowK ks T' c))[i] = ixOf ((List.range m).map φ) ((rowK ks T' c).getD (((List.range m).map φ).getD i 0) 0) := z1
      have lt := f.good.ok.get rT hi
      rw [z1, gm i hi, ← com c hc i hi, ← gm _ lt, ixOf_getD nd (by rw [lfd]; exact lt), List.getD_eq_getElem?_getD, List.getElem?_eq_getElem h4]
      rfl
    have all : ∀ U : List (List Nat), U.length = ks.length → U = ks.map fun c => rowK ks U c := fun U hU => by
      refine List.ext_getElem (by rw [List.length_map, hU]) fun i h3 h4 => ?_
      rw [List.length_map] at h4
      rw [List.getElem_map]
      unfold rowK
      have e : ixOf ks ks[i] = i := by
        have := ixOf_getD knd h4
        rw [List.getD_eq_getElem?_getD, List.getElem?_eq_getElem h4] at this
        exact this
      rw [e, List.getD_eq_getElem?_getD, List.getElem?_eq_getElem h3]
      rfl
    conv => rhs; rw [all T f.good.lT]
    conv => lhs; rw [all T' f'.good.lT]
    unfold numT
    rw [List.map_map]
    exact List.map_congr_left fun c hc => hr c hc
  have := bfs_num (S := T') (p := 0) f'.good.ok cl (fun r hr => hr) (by rw [lfd]; exact f.good.n0)
  rw [lfd, eT, f.can] at this
  have e0 : ((List.range m).map φ).getD 0 0 = 0 := by
    rw [gm 0 f.good.n0]
    exact h2 [] fun _ z => nomatch z
  rw [e0, f'.can] at this
  have e3 : (List.range m).map φ = List.range m := by
    have e4 : (List.range m).map (fun j => ((List.range m).map φ).getD j 0) = (List.range m).map φ := List.map_congr_left fun j hj => gm j (List.mem_range.mp hj)
    rw [← e4]
    exact this.1
  rw [e3] at eT
  have := f'.num
  rw [f'.can] at this
  rw [← eT, this]
end
end
section
open PySem PySem.Spec L2
/-- all ways that meet over the one floor meet over the other one -/
def leF (ks : List Nat) (T U : List (List Nat)) : Prop := ∀ u v, Wd ks u → Wd ks v → ker ks T u v → ker ks U u v
/-- the greatest floor below two -/
structure AndF (ks : List Nat) (T U R : List (List Nat)) : Prop where
  l : leF ks R T
  r : leF ks R U
  g : ∀ W, leF ks W T → leF ks W U → leF ks W R
/-- the least floor above two -/
structure OrF (ks : List Nat) (T U R : List (List Nat)) : Prop where
  l : leF ks T R
  r : leF ks U R
  g : ∀ W, leF ks T W → leF ks U W → leF ks R W
section
variable {ks : List Nat} {ps T U R S V1 : List (List Nat)} {n m m' n1 n2 x : Nat}
theorem leF.refl : leF ks T T := fun _ _ _ _ h => h
theorem leF.trans (a : leF ks T U) (b : leF ks U R) : leF ks T R := fun u v hu hv h => b u v hu hv (a u v hu hv h)
theorem leF.eq (knd : ks.Nodup) (f : Flo ks ps T m) (f' : Flo ks ps U m') (a : leF ks T U) (b : leF ks U T) : T = U := ker_eq knd f f' fun u v hu hv => ⟨a u v hu hv, b u v hu hv⟩
theorem Flo.len (f : Flo ks ps T m) (f' : Flo ks ps T m') (knd : ks.Nodup) : m = m' := Nat.le_antisymm (ker_len knd f' f leF.refl) (ker_len knd f f' leF.refl)
theorem ker_num (g : Good n ks ps S) {u v : List Nat} (hu : Wd ks u) (hv : Wd ks v) : ker ks (numT S (bfs S n 0)) u v ↔ ker ks S u v := by
  have cl := Cl.of_bfs g.ok g.n0
  have e0 := bfs_first71 S n 0
  obtain ⟨a1, a2⟩ := walk_num (w := u) cl g.lT hu (bfs_pos _ _ _)
  obtain ⟨b1, b2⟩ := walk_num (w := v) cl g.lT hv (bfs_pos _ _ _)
  rw [e0] at a2 b2
  unfold ker
  rw [← a2, ← b2]
  exact ⟨fun h => by rw [h], fun h => getD_inj71 cl.nd a1 b1 h⟩
/-! ### pairs -/
def prodR (n2 : Nat) (r1 r2 : List Nat) : List Nat := (List.range (r1.length * n2)).map fun z => r1.getD (z / n2) 0 * n2 + r2.getD (z % n2) 0
def prodT (n2 : Nat) (T U : List (List Nat)) : List (List Nat) := List.zipWith (prodR n2) T U
theorem enc_lt {a b : Nat} (ha : a < n1) (hb : b < n2) : a * n2 + b < n1 * n2 := by
  have h1 : (a + 1) * n2 ≤ n1 * n2 := Nat.mul_le_mul_right _ ha
  rw [Nat.add_mul, Nat.one_mul] at h1
  omega
theorem enc_div {a b : Nat} (hb : b < n2) : (a * n2 + b) / n2 = a := by
  rw [Nat.mul_comm, Nat.mul_add_div (by omega), Nat.div_eq_of_lt hb, Nat.add_zero]
theorem enc_mod {a b : Nat} (hb : b < n2) : (a * n2 + b) % n2 = b := by
  rw [Nat.mul_comm, Nat.mul_add_mod, Nat.mod_eq_of_lt hb]
theorem prodR_get {r1 r2 : List Nat} {a b : Nat} (l1 : r1.length = n1) (ha : a < n1) (hb : b < n2) : (prodR n2 r1 r2).getD (a * n2 + b) 0 = r1.getD a 0 * n2 + r2.getD b 0 := by
  unfold prodR
  rw [l1, List.getD_eq_getElem?_getD, List.getElem?_map, List.getElem?_range (enc_lt ha hb)]
  show r1.getD ((a * n2 + b) / n2) 0 * n2 + r2.getD ((a * n2 + b) % n2) 0 = _
  rw [enc_div hb, enc_mod hb]
theorem rowK_prod (l1 : T.length = ks.length) (l2 : U.length = ks.length) {c : Nat} (hc : c ∈ ks) : rowK ks (prodT n2 T U) c = prodR n2 (rowK ks T c) (rowK ks U c) := by
  have h1 := (ixOf_get hc).1
  unfold rowK prodT
  rw [List.getD_eq_getElem?_getD, List.getElem?_zipWith, List.getD_eq_getElem?_getD, List.getD_eq_getElem?_getD, List.getElem?_eq_getElem (show ixOf ks c < T.length by omega), List.getElem?_eq_getElem (show ixOf ks c < U.length by omega)]
  rfl
theorem dec_enc {z : Nat} (hz : z < n1 * n2) : z / n2 < n1 ∧ z % n2 < n2 ∧ z / n2 * n2 + z % n2 = z := by
  have p2 : 0 < n2 := by
    rcases Nat.eq_zero_or_pos n2 with h | h
    · rw [h, Nat.mul_zero] at hz; omega
    · exact h
  exact ⟨Nat.div_lt_of_lt_mul (by rw [Nat.mul_comm]; exact hz), Nat.mod_lt _ p2, by rw [Nat.mul_comm]; exact Nat.div_add_mod z n2⟩
theorem prod_good (knd : ks.Nodup) (f : Good n1 ks ps T) (g : Good n2 ks ps U) (hN : n1 * n2 ≤ 1000) : Good (n1 * n2) ks ps (prodT n2 T U) := by
  have lT : (prodT n2 T U).length = ks.length := by unfold prodT; rw [List.length_zipWith, f.lT, g.lT, Nat.min_self]
  have rw1 : ∀ c ∈ ks, (rowK ks T c).length = n1 := fun c hc => (f.ok _ (rowK_mem f.lT hc)).1
  have get : ∀ c ∈ ks, ∀ z, z < n1 * n2 → (rowK ks (prodT n2 T U) c).getD z 0 = (rowK ks T c).getD (z / n2) 0 * n2 + (rowK ks U c).getD (z % n2) 0 := fun c hc z hz => by
    obtain ⟨h1, h2, h3⟩ := dec_enc hz
    rw [rowK_prod f.lT g.lT hc]
    conv => lhs; rw [← h3]
    exact prodR_get (rw1 c hc) h1 h2
  have lt : ∀ c ∈ ks, ∀ z, z < n1 * n2 → (rowK ks (prodT n2 T U) c).getD z 0 < n1 * n2 ∧ (rowK ks (prodT n2 T U) c).getD z 0 / n2 = (rowK ks T c).getD (z / n2) 0 ∧ (rowK ks (prodT n2 T U) c).getD z 0 % n2 = (rowK ks U c).getD (z % n2) 0 := fun c hc z hz => by
    obtain ⟨h1, h2, h3⟩ := dec_enc hz
    have a1 := f.ok.get (rowK_mem f.lT hc) h1
    have a2 := g.ok.get (rowK_mem g.lT hc) h2
    rw [get c hc z hz]
    exact ⟨enc_lt a1 a2, enc_div a2, enc_mod a2⟩
  refine ⟨lT, f.lk, f.lp, fun r hr => ?_, Nat.mul_pos f.n0 g.n0, hN, fun r hr p hp => ?_, fun p hp => ?_⟩
  · obtain ⟨c, hc, rfl⟩ := row_kind knd lT hr
    have e : (rowK ks (prodT n2 T U) c).length = n1 * n2 := by
      rw [rowK_prod f.lT g.lT hc]
      unfold prodR
      rw [List.length_map, List.length_range, rw1 c hc]
    refine ⟨e, fun y hy => ?_⟩
    obtain ⟨i, hi, rfl⟩ := List.getElem_of_mem hy
    have := (lt c hc i (by omega)).1
    rw [List.getD_eq_getElem?_getD, List.getElem?_eq_getElem hi] at this
    exact this
  · obtain ⟨c, hc, rfl⟩ := row_kind knd lT hr
    obtain ⟨h1, h2, h3⟩ := dec_enc hp
    obtain ⟨b1, b2, b3⟩ := lt c hc p hp
    rw [get c hc _ b1, b2, b3, f.back _ (rowK_mem f.lT hc) _ h1, g.back _ (rowK_mem g.lT hc) _ h2]
    exact h3
  · obtain ⟨a, b, e, ha, hb, hx⟩ := f.exch p hp
    obtain ⟨a', b', e', _, _, hx'⟩ := g.exch p hp
    rw [e] at e'
    injection e' with e1 e2
    injection e2 with e2 _
    subst e1
    subst e2
    refine ⟨a, b, e, ha, hb, fun z hz => ?_⟩
    obtain ⟨h1, h2, _⟩ := dec_enc hz
    obtain ⟨c1, c2, c3⟩ := lt a ha z hz
    obtain ⟨d1, d2, d3⟩ := lt b hb z hz
    rw [get b hb _ c1, get a ha _ d1, c2, c3, d2, d3, hx _ h1, hx' _ h2]
theorem walk_prod (f : Good n1 ks ps T) (g : Good n2 ks ps U) : ∀ {w : List Nat} {a b : Nat}, Wd ks w → a < n1 → b < n2 → walkT ks (prodT n2 T U) (a * n2 + b) w = walkT ks T a w * n2 + walkT ks U b w
  | [], _, _, _, _, _ => rfl
  | c :: w, a, b, hw, ha, hb => by
    have hc := hw c (List.mem_cons_self ..)
    show walkT ks (prodT n2 T U) ((rowK ks (prodT n2 T U) c).getD (a * n2 + b) 0) w = _
    rw [rowK_prod f.lT g.lT hc, prodR_get (f.ok _ (rowK_mem f.lT hc)).1 ha hb]
    exact walk_prod f g (fun d hd => hw d (List.mem_cons_of_mem _ hd)) (f.ok.get (rowK_mem f.lT hc) ha) (g.ok.get (rowK_mem g.lT hc) hb)
theorem ker_prod (f : Good n1 ks ps T) (g : Good n2 ks ps U) {u v : List Nat} (hu : Wd ks u) (hv : Wd ks v) : ker ks (prodT n2 T U) u v ↔ ker ks T u v ∧ ker ks U u v := by
  have e : ∀ w, Wd ks w → walkT ks (prodT n2 T U) 0 w = walkT ks T 0 w * n2 + walkT ks U 0 w := fun w hw => by
    have := walk_prod (a := 0) (b := 0) f g hw f.n0 g.n0
    rw [Nat.zero_mul, Nat.add_zero] at this
    exact this
  unfold ker
  rw [e u hu, e v hv]
  have l1 := walkT_lt g.ok g.lT g.n0 hu
  have l2 := walkT_lt g.ok g.lT g.n0 hv
  constructor
  · intro h
    have h1 := congrArg (· / n2) h
    have h2 := congrArg (· % n2) h
    simp only [enc_div l1, enc_div l2, enc_mod l1, enc_mod l2] at h1 h2
    exact ⟨h1, h2⟩
  · rintro ⟨h1, h2⟩
    rw [h1, h2]
/-- the floor of pairs -/
abbrev pairT (n1 n2 : Nat) (T U : List (List Nat)) : List (List Nat) := numT (prodT n2 T U) (bfs (prodT n2 T U) (n1 * n2) 0)
abbrev pairM (n1 n2 : Nat) (T U : List (List Nat)) : Nat := (bfs (prodT n2 T U) (n1 * n2) 0).length
theorem and_isG (knd : ks.Nodup) (f : Good n1 ks ps T) (g : Good n2 ks ps U) (hN : n1 * n2 ≤ 1000) : Flo ks ps (pairT n1 n2 T U) (pairM n1 n2 T U) ∧ AndF ks T U (pairT n1 n2 T U) := by
  have pg := prod_good knd f g hN
  have e : ∀ u v, Wd ks u → Wd ks v → (ker ks (pairT n1 n2 T U) u v ↔ ker ks T u v ∧ ker ks U u v) := fun u v hu hv => (ker_num pg hu hv).trans (ker_prod f g hu hv)
  exact ⟨canon_of pg, fun u v hu hv h => ((e u v hu hv).mp h).1, fun u v hu hv h => ((e u v hu hv).mp h).2, fun W a b u v hu hv h => (e u v hu hv).mpr ⟨a u v hu hv h, b u v hu hv h⟩⟩
theorem and_is (knd : ks.Nodup) (f : Flo ks ps T n1) (g : Flo ks ps U n2) (hN : n1 * n2 ≤ 1000) : Flo ks ps (pairT n1 n2 T U) (pairM n1 n2 T U) ∧ AndF ks T U (pairT n1 n2 T U) := and_isG knd f.good g.good hN
/-! ### places put together -/
/-- rows of classes: κ tells each place's class -/
structure Merge (n N : Nat) (κ : Nat → Nat) (T M : List (List Nat)) (ks : List Nat) : Prop where
  lM : M.length = ks.length
  ok : OkT N M
  lt : ∀ p, p < n → κ p < N
  on : ∀ a, a < N → ∃ p, p < n ∧ κ p = a
  z : κ 0 = 0
  hom : ∀ c ∈ ks, ∀ p, p < n → (rowK ks M c).getD (κ p) 0 = κ ((rowK ks T c).getD p 0)
theorem Merge.good {N : Nat} {κ : Nat → Nat} (knd : ks.Nodup) (h : Merge n N κ T R ks) (g : Good n ks ps T) (hN : N ≤ 1000) : Good N ks ps R := by
  refine ⟨h.lM, g.lk, g.lp, h.ok, Nat.lt_of_le_of_lt (Nat.zero_le _) (h.lt 0 g.n0), hN, fun r hr a ha => ?_, fun p hp => ?_⟩
  · obtain ⟨c, hc, rfl⟩ := row_kind knd h.lM hr
    obtain ⟨p, hp, rfl⟩ := h.on a ha
    rw [h.hom c hc p hp, h.hom c hc _ (g.ok.get (rowK_mem g.lT hc) hp), g.back _ (rowK_mem g.lT hc) p hp]
  · obtain ⟨a, b, e, ha, hb, hx⟩ := g.exch p hp
    refine ⟨a, b, e, ha, hb, fun y hy => ?_⟩
    obtain ⟨p, hp, rfl⟩ := h.on y hy
    rw [h.hom a ha p hp, h.hom b hb p hp, h.hom b hb _ (g.ok.get (rowK_mem g.lT ha) hp), h.hom a ha _ (g.ok.get (rowK_mem g.lT hb) hp), hx p hp]
theorem Merge.walk {N : Nat} {κ : Nat → Nat} (h : Merge n N κ T R ks) (g : Good n ks ps T) : ∀ {w : List Nat} {p : Nat}, Wd ks w → p < n → walkT ks R (κ p) w = κ (walkT ks T p w)
  | [], _, _, _ => rfl
  | c :: w, p, hw, hp => by
    have hc := hw c (List.mem_cons_self ..)
    show walkT ks R ((rowK ks R c).getD (κ p) 0) w = _
    rw [h.hom c hc p hp]
    exact h.walk g (fun d hd => hw d (List.mem_cons_of_mem _ hd)) (g.ok.get (rowK_mem g.lT hc) hp)
/-- connected by what is shared -/
inductive Con (sh : Nat → Nat → Prop) : Nat → Nat → Prop
  | re (a : Nat) : Con sh a a
  | st {a b c : Nat} : sh a b → Con sh b c → Con sh a c
theorem Con.trans {sh : Nat → Nat → Prop} {a b c : Nat} (h : Con sh a b) (k : Con sh b c) : Con sh a c := by
  induction h with
  | re => exact k
  | st s _ ih => exact .st s (ih k)
theorem Con.one {sh : Nat → Nat → Prop} {a b : Nat} (h : sh a b) : Con sh a b := .st h (.re _)
theorem Con.symm {sh : Nat → Nat → Prop} (sy : ∀ a b, sh a b → sh b a) {a b : Nat} (h : Con sh a b) : Con sh b a := by
  induction h with
  | re => exact .re _
  | st s _ ih => exact ih.trans (.one (sy _ _ s))
/-- two places of the floor of pairs share a place of one of the two -/
def shP (n1 n2 : Nat) (T U : List (List Nat)) (i j : Nat) : Prop := i < pairM n1 n2 T U ∧ j < pairM n1 n2 T U ∧ ((bfs (prodT n2 T U) (n1 * n2) 0).getD i 0 / n2 = (bfs (prodT n2 T U) (n1 * n2) 0).getD j 0 / n2 ∨ (bfs (prodT n2 T U) (n1 * n2) 0).getD i 0 % n2 = (bfs (prodT n2 T U) (n1 * n2) 0).getD j 0 % n2)
theorem pair_walkG (knd : ks.Nodup) (f : Good n1 ks ps T) (g : Good n2 ks ps U) (hN : n1 * n2 ≤ 1000) {w : List Nat} (hw : Wd ks w) : walkT ks (pairT n1 n2 T U) 0 w < pairM n1 n2 T U ∧ (bfs (prodT n2 T U) (n1 * n2) 0).getD (walkT ks (pairT n1 n2 T U) 0 w) 0 / n2 = walkT ks T 0 w ∧ (bfs (prodT n2 T U) (n1 * n2) 0).getD (walkT ks (pairT n1 n2 T U) 0 w) 0 % n2 = walkT ks U 0 w := by
  have pg := prod_good knd f g hN
  have cl := Cl.of_bfs pg.ok pg.n0
  obtain ⟨a1, a2⟩ := walk_num (w := w) cl pg.lT hw (bfs_pos _ _ _)
  rw [bfs_first71] at a2
  have e := walk_prod (a := 0) (b := 0) f g hw f.n0 g.n0
  rw [Nat.zero_mul, Nat.add_zero] at e
  have l2 := walkT_lt g.ok g.lT g.n0 hw
  refine ⟨a1, ?_, ?_⟩
  · rw [a2, e, enc_div l2]
  · rw [a2, e, enc_mod l2]
theorem pair_walk (knd : ks.Nodup) (f : Flo ks ps T n1) (g : Flo ks ps U n2) (hN : n1 * n2 ≤ 1000) {w : List Nat} (hw : Wd ks w) : walkT ks (pairT n1 n2 T U) 0 w < pairM n1 n2 T U ∧ (bfs (prodT n2 T U) (n1 * n2) 0).getD (walkT ks (pairT n1 n2 T U) 0 w) 0 / n2 = walkT ks T 0 w ∧ (bfs (prodT n2 T U) (n1 * n2) 0).getD (walkT ks (pairT n1 n2 T U) 0 w) 0 % n2 = walkT ks U 0 w := pair_walkG knd f.good g.good hN hw
theorem or_isG (knd : ks.Nodup) (f : Good n1 ks ps T) (g : Good n2 ks ps U) (hN : n1 * n2 ≤ 1000) {N : Nat} {κ : Nat → Nat} (hκ : ∀ i j, i < pairM n1 n2 T U → j < pairM n1 n2 T U → (κ i = κ j ↔ Con (shP n1 n2 T U) i j)) (h : Merge (pairM n1 n2 T U) N κ (pairT n1 n2 T U) R ks) : Good N ks ps R ∧ OrF ks T U (numT R (bfs R N 0)) := by
  obtain ⟨fp, _⟩ := and_isG knd f g hN
  have hN' : N ≤ 1000 := by
    have sub : List.range N ⊆ (List.range (pairM n1 n2 T U)).map κ := fun a ha => by
      obtain ⟨p, hp, e⟩ := h.on a (List.mem_range.mp ha)
      exact List.mem_map.mpr ⟨p, List.mem_range.mpr hp, e⟩
    have := List.Nodup.length_le_of_subset List.nodup_range sub
    rw [List.length_map, List.length_range, List.length_range] at this
    exact Nat.le_trans this fp.good.ln
  have gR := h.good knd fp.good hN'
  have wk : ∀ w, Wd ks w → walkT ks R 0 w = κ (walkT ks (pairT n1 n2 T U) 0 w) := fun w hw => by
    have := h.walk fp.good hw fp.good.n0
    rw [h.z] at this
    exact this
  have kR : ∀ u v, Wd ks u → Wd ks v → (ker ks (numT R (bfs R N 0)) u v ↔ Con (shP n1 n2 T U) (walkT ks (pairT n1 n2 T U) 0 u) (walkT ks (pairT n1 n2 T U) 0 v)) := fun u v hu hv => by
    refine (ker_num gR hu hv).trans ?_
    unfold ker
    rw [wk u hu, wk v hv]
    exact hκ _ _ (fp.lt hu) (fp.lt hv)
  have sh : ∀ u v, Wd ks u → Wd ks v → (ker ks T u v ∨ ker ks U u v) → shP n1 n2 T U (walkT ks (pairT n1 n2 T U) 0 u) (walkT ks (pairT n1 n2 T U) 0 v) := fun u v hu hv hh => by
    obtain ⟨a1, a2, a3⟩ := pair_walkG knd f g hN hu
    obtain ⟨b1, b2, b3⟩ := pair_walkG knd f g hN hv
    refine ⟨a1, b1, hh.imp (fun z => ?_) fun z => ?_⟩
    · rw [a2, b2]; exact z
    · rw [a3, b3]; exact z
  refine ⟨gR, fun u v hu hv z => (kR u v hu hv).mpr (.one (sh u v hu hv (.inl z))), fun u v hu hv z => (kR u v hu hv).mpr (.one (sh u v hu hv (.inr z))), fun W a b u v hu hv z => ?_⟩
  have key : ∀ i j, Con (shP n1 n2 T U) i j → ∀ u v, Wd ks u → Wd ks v → walkT ks (pairT n1 n2 T U) 0 u = i → walkT ks (pairT n1 n2 T U) 0 v = j → ker ks W u v := by
    intro i j hc
    induction hc with
    | re i =>
      intro u v hu hv e1 e2
      have e : ker ks (pairT n1 n2 T U) u v := e1.trans e2.symm
      have pg := prod_good knd f g hN
      exact a u v hu hv ((ker_prod f g hu hv).mp ((ker_num pg hu hv).mp e)).1
    | st s _ ih =>
      intro u v hu hv e1 e2
      obtain ⟨s1, s2, s3⟩ := s
      obtain ⟨t, ht, et⟩ := fp.way knd s2
      have z2 := ih t v ht hv et e2
      obtain ⟨_, a2, a3⟩ := pair_walkG knd f g hN hu
      obtain ⟨_, b2, b3⟩ := pair_walkG knd f g hN ht
      rw [e1] at a2 a3
      rw [et] at b2 b3
      have z1 : ker ks W u t := by
        rcases s3 with q | q
        · exact a u t hu ht (by unfold ker; rw [← a2, ← b2, q])
        · exact b u t hu ht (by unfold ker; rw [← a3, ← b3, q])
      exact z1.trans z2
  exact key _ _ ((kR u v hu hv).mp z) u v hu hv rfl rfl
theorem or_is (knd : ks.Nodup) (f : Flo ks ps T n1) (g : Flo ks ps U n2) (hN : n1 * n2 ≤ 1000) {N : Nat} {κ : Nat → Nat} (hκ : ∀ i j, i < pairM n1 n2 T U → j < pairM n1 n2 T U → (κ i = κ j ↔ Con (shP n1 n2 T U) i j)) (h : Merge (pairM n1 n2 T U) N κ (pairT n1 n2 T U) R ks) : Good N ks ps R ∧ OrF ks T U (numT R (bfs R N 0)) := or_isG knd f.good g.good hN hκ h
end
end
section
open PySem PySem.Spec L2
structure IsLow (sd : Nat → Nat) (m : Nat) (mk lw : List Nat) : Prop where
  len : lw.length = m
  on : ∀ j, j < m → ∃ k, k < m ∧ sd k = sd j ∧ lw.getD j 0 = mk.getD k 0
  le : ∀ j k, j < m → k < m → sd k = sd j → lw.getD j 0 ≤ mk.getD k 0
theorem sum_le77 : ∀ {a b : List Nat}, a.length = b.length → (∀ j, j < a.length → a.getD j 0 ≤ b.getD j 0) → a.sum ≤ b.sum ∧ (a ≠ b → a.sum < b.sum)
  | [], [], _, _ => ⟨Nat.le_refl _, fun h => absurd rfl h⟩
  | [], _ :: _, h, _ => nomatch h
  | _ :: _, [], h, _ => nomatch h
  | x :: a, y :: b, hl, h => by
    have h0 : x ≤ y := h 0 (Nat.succ_pos _)
    obtain ⟨i1, i2⟩ := sum_le77 (a := a) (b := b) (Nat.succ.inj hl) fun j hj => h (j + 1) (Nat.succ_lt_succ hj)
    rw [List.sum_cons, List.sum_cons]
    refine ⟨by omega, fun ne => ?_⟩
    by_cases e : x = y
    · have : a ≠ b := fun z => ne (by rw [e, z])
      have := i2 this
      omega
    · omega
structure MInv (sh : Nat → Nat → Prop) (m : Nat) (mk : List Nat) : Prop where
  len : mk.length = m
  lt : ∀ j, j < m → mk.getD j 0 < m
  con : ∀ j, j < m → Con sh j (mk.getD j 0)
section
variable {sh : Nat → Nat → Prop} {sd sd' : Nat → Nat} {m : Nat} {mk lw : List Nat}
theorem IsLow.inv (h : MInv sh m mk) (l : IsLow sd m mk lw) (hs : ∀ i j, i < m → j < m → sd i = sd j → sh i j) : MInv sh m lw := by
  refine ⟨l.len, fun j hj => ?_, fun j hj => ?_⟩
  · obtain ⟨k, hk, _, e⟩ := l.on j hj
    rw [e]
    exact h.lt k hk
  · obtain ⟨k, hk, es, e⟩ := l.on j hj
    rw [e]
    exact .st (hs j k hj hk es.symm) (h.con k hk)
theorem IsLow.sum (h : mk.length = m) (l : IsLow sd m mk lw) : lw.sum ≤ mk.sum ∧ (lw ≠ mk → lw.sum < mk.sum) :=
  sum_le77 (by rw [l.len, h]) fun j hj => l.le j j (by rw [l.len] at hj; exact hj) (by rw [l.len] at hj; exact hj) rfl
theorem IsLow.const (l : IsLow sd m mk mk) {i j : Nat} (hi : i < m) (hj : j < m) (e : sd i = sd j) : mk.getD i 0 = mk.getD j 0 := Nat.le_antisymm (l.le i j hi hj e.symm) (l.le j i hj hi e)
theorem marks_con (h : MInv sh m mk) (hs : ∀ i j, sh i j → i < m ∧ j < m ∧ (sd i = sd j ∨ sd' i = sd' j)) (sy : ∀ a b, sh a b → sh b a) (c0 : IsLow sd m mk mk) (c1 : IsLow sd' m mk mk) {i j : Nat} (hi : i < m) (hj : j < m) : mk.getD i 0 = mk.getD j 0 ↔ Con sh i j := by
  constructor
  · intro e
    have a := h.con i hi
    rw [e] at a
    exact a.trans ((h.con j hj).symm sy)
  · intro c
    clear hi hj
    induction c with
    | re a => rfl
    | st s _ ih =>
      obtain ⟨ha, hb, e⟩ := hs _ _ s
      rw [← ih]
      rcases e with e | e
      · exact c0.const ha hb e
      · exact c1.const ha hb e
end
/-! ### each number once, as it first stands -/
def uniq77 (acc : List Nat) : List Nat → List Nat
  | [] => acc
  | a :: r => uniq77 (if a ∈ acc then acc else acc ++ [a]) r
theorem uniq_snoc : ∀ {l acc : List Nat} {a : Nat}, uniq77 acc (l ++ [a]) = if a ∈ uniq77 acc l then uniq77 acc l else uniq77 acc l ++ [a]
  | [], _, _ => rfl
  | b :: l, acc, a => uniq_snoc (l := l)
theorem uniq_pre : ∀ {l acc : List Nat}, ∃ q, uniq77 acc l = acc ++ q
  | [], acc => ⟨[], (List.append_nil _).symm⟩
  | a :: r, acc => by
    obtain ⟨q, hq⟩ := uniq_pre (l := r) (acc := if a ∈ acc then acc else acc ++ [a])
    show ∃ q, uniq77 (if a ∈ acc then acc else acc ++ [a]) r = _
    rw [hq]
    by_cases c : a ∈ acc
    · rw [if_pos c]
      exact ⟨q, rfl⟩
    · rw [if_neg c]
      exact ⟨a :: q, by rw [List.append_assoc]; rfl⟩
theorem uniq_mem : ∀ {l acc : List Nat} {x : Nat}, x ∈ uniq77 acc l ↔ x ∈ acc ∨ x ∈ l
  | [], acc, x => by
    show x ∈ acc ↔ _
    simp
  | a :: r, acc, x => by
    show x ∈ uniq77 (if a ∈ acc then acc else acc ++ [a]) r ↔ _
    rw [uniq_mem]
    by_cases c : a ∈ acc
    · rw [if_pos c]
      refine ⟨fun h => h.imp_right (List.mem_cons_of_mem _), fun h => ?_⟩
      rcases h with h | h
      · exact .inl h
      · rcases List.mem_cons.mp h with rfl | h
        · exact .inl c
        · exact .inr h
    · rw [if_neg c]
      simp only [List.mem_append, List.mem_cons, List.not_mem_nil, or_false]
      exact ⟨fun h => h.elim (fun h => h.elim .inl fun h => .inr (.inl h)) fun h => .inr (.inr h), fun h => h.elim (fun h => .inl (.inl h)) fun h => h.elim (fun h => .inl (.inr h)) .inr⟩
theorem uniq_nodup : ∀ {l acc : List Nat}, acc.Nodup → (uniq77 acc l).Nodup
  | [], _, h => h
  | a :: r, acc, h => by
    show (uniq77 (if a ∈ acc then acc else acc ++ [a]) r).Nodup
    refine uniq_nodup ?_
    by_cases c : a ∈ acc
    · rw [if_pos c]
      exact h
    · rw [if_neg c]
      exact List.nodup_append.mpr ⟨h, by simp, fun x hx y hy => by rw [List.mem_singleton.mp hy]; exact fun e => c (e ▸ hx)⟩
theorem uniq_len : ∀ {l acc : List Nat}, (uniq77 acc l).length ≤ acc.length + l.length
  | [], acc => Nat.le_refl _
  | a :: r, acc => by
    have h := uniq_len (l := r) (acc := if a ∈ acc then acc else acc ++ [a])
    show (uniq77 (if a ∈ acc then acc else acc ++ [a]) r).length ≤ _
    rw [List.length_cons]
    by_cases c : a ∈ acc
    · rw [if_pos c] at h ⊢
      omega
    · rw [if_neg c] at h ⊢
      rw [List.length_append, List.length_singleton] at h
      omega
/-- the class of a place -/
def cls77 (mk : List Nat) (p : Nat) : Nat := ixOf (uniq77 [] mk) (mk.getD p 0)
theorem cls_lt {mk : List Nat} {p : Nat} (h : p < mk.length) : cls77 mk p < (uniq77 [] mk).length := (ixOf_get (uniq_mem.mpr (.inr (getD_mem h)))).1
theorem cls_on {mk : List Nat} {a : Nat} (h : a < (uniq77 [] mk).length) : ∃ p, p < mk.length ∧ cls77 mk p = a := by
  have hm : (uniq77 [] mk).getD a 0 ∈ mk := (uniq_mem.mp (getD_mem h)).resolve_left (fun z => nomatch z)
  obtain ⟨p, hp⟩ := List.mem_iff_getElem?.mp hm
  refine ⟨p, (List.getElem?_eq_some_iff.mp hp).1, ?_⟩
  unfold cls77
  rw [List.getD_eq_getElem?_getD (l := mk), hp]
  exact ixOf_getD (uniq_nodup .nil) h
theorem cls_eq {mk : List Nat} {p q : Nat} (hp : p < mk.length) (hq : q < mk.length) : cls77 mk p = cls77 mk q ↔ mk.getD p 0 = mk.getD q 0 := by
  refine ⟨fun e => ?_, fun e => by unfold cls77; rw [e]⟩
  have a := (ixOf_get (uniq_mem (l := mk) (acc := []).mpr (.inr (getD_mem hp)))).2
  have b := (ixOf_get (uniq_mem (l := mk) (acc := []).mpr (.inr (getD_mem hq)))).2
  unfold cls77 at e
  rw [e] at a
  exact a.symm.trans b
theorem cls_z {mk : List Nat} (h : 0 < mk.length) : cls77 mk 0 = 0 := by
  cases mk with
  | nil => exact absurd h (Nat.lt_irrefl 0)
  | cons a r =>
    obtain ⟨q, hq⟩ := uniq_pre (l := r) (acc := [a])
    show ixOf (uniq77 [a] r) a = 0
    rw [hq]
    exact List.idxOf_cons_self
end
section
open PySem PySem.Spec L2
def spPen (K : PySem.W.Frag) : Sp := fun vs H Q _ => ∃ (a : Addr) (ns : List Int), vs = [.ref a] ∧ SqL K H a (ns.map V.int) ∧ ns.length ≤ 63 ∧ ∀ (g : Pen) (H' : Hp), PenAt g H' 0 → Same H H' → H g.p = none → Q (.ref g.p) H'
theorem cut_ints (ns : List Int) (lo hi : Option Int) : ∃ ms : List Int, cutV (ns.map V.int) lo hi = ms.map V.int ∧ ms.length ≤ ns.length := by
  unfold cutV
  rw [← List.map_drop, ← List.map_take]
  refine ⟨_, rfl, ?_⟩
  rw [List.length_take, List.length_drop]
  omega
section
variable {P : Program} {w : World} {K : PySem.W.Frag} {mg : Str → Option Value} {base : Heap}
abbrev stpen : Stmt := (top 39)
abbrev Npen : List Str := ["_law_script"]
theorem scpen : FnScope Npen ["_law_script"] (defScope stpen) := ⟨rfl, rfl, rfl, by decide +kernel, rfl, by decide +kernel, by decide +kernel⟩

theorem ok_pen (F : FnAt K mg "_law_begin" stpen) (T : Txt K mg) : Def P w K mg base CX0 1 "_law_begin" ["_law_script"] (spPen K) := by
  refine F.ok scpen (fun _ _ _ _ _ _ us hl => match us, hl with | [_], _ => rfl) (fun vs H Q E h => ?_) (fun f cdv A outer s H vs Q E hr h => ?_)
  · obtain ⟨a, ns, rfl, _⟩ := h
    rfl
  obtain ⟨a, ns, rfl, ha, hn, k⟩ := h
  have hu := hu_of hr
  have nd := scpen.nd
  refine ⟨_, (pss_one (ps_ret (pe_disp (pps_cons pe_str (pe_callTy (c_listK (K := K) rfl) (by rfl) T.list (by decide +kernel) (pa_cons (pe_slice (sl_LK (K := K) rfl) (pv 0) po_none (po_some pe_int)) pa_nil)) (pps_cons pe_str pe_int (pps_cons pe_str pe_int pps_nil))) (by rfl) (by rfl) (fun z => by cases z) (by decide)))), ?_⟩
  refine s_start [some _] rfl ?_
  walk_at "go"
  intro p hp
  have s1 : Same H (upd H p (.dK [])) := Same.new hp
  obtain ⟨ms, e1, l1⟩ := cut_ints ns none (some 63)
  walk_at "go"
  refine v_slL (sqL_same ha s1) fun b H2 hb s2 e2 => ?_
  rw [e1] at e2
  walk_at "go"
  refine v_list (SqL.of e2) fun c H3 hc s3 e3 => ?_
  walk_at "go"
  have ep : H3 p = some (.dK []) := s3 _ _ (s2 _ _ upd_same)
  refine ⟨ep, [(Sum.inr "cells", .ref c), (Sum.inr "begun", .int 0), (Sum.inr "left", .int 0)], rfl, (by show 3 ≤ 15; decide), ?_⟩
  have hcp : c ≠ p := (ne_of_none (s2 _ _ upd_same) hc).symm
  have em : mergeK [] [(Sum.inr ("cells" : Str), V.ref c), (Sum.inr ("begun" : Str), .int 0), (Sum.inr ("left" : Str), .int 0)] = penL c 0 0 := by
    unfold mergeK penL
    rw [List.foldl_cons, List.foldl_cons, List.foldl_cons, List.foldl_nil]
    rw [putK_new (k := Sum.inr ("cells" : Str)) _ rfl, putK_new (k := Sum.inr ("begun" : Str)) _ (by rw [List.nil_append, valV_neg kcp]; rfl), putK_new (k := Sum.inr ("left" : Str)) _ (by rw [List.nil_append, List.cons_append, valV_neg kcr, List.nil_append, valV_neg kpr]; rfl)]
    rfl
  rw [em]
  have s4 : Same H (upd H3 p (.dK (penL c 0 0))) := fun b' o hb' => by
    rw [upd_ne (ne_of_none hb' hp)]
    exact s3 _ _ (s2 _ _ (s1 _ _ hb'))
  refine k ⟨p, c, ms⟩ _ ⟨0, 0, upd_same, ?_, by show ms.length ≤ 63; omega, by omega, by omega, by omega⟩ s4 hp
  show upd H3 p _ c = _
  rw [upd_ne hcp]
  exact e3
end
end
section
open PySem PySem.Spec L2
theorem cells_ne {k : Nat} : ¬ ((Sum.inr (tx [k]) : Key) = Sum.inr ("cells" : Str)) := by
  intro h
  injection h with h
  have : (tx [k]).length = ("cells" : Str).length := by rw [h]
  rw [tx_len, List.length_singleton] at this
  exact absurd this (by decide +kernel)
theorem RoomAt.pen {R : Addr} {H H' : Hp} {r x : Addr} {nm : List Nat} {g : Pen} {n : Nat} (h : RoomAt R H r x nm) (p : PenAt g H n) (k : Keep g.p H H') : RoomAt R H' r x nm := by
  obtain ⟨dx, e⟩ := h.ex
  obtain ⟨a, b, h1, _⟩ := p.ex
  exact ⟨dx, k _ _ e (ne_of e h1 (by intro z; cases z))⟩
theorem PlanAt.pen {C : Addr} {H H' : Hp} {x : Addr} {ks : List Nat} {ps : List (List Nat)} {g : Pen} {n : Nat} (h : PlanAt C H x ks ps) (p : PenAt g H n) (k : Keep g.p H H') : PlanAt C H' x ks ps := by
  obtain ⟨dx, t, d, a1, a2, a3⟩ := h.ex
  obtain ⟨a, b, h1, _⟩ := p.ex
  refine ⟨dx, t, d, k _ _ a1 (ne_of a1 h1 (by intro z; cases z)), k _ _ a2 (ne_of a2 h1 (by intro z; cases z)), k _ _ a3 fun z => ?_⟩
  rw [z, h1] at a3
  injection a3 with a3
  injection a3 with a3
  unfold crossKV penL at a3
  generalize hk : ks.map _ = m at a3
  cases ks with
  | nil => rw [List.map_nil] at hk; rw [← hk] at a3; cases a3
  | cons c r =>
    rw [List.map_cons] at hk
    rw [← hk] at a3
    injection a3 with a3 _
    injection a3 with a3 _
    exact cells_ne a3.symm
theorem RoomAt.lst {R : Addr} {H H' : Hp} {r x q : Addr} {nm : List Nat} {l : List V} (h : RoomAt R H r x nm) (e0 : H q = some (.lst l)) (k : Keep q H H') : RoomAt R H' r x nm := by
  obtain ⟨dx, e⟩ := h.ex
  exact ⟨dx, k _ _ e (ne_of e e0 (by intro z; cases z))⟩
theorem PlanAt.lst {C : Addr} {H H' : Hp} {x q : Addr} {ks : List Nat} {ps : List (List Nat)} {l : List V} (h : PlanAt C H x ks ps) (e0 : H q = some (.lst l)) (k : Keep q H H') : PlanAt C H' x ks ps := by
  obtain ⟨dx, t, d, a1, a2, a3⟩ := h.ex
  exact ⟨dx, t, d, k _ _ a1 (ne_of a1 e0 (by intro z; cases z)), k _ _ a2 (ne_of a2 e0 (by intro z; cases z)), k _ _ a3 (ne_of a3 e0 (by intro z; cases z))⟩
end
section
open PySem PySem.Spec L2
/-- items, in a list or told as the letters of one text -/
def ItemsAt (H : Hp) (v : V) (xs : List V) : Prop := (∃ q, v = .ref q ∧ H q = some (.lst xs)) ∨ ∃ l : List Nat, v = .str (tx l) ∧ xs = l.map fun c => V.str (tx [c])
def spPick2 : Sp := fun vs H Q _ => ∃ (g : Pen) (n : Nat) (v : V) (xs : List V), vs = [.ref g.p, v] ∧ ItemsAt H v xs ∧ 0 < xs.length ∧ xs.length < 1000000 ∧ PenAt g H n ∧ n < 1000000 ∧
  ∀ u H', u ∈ xs → PenAt g H' (n + 1) → Keep g.p H H' → Q u H'
theorem PenAt.lst_ne {g : Pen} {H : Hp} {n : Nat} {q : Addr} {xs : List V} (h : PenAt g H n) (e : H q = some (.lst xs)) : q ≠ g.p := by
  obtain ⟨a, r, h1, _⟩ := h.ex
  exact ne_of e h1 (by intro z; cases z)
section
variable {P : Program} {w : World} {K : PySem.W.Frag} {mg : Str → Option Value} {base : Heap}
abbrev stpick2 : Stmt := (top 41)
abbrev Npick2 : List Str := ["_law_pen", "_law_some"]
theorem scpick2 : FnScope Npick2 ["_law_pen", "_law_some"] (defScope stpick2) := ⟨rfl, rfl, rfl, by decide +kernel, rfl, by decide +kernel, by decide +kernel⟩

theorem ok_pick2 (F : FnAt K mg "_law_pick" stpick2) (T : Txt K mg) (D_draw : Def P w K mg base CX0 1 "_law_draw" ["_law_pen", "_law_span"] spDraw) : Def P w K mg base CX0 2 "_law_pick" ["_law_pen", "_law_some"] spPick2 := by
  refine F.ok scpick2 (fun _ _ _ _ _ _ us hl => match us, hl with | [_, _], _ => rfl) (fun vs H Q E h => ?_) (fun f cdv A outer s H vs Q E hr h => ?_)
  · obtain ⟨g, n, v, xs, rfl, _⟩ := h
    rfl
  obtain ⟨g, n, v, xs, rfl, hv, h0, h1, hp, hn, k⟩ := h
  have hu := hu_of hr
  have nd := scpick2.nd
  refine ⟨_, (pss_one (ps_ret (pe_ix (IxR.or (ix_LK (K := K) rfl) ix_str) (pv 1) (pe_cd D_draw hr pass0 (pa_cons (pv 0) (pa_cons (pe_callB (CallR.or (c_lenK (K := K) rfl) c_lenS) (by rfl) T.len PySem.boot_len (pa_cons (pv 1) pa_nil)) pa_nil))) (fun _ _ => rfl)))), ?_⟩
  refine s_start [some _, some _] rfl ?_
  rcases hv with ⟨q, rfl, hq⟩ | ⟨l, rfl, rfl⟩
  · walk_at "go"
    refine .inl (v_lenG ⟨_, hq, ?_⟩)
    walk_at "go"
    refine ⟨g, xs.length, n, rfl, by omega, by omega, hp, hn, fun z H1 z0 z1 p1 k1 => ?_⟩
    walk_at "go"
    have hz : z.toNat < xs.length := by omega
    refine .inl (v_ixL (k1 _ _ hq (hp.lst_ne hq)) (at_of (j := z.toNat) (by omega) (List.getElem?_eq_getElem hz)) ?_)
    exact k _ H1 (List.getElem_mem hz) p1 k1
  · rw [List.length_map] at h0 h1
    have l1 : l.length ≤ 1000000 := by omega
    walk_at "go"
    refine .inr (v_lenS l1 ?_)
    walk_at "go"
    refine ⟨g, l.length, n, rfl, by omega, by omega, hp, hn, fun z H1 z0 z1 p1 k1 => ?_⟩
    walk_at "go"
    obtain ⟨i, rfl⟩ : ∃ i : Nat, z = (i : Int) := ⟨z.toNat, by omega⟩
    have hz : i < l.length := by omega
    refine .inr (v_ixS l1 (show atI l ((i : Nat) : Int) = some l[i] from atI_nat (List.getElem?_eq_getElem hz)) ?_)
    exact k _ H1 (List.mem_map.mpr ⟨_, List.getElem_mem hz, rfl⟩) p1 k1
end
end
section
open PySem PySem.Spec L2
section
variable {P : Program} {w : World} {K : PySem.W.Frag} {mg : Str → Option Value} {base : Heap} {C R O CL : Addr}
end
end
section
open PySem PySem.Spec L2
def ltr71 (f s k : Nat) : Nat := LET.getD ((f + s * k) % 26) 0
theorem ltr71_all : ∀ f ∈ List.range 26, ∀ s ∈ [1, 3, 5, 7], ((List.range 8).map (ltr71 f s)).Nodup ∧ ∀ c ∈ (List.range 8).map (ltr71 f s), c ∈ LET := by decide +kernel
theorem ltr71_nd {f s m : Nat} (hf : f < 26) (hs : s ∈ [1, 3, 5, 7]) (hm : m ≤ 8) : ((List.range m).map (ltr71 f s)).Nodup ∧ ∀ c ∈ (List.range m).map (ltr71 f s), c ∈ LET := by
  obtain ⟨h1, h2⟩ := ltr71_all f (List.mem_range.mpr hf) s hs
  have sub : ((List.range m).map (ltr71 f s)).Sublist ((List.range 8).map (ltr71 f s)) := by
    refine List.Sublist.map _ ?_
    rw [← Nat.min_eq_left hm, ← List.take_range]
    exact List.take_sublist _ _
  exact ⟨h1.sublist sub, fun c hc => h2 c (sub.subset hc)⟩
theorem sorted_ones71 {ws : List (List Nat)} {ls : List Nat} (pm : ws.Perm (ls.map fun c => [c])) (nd : ls.Nodup) (pw : ws.Pairwise fun a b => ¬ b < a) : ∃ ks : List Nat, ws = ks.map (fun c => [c]) ∧ ks.Perm ls ∧ ks.Pairwise (· < ·) := by
  obtain ⟨ks, rfl, pk⟩ := perm_ones pm
  refine ⟨ks, rfl, pk, ?_⟩
  have nk : ks.Nodup := pk.symm.nodup nd
  rw [List.pairwise_map] at pw
  refine List.pairwise_iff_getElem.mpr fun i j hi hj l => ?_
  have h1 := List.pairwise_iff_getElem.mp pw i j hi hj l
  have h2 : ks[i] ≠ ks[j] := fun e => by have := (List.getElem_inj nk).mp e; omega
  have h3 : ¬ ks[j] < ks[i] := fun z => h1 (List.cons_lt_cons_iff.mpr (.inl z))
  omega
/-- the kinds and the pairs of a scene -/
structure ScOk (ks : List Nat) (gs : List (List Nat)) : Prop where
  asc : ks.Pairwise (· < ·)
  lt : ∀ c ∈ ks, c ∈ LET
  len : ks.length ≤ 8
  prs : PairsIn ks gs
  few : gs.length ≤ 100
theorem ScOk.nd {ks : List Nat} {gs : List (List Nat)} (h : ScOk ks gs) : ks.Nodup := h.asc.imp fun {a b} z e => by omega
/-- whether two kinds cross -/
def crB (gs : List (List Nat)) (a b : Nat) : Bool := decide ([a, b] ∈ gs) || decide ([b, a] ∈ gs)
theorem asc_rev (l : List Nat) : ascOf l.reverse = ascOf l := ascOf_congr fun c => by simp
theorem prs_crB {ks : List Nat} {gs : List (List Nat)} (h : ScOk ks gs) {a b : Nat} : [a, b] ∈ prsOf gs ↔ a < b ∧ crB gs a b = true := by
  unfold prsOf crB
  rw [Bool.or_eq_true_iff, decide_eq_true_iff, decide_eq_true_iff]
  constructor
  · intro m
    obtain ⟨x, y, e, hx, hy, m⟩ := pairsOf_mem.mp m
    injection e with e1 e2
    injection e2 with e2 _
    subst e1
    subst e2
    obtain ⟨r, hr, e⟩ := List.mem_map.mp m
    obtain ⟨u, v, rfl, n, hu, hv⟩ := h.prs r hr
    have lu := h.lt u hu
    have lv := h.lt v hv
    rcases Nat.lt_or_gt_of_ne n with z | z
    · rw [(asc2 lu lv z).1] at e
      injection e with e1 e2
      injection e2 with e2 _
      subst e1
      subst e2
      exact ⟨z, .inl hr⟩
    · rw [(asc2 lv lu z).2] at e
      injection e with e1 e2
      injection e2 with e2 _
      subst e1
      subst e2
      exact ⟨z, .inr hr⟩
  · rintro ⟨l, m | m⟩
    · obtain ⟨u, v, e, n, hu, hv⟩ := h.prs _ m
      injection e with e1 e2
      injection e2 with e2 _
      subst e1
      subst e2
      exact pairsOf_mem.mpr ⟨a, b, rfl, h.lt _ hu, h.lt _ hv, List.mem_map.mpr ⟨[a, b], m, (asc2 (h.lt _ hu) (h.lt _ hv) l).1⟩⟩
    · obtain ⟨u, v, e, n, hu, hv⟩ := h.prs _ m
      injection e with e1 e2
      injection e2 with e2 _
      subst e1
      subst e2
      exact pairsOf_mem.mpr ⟨a, b, rfl, h.lt _ hv, h.lt _ hu, List.mem_map.mpr ⟨[b, a], m, (asc2 (h.lt _ hv) (h.lt _ hu) l).2⟩⟩
theorem prs_twin (gs : List (List Nat)) : prsOf (gs.reverse.map List.reverse) = prsOf gs := by
  unfold prsOf
  refine pairsOf_congr fun a b _ _ => ?_
  rw [List.map_map]
  constructor
  · intro h
    obtain ⟨r, hr, e⟩ := List.mem_map.mp h
    exact List.mem_map.mpr ⟨r, List.mem_reverse.mp hr, by rw [← e]; exact (asc_rev r).symm⟩
  · intro h
    obtain ⟨r, hr, e⟩ := List.mem_map.mp h
    exact List.mem_map.mpr ⟨r, List.mem_reverse.mpr hr, by rw [← e]; exact asc_rev r⟩
theorem asc_self71 {ks : List Nat} (asc : ks.Pairwise (· < ·)) (lt : ∀ c ∈ ks, c ∈ LET) : ascOf ks = ks := by
  refine List.Perm.eq_of_pairwise (le := (· < ·)) (fun a b _ _ h1 h2 => by omega) (asc_pw ks) asc ?_
  refine (List.perm_ext_iff_of_nodup (ascOf_nodup ks) (asc.imp fun {a b} z e => by omega)).mpr fun c => ?_
  rw [ascOf_mem]
  exact ⟨fun h => h.2, fun h => ⟨lt c h, h⟩⟩
theorem ScOk.kinds {ks : List Nat} {gs : List (List Nat)} (h : ScOk ks gs) : kindsOf ks = ks ∧ kindsOf ks.reverse = ks := ⟨asc_self71 h.asc h.lt, (asc_rev ks).trans (asc_self71 h.asc h.lt)⟩
/-- a scene -/
structure SceneAt (C : Addr) (H : Hp) (q : Addr) (ks : List Nat) (gs : List (List Nat)) (x y : Addr) : Prop where
  ex : ∃ l, H q = some (.dK [(Sum.inr ("kinds" : Str), .str (tx ks)), (Sum.inr ("pairs" : Str), .ref l), (Sum.inr ("plan" : Str), .ref x), (Sum.inr ("twin" : Str), .ref y)]) ∧ H l = some (.lst (strsV gs))
  px : PlanAt C H x ks (prsOf gs)
  py : PlanAt C H y ks (prsOf gs)
theorem SceneAt.same {C : Addr} {H H' : Hp} {q : Addr} {ks : List Nat} {gs : List (List Nat)} {x y : Addr} (h : SceneAt C H q ks gs x y) (s : Same H H') : SceneAt C H' q ks gs x y := by
  obtain ⟨l, e1, e2⟩ := h.ex
  exact ⟨⟨l, s _ _ e1, s _ _ e2⟩, h.px.same s, h.py.same s⟩
section
variable {H : Hp} {q : Addr} {ks : List Nat} {l x y : Addr}
theorem sc_kinds (h : H q = some (.dK [(Sum.inr ("kinds" : Str), .str (tx ks)), (Sum.inr ("pairs" : Str), .ref l), (Sum.inr ("plan" : Str), .ref x), (Sum.inr ("twin" : Str), .ref y)])) : DGet H q (.str "kinds") (some (.str (tx ks))) := DGet.k (k := Sum.inr ("kinds" : Str)) h
theorem sc_pairs (h : H q = some (.dK [(Sum.inr ("kinds" : Str), .str (tx ks)), (Sum.inr ("pairs" : Str), .ref l), (Sum.inr ("plan" : Str), .ref x), (Sum.inr ("twin" : Str), .ref y)])) : DGet H q (.str "pairs") (some (.ref l)) := DGet.k (k := Sum.inr ("pairs" : Str)) h
theorem sc_plan (h : H q = some (.dK [(Sum.inr ("kinds" : Str), .str (tx ks)), (Sum.inr ("pairs" : Str), .ref l), (Sum.inr ("plan" : Str), .ref x), (Sum.inr ("twin" : Str), .ref y)])) : DGet H q (.str "plan") (some (.ref x)) := DGet.k (k := Sum.inr ("plan" : Str)) h
end
end
section
open PySem PySem.Spec L2
structure TxtSc (K : PySem.W.Frag) (mg : Str → Option Value) (C R O CL : Addr) : Prop extends TxtCr K mg C R O CL where
  sorted : mg "sorted" = none
  min : mg "min" = none
  dict : mg "dict" = none
def spScene (C : Addr) : Sp := fun vs H Q _ => ∃ (g : Pen) (n least most : Nat), vs = [.ref g.p, .int ((least : Nat) : Int), .int ((most : Nat) : Int)] ∧ PenAt g H n ∧ n < 800000 ∧ least ≤ most ∧ most ≤ 8 ∧
  ∀ q ks gs x y H', H q = none → SceneAt C H' q ks gs x y → ScOk ks gs → least ≤ ks.length → ks.length ≤ most → PenAt g H' (n + 68) → Keep g.p H H' → Q (.ref q) H'
theorem e_revL71 {K : PySem.W.Frag} {te : TE} {σ : L2.St} {H : Hp} {Q : VK} (q : te σ H fun x H1 => ∃ a xs, x = .ref a ∧ SqL K H1 a xs ∧ ∀ p, H1 p = none → Q (.ref p) (upd H1 p (.lst xs.reverse))) : tRevL K te σ H Q := q
theorem walk_strL71 {K : PySem.W.Frag} {a : Addr} {ls : List (List Nat)} : Walk (Itl K a) ls.length (fun H => SqL K H a (strsV ls)) (fun k H x H' => H' = H ∧ x = .str (tx (ls.getD k []))) := by
  have w := walk_list (K := K) (a := a) (xs := strsV ls)
  rw [show (strsV ls).length = ls.length from List.length_map _] at w
  refine w.mono (fun _ z => z) fun i H x H' hi _ y => ⟨y.1, ?_⟩
  have z := y.2
  rw [List.getElem?_map, List.getElem?_eq_getElem hi] at z
  rw [List.getD_eq_getElem?_getD, List.getElem?_eq_getElem hi]
  exact (Option.some.inj z).symm
section
variable {P : Program} {w : World} {K : PySem.W.Frag} {mg : Str → Option Value} {base : Heap} {C R O CL : Addr}
abbrev stscene : Stmt := (top 42)
abbrev Nscene : List Str := ["_law_pen", "_law_least", "_law_most", "_law_many", "_law_first", "_law_step", "_law_letters", "_law_kinds", "_law_shape", "_law_pairs_here", "_law_k", "_law_j", "_law_near", "_law_menu", "_law_twin", "_law_pair"]
theorem scscene : FnScope Nscene ["_law_pen", "_law_least", "_law_most"] (defScope stscene) := ⟨rfl, rfl, rfl, by decide +kernel, rfl, by decide +kernel, by decide +kernel⟩

theorem ok_scene (F : FnAt K mg "_law_scene" stscene) (T : TxtSc K mg C R O CL) (D_draw : Def P w K mg base CX0 1 "_law_draw" ["_law_pen", "_law_span"] spDraw) (D_pick : Def P w K mg base CX0 2 "_law_pick" ["_law_pen", "_law_some"] spPick2) (C_Plan : CDef P w K mg base CX0 3 "Plan" C (spPlan K C)) : Def P w K mg base CX0 5 "_law_scene" ["_law_pen", "_law_least", "_law_most"] (spScene C) := by
  refine F.ok scscene (fun _ _ _ _ _ _ us hl => match us, hl with | [_, _, _], _ => rfl) (fun vs H Q E h => ?_) (fun f cdv A outer s H vs Q E hr h => ?_)
  · obtain ⟨g, n, least, most, rfl, _⟩ := h
    rfl
  obtain ⟨g, n, least, most, rfl, hp, hn, lm, m8, k⟩ := h
  have hu := hu_of hr
  have nd := scscene.nd
  replace D_draw := D_draw.mono (show 1 ≤ 4 by decide)
  replace D_pick := D_pick.mono (show 2 ≤ 4 by decide)
  refine ⟨_, (pss_cons (ps_asg (pe_tup (pa_cons (pe_op op_add (pv 1) (pe_cd D_draw hr pass0 (pa_cons (pv 0) (pa_cons (pe_op op_sub (pe_op op_add (pv 2) pe_int) (pv 1)) pa_nil)))) (pa_cons (pe_cd D_draw hr pass0 (pa_cons (pv 0) (pa_cons pe_int pa_nil))) (pa_cons (pe_cd D_pick hr pass0 (pa_cons (pv 0) (pa_cons (pe_lst (pa_cons pe_int (pa_cons pe_int (pa_cons pe_int (pa_cons pe_int pa_nil))))) pa_nil))) pa_nil)))) (pg_tup rfl (pgs_cons (pg_name (i := 3) nd rfl (Or.inl rfl)) (pgs_cons (pg_name (i := 4) nd rfl (Or.inr rfl)) (pgs_cons (pg_name (i := 5) nd rfl (Or.inr rfl)) pgs_nil)))))
      (pss_cons (ps_set (i := 6) nd rfl (Or.inr rfl) (pe_tx [97, 98, 99, 100, 101, 102, 103, 104, 105, 106, 107, 108, 109, 110, 111, 112, 113, 114, 115, 116, 117, 118, 119, 120, 121, 122] (by decide +kernel)))
      (pss_cons (ps_set (i := 7) nd rfl (Or.inl rfl) (pe_joinK (K := K) rfl (pe_tx [] (by decide +kernel)) (pe_callB (cr_sortedTK (K := K) rfl) (by rfl) T.sorted (by decide +kernel) (pa_cons (pe_lc (own := [("_law_k", 10)]) (g := gName 10) (by rfl) nd (pi_range1 (by rfl) T.range (pa_cons (pv 3) pa_nil)) (blkOk_by (own := [("_law_k", 10)]) (N := Nscene) (sc := defScope stscene) (by decide +kernel)) (fun _ _ _ _ _ => (pg_name (i := 10) nd rfl (Or.inl rfl))) (fun _ _ _ _ _ => pts_nil) (fun _ _ _ _ _ => (pe_callTy c_strS (by rfl) T.str (by decide +kernel) (pa_cons (pe_ix ix_str (pv 6) (pe_op op_mod (pe_callTy c_int (by rfl) T.int (by decide +kernel) (pa_cons (pe_op op_add (pv 4) (pe_op op_mul (pv 5) (pv 10))) pa_nil)) pe_int) (fun _ _ => rfl)) pa_nil)))) pa_nil))))
      (pss_cons (ps_par (i := 8) (j := 9) (by rfl) nd rfl rfl (by decide) rfl rfl (pa_cons (pe_cd D_draw hr pass0 (pa_cons (pv 0) (pa_cons pe_int pa_nil))) (pa_cons (pe_lst pa_nil) pa_nil)) (by rfl))
      (pss_cons (ps_for PassesOwn.never rfl (pi_range1 (by rfl) T.range (pa_cons (pv 3) pa_nil)) (pg_name (i := 10) nd rfl (Or.inl rfl))
      (pss_one (ps_for PassesOwn.never rfl (pi_range1 (by rfl) T.range (pa_cons (pv 10) pa_nil)) (pg_name (i := 11) nd rfl (Or.inl rfl))
        (pss_cons (ps_set (i := 12) nd rfl (Or.inl rfl) (pe_cut (pe_or (pe_cmpR op_eq (pe_op op_add (pv 11) pe_int) (pv 10) (nomark _)) (pe_one (pe_and (pe_cmpR op_eq (pv 11) pe_int (nomark _)) (pe_one (pe_cmpR op_eq (pv 10) (pe_op op_sub (pv 3) pe_int) (nomark _))))))))
          (pss_cons (ps_set (i := 13) nd rfl (Or.inl rfl) (pe_lst (pa_cons pe_bl (pa_cons pe_bl (pa_cons (pv 12) (pa_cons (pe_not (pv 12)) (pa_cons (pe_cmpR op_eq (pv 11) pe_int (nomark _)) (pa_cons (pe_cmpR op_eq (pe_op op_add (pv 11) pe_int) (pv 10) (nomark _)) (pa_cons (pe_cmpR op_eq (pe_cd D_draw hr pass0 (pa_cons (pv 0) (pa_cons pe_int pa_nil))) pe_int (nomark _)) pa_nil)))))))))
          (pss_one (ps_if (pt_val (pe_ix (ix_LK (K := K) rfl) (pv 13) (pv 8) (fun _ _ => rfl)))
          (pss_one (ps_expr (pe_appK (K := K) rfl (pv 9) (pe_op op_addS (pe_ix ix_str (pv 7) (pv 11) (fun _ _ => rfl)) (pe_ix ix_str (pv 7) (pv 10) (fun _ _ => rfl))))))
          pss_nil)))))))
      (pss_cons (ps_set (i := 14) nd rfl (Or.inl rfl) (pe_mk C_Plan hr pass0 (pa_cons (pe_revS (pv 7)) (pa_cons (pe_lc (own := [("_law_pair", 15)]) (g := gName 15) (by rfl) nd (pi_listK (K := K) rfl (pe_revL (pv 9))) (blkOk_by (own := [("_law_pair", 15)]) (N := Nscene) (sc := defScope stscene) (by decide +kernel)) (fun _ _ _ _ _ => (pg_name (i := 15) nd rfl (Or.inl rfl))) (fun _ _ _ _ _ => pts_nil) (fun _ _ _ _ _ => (pe_revS (pv 15)))) pa_nil))))
      (pss_one (ps_ret (pe_disp (pps_cons pe_str (pv 7) (pps_cons pe_str (pv 9) (pps_cons pe_str (pe_mk C_Plan hr pass0 (pa_cons (pv 7) (pa_cons (pe_callTy (c_listK (K := K) rfl) (by rfl) T.list (by decide +kernel) (pa_cons (pv 9) pa_nil)) pa_nil))) (pps_cons pe_str (pv 14) pps_nil)))) (by rfl) (by rfl) (fun z => by cases z) (by decide)))))))))), ?_⟩
  refine s_start [some _, some _, some _, none, none, none, none, none, none, none, none, none, none, none, none, none] rfl ?_
  walk_at "go"
  refine ⟨g, _, n, rfl, by omega, by omega, hp, by omega, fun z H1 z0 z1 p1 k1 => ?_⟩
  obtain ⟨d0, rfl⟩ : ∃ d0 : Nat, z = (d0 : Int) := ⟨z.toNat, by omega⟩
  walk_at "go"
  obtain ⟨m, em⟩ : ∃ m : Nat, ((least : Nat) : Int) + (d0 : Int) = (m : Int) := ⟨least + d0, by omega⟩
  have hm1 : least ≤ m := by omega
  have hm2 : m ≤ most := by omega
  rw [em]
  clear em
  refine ⟨g, 26, n + 1, rfl, by omega, by omega, p1, by omega, fun z H2 y0 y1 p2 k2 => ?_⟩
  obtain ⟨fr, rfl⟩ : ∃ fr : Nat, z = (fr : Int) := ⟨z.toNat, by omega⟩
  have hfr : fr < 26 := by omega
  walk_at "go"
  intro q1 H3 hq1 s3 e3
  walk_at "go"
  refine ⟨g, n + 2, .ref q1, _, rfl, .inl ⟨q1, rfl, e3⟩, by simp, by simp, p2.same s3, by omega, fun v H4 hv p4 k4 => ?_⟩
  obtain ⟨sp, hsp, rfl⟩ : ∃ sp ∈ [1, 3, 5, 7], v = V.int (sp : Nat) := by
    simp only [List.mem_cons, List.not_mem_nil, or_false] at hv
    rcases hv with rfl | rfl | rfl | rfl
    · exact ⟨1, by decide, rfl⟩
    · exact ⟨3, by decide, rfl⟩
    · exact ⟨5, by decide, rfl⟩
    · exact ⟨7, by decide, rfl⟩
  have k4' : Keep g.p H H4 := fun b o hb nb => k4 _ _ (s3 _ _ (k2 _ _ (k1 _ _ hb nb) nb)) nb
  clear hv e3 s3 k1 k2 p1 p2 hq1 k4 z0 z1 y0 y1
  walk_at "go"
  intro q2 H5 hq2 s5 e5
  refine v_gTup3 rfl e5 ?_
  have p5 := p4.same s5
  have k5 : Keep g.p H H5 := fun b o hb nb => s5 _ _ (k4' _ _ hb nb)
  clear e5 s5 k4' p4 hq2
  walk_at "go"
  rw [show ((m : Nat) : Int).toNat = m by omega]
  obtain ⟨lnd, lle⟩ := ltr71_nd hfr hsp (show m ≤ 8 by omega)
  have sp7 : sp ≤ 7 := by
    have : ∀ s ∈ [1, 3, 5, 7], s ≤ 7 := by decide
    exact this sp hsp
  refine lc_gen (n := m) (b := fun _ => true) (it := fun k => .int ((k : Nat) : Int)) (f := fun k => V.str (tx [ltr71 fr sp k])) (walk_rI (fun k => ((k : Nat) : Int)) (fun k => Int.zero_add _)) (fun _ _ => trivial) (by omega) (fun k hk Ha sa R r => ?_) (fun k hk _ Ha sa R r => ?_) (fun D H7 hD s7 e7 => ?_)
  · walk_at "go"
    exact r Ha (Same.refl _)
  · have hz : (((fr : Nat) : Int) + (sp : Int) * (k : Int)) % 26 = (((fr + sp * k) % 26 : Nat) : Int) := by
      rw [Int.natCast_emod, Int.natCast_add, Int.natCast_mul]
      rfl
    have hb : sp * k ≤ 7 * 8 := Nat.mul_le_mul sp7 (by omega)
    have hb2 : 0 ≤ ((sp : Int) * (k : Int)) ∧ ((sp : Int) * (k : Int)) ≤ 200 := by
      rw [← Int.natCast_mul]
      omega
    walk_at "go"
    rw [hz]
    have h26 : (fr + sp * k) % 26 < LET.length := Nat.mod_lt _ (by decide)
    refine v_ixS (l := LET) (by decide) (show atI LET (((fr + sp * k) % 26 : Nat) : Int) = some (ltr71 fr sp k) from at_getD h26) ?_
    walk_at "go"
    exact ⟨_, rfl, r Ha (Same.refl _)⟩
  rw [filter_yes] at e7
  have e7 : H7 D = some (.lst ((((List.range m).map (ltr71 fr sp)).map fun c => [c]).map fun l => V.str (tx l))) := by
    rw [e7, List.map_map, List.map_map]
    rfl
  generalize hL : (List.range m).map (ltr71 fr sp) = L at e7 lnd lle
  have lL : L.length = m := by rw [← hL, List.length_map, List.length_range]
  clear hL
  walk_at "go"
  refine ⟨D, _, rfl, SqL.of e7, fun ws p pmW pwW hp7 => ?_⟩
  obtain ⟨ks, rfl, pk, as⟩ := sorted_ones71 pmW lnd pwW
  have lk : ks.length = m := by rw [pk.length_eq, lL]
  have klt : ∀ c ∈ ks, c ∈ LET := fun c hc => lle c (pk.subset hc)
  have s8 : Same H7 (upd H7 p (.lst ((ks.map fun c => [c]).map fun l => V.str (tx l)))) := Same.new hp7
  have e8 : (upd H7 p (.lst ((ks.map fun c => [c]).map fun l => V.str (tx l)))) p = some (.lst ((ks.map fun c => [c]).map fun l => V.str (tx l))) := upd_same
  generalize upd H7 p (.lst ((ks.map fun c => [c]).map fun l => V.str (tx l))) = H8 at s8 e8 ⊢
  walk_at "go"
  refine v_join e8 (by rw [flat_ones]; omega) ?_
  rw [flat_ones]
  have s58 := s7.trans s8
  have p8 := p5.same s58
  have k8 : Keep g.p H H8 := fun b o hb nb => s58 _ _ (k5 _ _ hb nb)
  clear e7 e8 s7 s8 s58 pmW pwW hp7 hD lnd lle lL p5 k5 pk
  have ksnd : ks.Nodup := as.imp fun {a b} z e => by omega
  walk_at "go"
  refine ⟨g, 7, n + 3, rfl, by omega, by omega, p8, by omega, fun sh H9 w0 w1 p9 k9 => ?_⟩
  walk_at "go"
  intro pa H10 hpa s10 epa
  walk_at "go"
  have npa : pa ≠ g.p := (p9.p_ne hpa).symm
  have npc : g.cl ≠ pa := p9.cl_ne hpa
  have hpa0 : H pa = none := by
    cases z : H pa with
    | none => rfl
    | some o =>
      have := k9 _ _ (k8 _ _ z npa) npa
      rw [hpa] at this
      cases this
  have p10 := p9.same s10
  have k10 : Keep g.p H H10 := fun b o hb nb => s10 _ _ (k9 _ _ (k8 _ _ hb nb) nb)
  clear p8 k8 p9 k9 s10 hpa
  have lg : (tx ks) = tx ks := rfl
  refine for_it (walk_rI (fun i => ((i : Nat) : Int)) (fun k => Int.zero_add _)) (fun j σ H' => ∃ x10 x11 x12 x13 x14 gs, σ = [some (.ref g.p), some (.int ((least : Nat) : Int)), some (.int ((most : Nat) : Int)), some (.int (m : Nat)), some (.int (fr : Nat)), some (.int (sp : Nat)), some (.str (tx LET)), some (.str (tx ks)), some (.int sh), some (.ref pa), x10, x11, x12, x13, x14, none] ∧ PenAt g H' (n + 4 + 8 * j) ∧ Keep g.p H H' ∧ H' pa = some (.lst (strsV gs)) ∧ PairsIn ks gs ∧ gs.length ≤ 8 * j) ⟨_, _, _, _, _, [], rfl, p10, k10, epa, (fun _ z => nomatch z), Nat.zero_le _⟩ (fun _ _ _ _ _ => trivial) ?_ ?_
  · rintro j v σ H11 H12 hj ⟨x10, x11, x12, x13, x14, gs, rfl, p12, k12, e12, pin, lgs⟩ ⟨rfl, rfl⟩
    rw [Int.toNat_natCast] at hj
    have hj' : j < ks.length := by omega
    walk_at "go"
    refine for_it (walk_rI (fun i => ((i : Nat) : Int)) (fun k => Int.zero_add _)) (fun i σ H' => ∃ x11 x12 x13 gs, σ = [some (.ref g.p), some (.int ((least : Nat) : Int)), some (.int ((most : Nat) : Int)), some (.int (m : Nat)), some (.int (fr : Nat)), some (.int (sp : Nat)), some (.str (tx LET)), some (.str (tx ks)), some (.int sh), some (.ref pa), some (.int (j : Nat)), x11, x12, x13, x14, none] ∧ PenAt g H' (n + 4 + 8 * j + i) ∧ Keep g.p H H' ∧ H' pa = some (.lst (strsV gs)) ∧ PairsIn ks gs ∧ gs.length ≤ 8 * j + i) ⟨_, _, _, gs, rfl, p12, k12, e12, pin, lgs⟩ (fun _ _ _ _ _ => trivial) ?_ ?_
    · rintro i v σ H13 H14 hi ⟨y11, y12, y13, gs, rfl, p14, k14, e14, pin, lgs⟩ ⟨rfl, rfl⟩
      rw [Int.toNat_natCast] at hi
      walk_at "go"
      refine e_cut (fun v H' => (∃ b, v = .bl b) ∧ H' = H14) ?_ ?_
      · walk_at "go"
        refine if_dec (fun _ => ⟨⟨_, rfl⟩, rfl⟩) (fun _ => ?_)
        walk_at "go"
        refine if_dec (fun _ => ?_) (fun _ => ?_)
        · walk_at "go"
          exact ⟨⟨_, rfl⟩, rfl⟩
        · walk_at "go"
          exact ⟨⟨_, rfl⟩, rfl⟩
      rintro v H' ⟨⟨b, rfl⟩, rfl⟩
      walk_at "go"
      refine ⟨g, 2, _, rfl, by omega, by omega, p14, by omega, fun z H15 z0 z1 p15 k15 => ?_⟩
      have e15 := k15 _ _ e14 npa
      have k15' : Keep g.p H H15 := fun b o hb nb => k15 _ _ (k14 _ _ hb nb) nb
      walk_at "go"
      intro mn H16 hmn s16 e16
      have bl7 : ∃ b2, ([V.bl false, V.bl true, V.bl b, V.bl (!b), V.bl (decide (V.int ((i : Nat) : Int) = V.int 0)), V.bl (decide (V.int (((i : Nat) : Int) + 1) = V.int ((j : Nat) : Int))), V.bl (decide (V.int z = V.int 0))] : List V)[sh.toNat]? = some (.bl b2) := by
        have : sh.toNat < 7 := by omega
        match hs : sh.toNat, this with
        | 0, _ => exact ⟨_, rfl⟩
        | 1, _ => exact ⟨_, rfl⟩
        | 2, _ => exact ⟨_, rfl⟩
        | 3, _ => exact ⟨_, rfl⟩
        | 4, _ => exact ⟨_, rfl⟩
        | 5, _ => exact ⟨_, rfl⟩
        | 6, _ => exact ⟨_, rfl⟩
      obtain ⟨b2, hb2⟩ := bl7
      walk_at "go"
      refine v_ixL e16 (at_of (j := sh.toNat) (by omega) hb2) ?_
      have e16' := s16 _ _ e15
      have p16 := p15.same s16
      have k16 : Keep g.p H H16 := fun b o hb nb => s16 _ _ (k15' _ _ hb nb)
      refine ⟨_, rfl, ?_⟩
      clear e14 e15 p14 p15 k14 k15 k15' e16 s16 hmn hb2
      cases b2 with
      | false =>
        walk_at "go"
        exact ⟨_, _, _, gs, rfl, p16.mono (by omega), k16, e16', pin, by omega⟩
      | true =>
        walk_at "go"
        refine v_ixS (by omega) (at_getD (show i < ks.length by omega)) ?_
        walk_at "go"
        refine v_ixS (by omega) (at_getD hj') ?_
        walk_at "go"
        refine v_app e16' (by unfold strsV; rw [List.length_map]; omega) fun H17 k17 e17 => ?_
        refine ⟨_, _, _, gs ++ [[ks.getD i 0, ks.getD j 0]], rfl, (p16.keep k17 npa.symm npc).mono (by omega), fun b o hb nb => k17 _ _ (k16 _ _ hb nb) (ne_of_none hb hpa0), ?_, fun q hq => ?_, by rw [List.length_append, List.length_singleton]; omega⟩
        · rw [e17]
          unfold strsV
          rw [List.map_append]
          rfl
        · rcases List.mem_append.mp hq with z | z
          · exact pin q z
          · rw [List.mem_singleton.mp z]
            exact ⟨_, _, rfl, fun e => by have := getD_inj71 ksnd (show i < ks.length by omega) hj' e; omega, getD_mem (by omega), getD_mem hj'⟩
    · rintro σ H13 ⟨y11, y12, y13, gs, rfl, p14, k14, e14, pin, lgs⟩
      rw [Int.toNat_natCast] at p14 lgs
      exact ⟨_, _, _, _, _, gs, rfl, p14.mono (by omega), k14, e14, pin, by omega⟩
  rintro σ H11 ⟨x10, x11, x12, x13, x14, gs, rfl, p11, k11, e11, pin, lgs⟩
  rw [Int.toNat_natCast] at p11 lgs
  have fin : ∀ {H' : Hp}, True → True := fun _ => trivial
  walk_at "go"
  refine e_revL71 ?_
  walk_at "go"
  refine ⟨pa, _, rfl, SqL.of e11, fun r hr0 => ?_⟩
  have sr : Same H11 (upd H11 r (.lst (strsV gs).reverse)) := Same.new hr0
  have er : (upd H11 r (.lst (strsV gs).reverse)) r = some (.lst (strsV gs.reverse)) := by rw [upd_same, ← List.map_reverse]
  generalize upd H11 r (.lst (strsV gs).reverse) = H12 at sr er ⊢
  refine ⟨r, rfl, ⟨_, SqL.of er⟩, ?_⟩
  have gsm : ∀ q ∈ gs, q.length ≤ 1000 := fun q hq => by
    obtain ⟨a, b, rfl, _⟩ := pin q hq
    show 2 ≤ 1000
    decide
  refine lc_gen (n := gs.reverse.length) (b := fun _ => true) (it := fun k => V.str (tx (gs.reverse.getD k []))) (f := fun k => V.str (tx (gs.reverse.getD k []).reverse)) (walk_strL71 (K := K)) (fun H' s' => SqL.of (s' _ _ er)) (by rw [List.length_reverse]; omega) (fun k hk Ha sa R r' => ?_) (fun k hk _ Ha sa R r' => ?_) (fun D H13 hD s13 e13 => ?_)
  · walk_at "go"
    exact r' Ha (Same.refl _)
  · have ml : (gs.reverse.getD k []).length ≤ 1000 := by
      rw [List.getD_eq_getElem?_getD, List.getElem?_eq_getElem hk]
      exact gsm _ (List.mem_reverse.mp (List.getElem_mem hk))
    walk_at "go"
    exact r' Ha (Same.refl _)
  rw [filter_yes] at e13
  have e13 : H13 D = some (.lst (strsV (gs.reverse.map List.reverse))) := by
    rw [e13]
    congr 2
    refine List.ext_getElem (by simp) fun i h1 h2 => ?_
    rw [List.length_map, List.length_range] at h1
    rw [List.getElem_map, List.getElem_range, List.getElem_map, List.getElem_map, List.getD_eq_getElem?_getD, List.getElem?_eq_getElem h1]
    rfl
  have ok : ScOk ks gs := ⟨as, klt, by omega, pin, by omega⟩
  have s113 := sr.trans s13
  walk_at "go"
  refine ⟨ks.reverse, D, _, rfl, ⟨.inl e13, by rw [List.length_map, List.length_reverse]; omega, fun q hq => ?_, fun c hc => klt c (List.mem_reverse.mp hc), (List.reverse_perm ks).symm.nodup ksnd, by rw [List.length_reverse]; omega⟩, fun y H14 hy s14 py _ => ?_⟩
  · obtain ⟨q', hq', rfl⟩ := List.mem_map.mp hq
    obtain ⟨a, b, rfl, n1, ha, hb⟩ := pin q' (List.mem_reverse.mp hq')
    exact ⟨b, a, rfl, fun z => n1 z.symm, List.mem_reverse.mpr hb, List.mem_reverse.mpr ha⟩
  rw [prs_twin, ok.kinds.2] at py
  have s114 := s113.trans s14
  walk_at "go"
  intro p hp14
  have sp0 : Same H14 (upd H14 p (.dK [])) := Same.new hp14
  have ep0 : (upd H14 p (.dK [])) p = some (.dK []) := upd_same
  generalize upd H14 p (.dK []) = H14' at sp0 ep0 ⊢
  have s114' := s114.trans sp0
  walk_at "go"
  refine ⟨pa, _, rfl, .inl (SqL.of (s114' _ _ e11)), fun l hl => ?_⟩
  have s15 : Same H14' (upd H14' l (.lst (strsV gs))) := Same.new hl
  have e15 : (upd H14' l (.lst (strsV gs))) l = some (.lst (strsV gs)) := upd_same
  generalize upd H14' l (.lst (strsV gs)) = H15 at s15 e15 ⊢
  walk_at "go"
  refine ⟨ks, l, _, rfl, ⟨.inl e15, by omega, pin, klt, ksnd, by omega⟩, fun x H16 hx s16 px ox => ?_⟩
  rw [ok.kinds.1] at px
  have s1416 := (sp0.trans s15).trans s16
  have s116 := s114.trans s1416
  walk_at "go"
  have ep16 : H16 p = some (.dK []) := s16 _ _ (s15 _ _ ep0)
  refine ⟨ep16, [(Sum.inr "kinds", .str (tx ks)), (Sum.inr "pairs", .ref pa), (Sum.inr "plan", .ref x), (Sum.inr "twin", .ref y)], rfl, (by show 4 ≤ 15; decide), ?_⟩
  have em : mergeK [] [(Sum.inr ("kinds" : Str), V.str (tx ks)), (Sum.inr ("pairs" : Str), .ref pa), (Sum.inr ("plan" : Str), .ref x), (Sum.inr ("twin" : Str), .ref y)] = [(Sum.inr ("kinds" : Str), .str (tx ks)), (Sum.inr ("pairs" : Str), .ref pa), (Sum.inr ("plan" : Str), .ref x), (Sum.inr ("twin" : Str), .ref y)] := rfl
  rw [em]
  have nH : ∀ b o, H14 b = some o → b ≠ p := fun b o hb => ne_of_none hb hp14
  have kp := Keep.put (p := p) (H := H16) (o := .dK [(Sum.inr ("kinds" : Str), .str (tx ks)), (Sum.inr ("pairs" : Str), .ref pa), (Sum.inr ("plan" : Str), .ref x), (Sum.inr ("twin" : Str), .ref y)])
  have ep := upd_same (H := H16) (a := p) (o := .dK [(Sum.inr ("kinds" : Str), .str (tx ks)), (Sum.inr ("pairs" : Str), .ref pa), (Sum.inr ("plan" : Str), .ref x), (Sum.inr ("twin" : Str), .ref y)])
  have hpx := px.off (ox p _ (s15 _ _ ep0)) (ne_of_none (s15 _ _ ep0) hx).symm kp
  generalize upd H16 p (.dK [(Sum.inr ("kinds" : Str), .str (tx ks)), (Sum.inr ("pairs" : Str), .ref pa), (Sum.inr ("plan" : Str), .ref x), (Sum.inr ("twin" : Str), .ref y)]) = H17 at kp ep hpx ⊢
  have s17 : Same H14 H17 := fun b o hb => kp _ _ (s1416 _ _ hb) (nH b o hb)
  have hpH : H p = none := by
    cases z : H p with
    | none => rfl
    | some o =>
      by_cases e : p = g.p
      · have := p11.p_ne (Same.free s114 hp14)
        exact absurd e.symm this
      · have := s114 _ _ (k11 _ _ z e)
        rw [hp14] at this
        cases this
  exact k p ks gs x y H17 hpH ⟨⟨pa, ep, s17 _ _ (s114 _ _ e11)⟩, hpx, py.same s17⟩ ok (by omega) (by omega) ((p11.same (s114.trans s17)).mono (by omega)) fun b o hb nb => s17 _ _ (s114 _ _ (k11 _ _ hb nb))
end
end
section
open PySem PySem.Spec L2
section
variable {P : Program} {w : World} {K : PySem.W.Frag} {mg : Str → Option Value} {base : Heap}
end
end
section
open PySem PySem.Spec L2
structure TxtH (K : PySem.W.Frag) (mg : Str → Option Value) : Prop extends Txt K mg where
  range : mg "range" = none
section
variable {P : Program} {w : World} {K : PySem.W.Frag} {mg : Str → Option Value} {base : Heap}
end
end
section
open PySem PySem.Spec L2
structure TxtV (K : PySem.W.Frag) (mg : Str → Option Value) : Prop extends TxtH K mg where
  tuple : mg "tuple" = none
  min : mg "min" = none
  dict : mg "dict" = none
section
variable {P : Program} {w : World} {K : PySem.W.Frag} {mg : Str → Option Value} {base : Heap}
end
end
section
open PySem PySem.Spec L2
section
variable {P : Program} {w : World} {K : PySem.W.Frag} {mg : Str → Option Value} {base : Heap}
end
end
section
open PySem PySem.Spec L2
section
variable {P : Program} {w : World} {K : PySem.W.Frag} {mg : Str → Option Value} {base : Heap}
end
end
section
open PySem PySem.Spec L2
theorem let_pw {ls : List Nat} {g : Nat → V} (h : ls.Nodup) : (ls.map fun c => ((Sum.inr (tx [c]) : Key), g c)).Pairwise (fun a b => a.1 ≠ b.1) := by
  rw [List.pairwise_map]
  refine List.Pairwise.imp (fun {a b} hab z => ?_) h
  have := key_tx.mp z
  injection this with e _
  exact hab e
section
variable {P : Program} {w : World} {K : PySem.W.Frag} {mg : Str → Option Value} {base : Heap}
end
end
section
open PySem PySem.Spec L2
/-- dict(a list of pairs), the keys letters -/
theorem v_dictV {K : PySem.W.Frag} {H : Hp} {Q : VK} {D : Addr} {vs : List V} {ls : List Nat} {val : Nat → V} (e : H D = some (.lst vs)) (hl : vs.length = ls.length) (rel : ∀ k v, vs[k]? = some v → ∃ t, v = .ref t ∧ H t = some (.tup [.str (tx [ls.getD k 0]), val (ls.getD k 0)])) (nd : ls.Nodup) (q : ∀ p H', H p = none → Same H H' → H' p = some (.dK (ls.map fun c => ((Sum.inr (tx [c]) : Key), val c))) → Q (.ref p) H') : rDictP K [.ref D] H Q := by
  have key : ∀ {vs : List V} {ls : List Nat}, vs.length = ls.length → (∀ k v, vs[k]? = some v → ∃ t, v = .ref t ∧ H t = some (.tup [.str (tx [ls.getD k 0]), val (ls.getD k 0)])) → ∃ ps : List Addr, vs = ps.map V.ref ∧ Paired (fun p kv => SqT K H p [kV kv.1, kv.2]) ps (ls.map fun c => ((Sum.inr (tx [c]) : Key), val c)) := by
    intro vs
    induction vs with
    | nil =>
      intro ls hl _
      cases ls with
      | nil => exact ⟨[], rfl, .nil⟩
      | cons _ _ => simp at hl
    | cons v vs ih =>
      intro ls hl rel
      cases ls with
      | nil => simp at hl
      | cons c ls =>
        obtain ⟨t, rfl, ht⟩ := rel 0 v rfl
        obtain ⟨ps, e, p⟩ := ih (ls := ls) (by simpa using hl) fun k u hk => rel (k + 1) u hk
        exact ⟨t :: ps, by rw [e]; rfl, .cons (SqT.of ht) p⟩
  obtain ⟨ps, e1, p⟩ := key hl rel
  refine ⟨D, ps, _, rfl, SqL.of (by rw [e, e1]), p, fun p hp => ?_⟩
  rw [merge_new (fun _ _ => rfl) (let_pw nd), List.nil_append]
  exact q p _ hp (Same.new hp) upd_same
theorem v_dictE {K : PySem.W.Frag} {H : Hp} {Q : VK} {D : Addr} {vs : List V} {ls : List Nat} {p : V → Prop} (z0 : V) (e : H D = some (.lst vs)) (hl : vs.length = ls.length) (rel : ∀ k v, vs[k]? = some v → ∃ t z, v = .ref t ∧ H t = some (.tup [.str (tx [ls.getD k 0]), z]) ∧ p z) (nd : ls.Nodup) (q : ∀ d H' (val : Nat → V), (∀ c ∈ ls, p (val c)) → H d = none → Same H H' → H' d = some (.dK (ls.map fun c => ((Sum.inr (tx [c]) : Key), val c))) → Q (.ref d) H') : rDictP K [.ref D] H Q := by
  have key : ∀ c, ∃ z : V, ∀ k v, ls.getD k 0 = c → vs[k]? = some v → ∃ t, v = .ref t ∧ H t = some (.tup [.str (tx [c]), z]) ∧ p z := by
    intro c
    by_cases hc : c ∈ ls
    · obtain ⟨k0, h0, e0⟩ := mem_getD hc
      obtain ⟨t, z, e1, e2, e3⟩ := rel k0 (vs[k0]'(by omega)) (List.getElem?_eq_getElem _)
      refine ⟨z, fun k v ek hv => ?_⟩
      have hk : k < ls.length := by
        have := (List.getElem?_eq_some_iff.mp hv).1
        omega
      have : k = k0 := getD_inj nd hk h0 (ek.trans e0.symm)
      subst this
      rw [List.getElem?_eq_getElem (by omega)] at hv
      injection hv with hv
      rw [e0] at e2
      exact ⟨t, hv ▸ e1, e2, e3⟩
    · refine ⟨z0, fun k v ek hv => absurd ?_ hc⟩
      rw [← ek]
      refine getD_mem ?_
      have := (List.getElem?_eq_some_iff.mp hv).1
      omega
  obtain ⟨val, hval⟩ := Classical.axiomOfChoice key
  refine v_dictV (val := val) e hl (fun k v hk => ?_) nd fun d H' h1 h2 h3 => q d H' val (fun c hc => ?_) h1 h2 h3
  · obtain ⟨t, e1, e2, _⟩ := hval _ k v rfl hk
    exact ⟨t, e1, e2⟩
  · obtain ⟨k0, h0, e0⟩ := mem_getD hc
    obtain ⟨t, _, _, h⟩ := hval c k0 (vs[k0]'(by omega)) e0 (List.getElem?_eq_getElem _)
    exact h
end
section
open PySem PySem.Spec L2
theorem pen_ne71 {g : Pen} {H : Hp} {n : Nat} {q : Addr} {kvs : List (Key × V)} (p : PenAt g H n) (h : H q = some (.dK kvs)) (hk : kvs.head?.map (·.1) ≠ some (Sum.inr ("cells" : Str))) : q ≠ g.p := fun z => by
  obtain ⟨a, b, h1, _⟩ := p.ex
  rw [z, h1] at h
  injection h with h
  injection h with h
  refine hk ?_
  rw [← h]
  rfl
theorem key_cells (c : Nat) : (Sum.inr (tx [c]) : Key) ≠ Sum.inr ("cells" : Str) := fun e => cells_ne e
theorem SceneAt.pen {C : Addr} {H H' : Hp} {q : Addr} {ks : List Nat} {gs : List (List Nat)} {x y : Addr} {g : Pen} {n : Nat} (h : SceneAt C H q ks gs x y) (p : PenAt g H n) (k : Keep g.p H H') : SceneAt C H' q ks gs x y := by
  obtain ⟨l, e1, e2⟩ := h.ex
  exact ⟨⟨l, k _ _ e1 (pen_ne71 p e1 fun z => by cases z), k _ _ e2 (p.lst_ne e2)⟩, h.px.pen p k, h.py.pen p k⟩
/-- tables of letters -/
structure DicT (H : Hp) (d : Addr) (keys : List Nat) (r : Nat → List Nat) : Prop where
  ex : ∃ a : Nat → Addr, H d = some (.dK (keys.map fun c => ((Sum.inr (tx [c]) : Key), V.ref (a c)))) ∧ ∀ c ∈ keys, H (a c) = some (.lst (numV (r c)))
theorem DicT.same {H H' : Hp} {d : Addr} {keys : List Nat} {r : Nat → List Nat} (h : DicT H d keys r) (s : Same H H') : DicT H' d keys r := by
  obtain ⟨a, e1, e2⟩ := h.ex
  exact ⟨a, s _ _ e1, fun c hc => s _ _ (e2 c hc)⟩
theorem DicT.pen {H H' : Hp} {d : Addr} {keys : List Nat} {r : Nat → List Nat} {g : Pen} {n : Nat} (h : DicT H d keys r) (p : PenAt g H n) (k : Keep g.p H H') : DicT H' d keys r := by
  obtain ⟨a, e1, e2⟩ := h.ex
  refine ⟨a, k _ _ e1 (pen_ne71 p e1 ?_), fun c hc => k _ _ (e2 c hc) (p.lst_ne (e2 c hc))⟩
  cases keys with
  | nil => exact fun z => by cases z
  | cons c l => exact fun z => key_cells c (Option.some.inj z)
def spCross71 (C : Addr) : Sp := fun vs H Q _ => ∃ (q x y : Addr) (ks : List Nat) (gs : List (List Nat)) (a b : Nat), vs = [.ref q, .str (tx [a]), .str (tx [b])] ∧ SceneAt C H q ks gs x y ∧ Q (.bl (crB gs a b)) H
section
variable {P : Program} {w : World} {K : PySem.W.Frag} {mg : Str → Option Value} {base : Heap} {C R O CL : Addr}
abbrev stcross : Stmt := (top 43)
abbrev Ncross : List Str := ["_law_scene_here", "_law_a", "_law_b"]
theorem sccross : FnScope Ncross ["_law_scene_here", "_law_a", "_law_b"] (defScope stcross) := ⟨rfl, rfl, rfl, by decide +kernel, rfl, by decide +kernel, by decide +kernel⟩

theorem ok_cross71 (F : FnAt K mg "_law_cross" stcross) : Def P w K mg base CX0 1 "_law_cross" ["_law_scene_here", "_law_a", "_law_b"] (spCross71 C) := by
  refine F.ok sccross (fun _ _ _ _ _ _ us hl => match us, hl with | [_, _, _], _ => rfl) (fun vs H Q E h => ?_) (fun f cdv A outer s H vs Q E hr h => ?_)
  · obtain ⟨q, x, y, ks, gs, a, b, rfl, _⟩ := h
    rfl
  obtain ⟨q, x, y, ks, gs, a, b, rfl, sc, k⟩ := h
  have hu := hu_of hr
  have nd := sccross.nd
  refine ⟨_, (pss_one (ps_ret (pe_or (pe_cmpR (op_inLK (K := K) rfl) (pe_op op_addS (pv 1) (pv 2)) (pe_dget hu (pv 0) pe_str (fun _ _ => rfl)) (by rfl)) (pe_one (pe_cmpR (op_inLK (K := K) rfl) (pe_op op_addS (pv 2) (pv 1)) (pe_dget hu (pv 0) pe_str (fun _ _ => rfl)) (by rfl)))))), ?_⟩
  refine s_start [some _, some _, some _] rfl ?_
  obtain ⟨l, e1, e2⟩ := sc.ex
  walk_at "go"
  refine v_dget (sc_pairs e1) ?_
  walk_at "go"
  have tb : ∀ {u v : Nat}, ([u] ++ [v] : List Nat) = [u, v] := rfl
  rw [tb]
  by_cases c1 : [a, b] ∈ gs
  · rw [decide_eq_true c1]
    have e : crB gs a b = true := by unfold crB; rw [decide_eq_true c1]; rfl
    rw [e] at k
    walk_at "go"
    exact k
  · rw [decide_eq_false c1]
    have e : crB gs a b = decide ([b, a] ∈ gs) := by unfold crB; rw [decide_eq_false c1]; rfl
    rw [e] at k
    walk_at "go"
    refine v_dget (sc_pairs e1) ?_
    walk_at "go"
    exact k
end
end
section
open PySem PySem.Spec L2
/-- the rows of the kinds that cross a kind -/
def crossR (gs : List (List Nat)) (keys : List Nat) (r : Nat → List Nat) (k : Nat) : List (List Nat) := (keys.filter fun c => crB gs c k).map r
theorem dp_rows71 : ∀ {K : PySem.W.Frag} {H : Hp} {E : List (List Nat × Addr)}, (∀ e ∈ E, RowTu H e.2 e.1) → DpAll K H (refV E) ((E.map (·.1)).map rowD71) := fun h => dp_tab h
theorem v_neNilR71 {K : PySem.W.Frag} {H : Hp} {Q : VK} {p q : Addr} {TD : List (List Nat)} (h1 : RefsL RowTu H p TD) (h2 : H q = some (.lst [])) (k : Q (.bl (!TD.isEmpty)) H) : rNeD K (.ref p) (.ref q) H Q := by
  obtain ⟨E, e1, e2, e3⟩ := h1.ex
  subst e1
  refine ⟨.list ((E.map (·.1)).map rowD71), .list [], .lst (SqL.of e2) (dp_rows71 e3), .lst (SqL.of h2) .nil, ?_, rfl, ?_⟩
  · generalize E.map (·.1) = T0
    have h1 := tab71_dep T0
    have h2 : (PyData.list (T0.map rowD71)).depth ≤ 64 := by simp only [PyData.depth]; omega
    have h3 : (PyData.list (T0.map rowD71)).canLay0 = true := by simp only [PyData.canLay0]; exact tab71_lay _
    simp [SeqAt.shaped, h2, h3]
  · have e : PyData.eqv (.list ((E.map (·.1)).map rowD71)) (.list []) = (E.map (·.1)).isEmpty := by
      cases E with
      | nil => rfl
      | cons e E => rfl
    rw [e]
    exact k
theorem SceneAt.lock71 {C : Addr} {H H' : Hp} {q : Addr} {ks : List Nat} {gs : List (List Nat)} {x y d : Addr} {keys : List Nat} {a : Nat → Addr} (h : SceneAt C H q ks gs x y) (hd : H d = some (.dK (keys.map fun c => ((Sum.inr (tx [c]) : Key), V.ref (a c))))) (h0 : keys ≠ []) (k : Keep d H H') : SceneAt C H' q ks gs x y := by
  obtain ⟨l, e1, e2⟩ := h.ex
  have pk : ∀ {z : Addr}, PlanAt C H z ks (prsOf gs) → PlanAt C H' z ks (prsOf gs) := fun {z} p => by
    obtain ⟨dx, t, d', a1, a2, a3⟩ := p.ex
    refine ⟨dx, t, d', k _ _ a1 (ne_of a1 hd (by intro z; cases z)), k _ _ a2 (ne_of a2 hd (by intro z; cases z)), k _ _ a3 fun z => ?_⟩
    rw [z, hd] at a3
    injection a3 with a3
    injection a3 with a3
    cases keys with
    | nil => exact h0 rfl
    | cons c r =>
      unfold crossKV at a3
      cases ks with
      | nil => cases a3
      | cons e r' =>
        injection a3 with a3 _
        injection a3 with _ a3
        cases a3
  refine ⟨⟨l, k _ _ e1 fun z => ?_, k _ _ e2 (ne_of e2 hd (by intro z; cases z))⟩, pk h.px, pk h.py⟩
  rw [z, hd] at e1
  injection e1 with e1
  injection e1 with e1
  cases keys with
  | nil => exact h0 rfl
  | cons c r =>
    injection e1 with e1 _
    injection e1 with e1 _
    injection e1 with e1
    have := congrArg (fun s : Str => s.cps.size) e1
    simp at this
    revert this
    decide
def spFit71 (C : Addr) : Sp := fun vs H Q _ => ∃ (q d x y : Addr) (ks : List Nat) (gs : List (List Nat)) (keys : List Nat) (r : Nat → List Nat) (k n one two : Nat), vs = [.ref q, .ref d, .str (tx [k]), .int ((one : Nat) : Int), .int ((two : Nat) : Int)] ∧ SceneAt C H q ks gs x y ∧ DicT H d keys r ∧ keys.Nodup ∧ keys.length ≤ 8 ∧ (∀ c ∈ keys, (r c).length = n ∧ ∀ z ∈ r c, z < n) ∧ one < n ∧ two < n ∧ n ≤ 1000 ∧
  (∀ H', Same H H' → Q .non H') ∧ ∀ p l g H', H p = none → Same H H' → H' p = some (.dK (nKV l fun z => V.int ((g z : Nat) : Int))) → PInv n (crossR gs keys r k) l g → Q (.ref p) H'
section
variable {P : Program} {w : World} {K : PySem.W.Frag} {mg : Str → Option Value} {base : Heap} {C R O CL : Addr}
abbrev stfit : Stmt := (top 44)
abbrev Nfit : List Str := ["_law_scene_here", "_law_tables", "_law_door", "_law_one", "_law_two", "_law_pairs_here", "_law_todo", "_law_here", "_law_there", "_law_start", "_law_goal", "_law_other"]
theorem scfit : FnScope Nfit ["_law_scene_here", "_law_tables", "_law_door", "_law_one", "_law_two"] (defScope stfit) := ⟨rfl, rfl, rfl, by decide +kernel, rfl, by decide +kernel, by decide +kernel⟩

theorem ok_fit71 (F : FnAt K mg "_law_fit" stfit) (T : TxtSc K mg C R O CL) (D_cross : Def P w K mg base CX0 1 "_law_cross" ["_law_scene_here", "_law_a", "_law_b"] (spCross71 C)) : Def P w K mg base CX0 2 "_law_fit" ["_law_scene_here", "_law_tables", "_law_door", "_law_one", "_law_two"] (spFit71 C) := by
  refine F.ok scfit (fun _ _ _ _ _ _ us hl => match us, hl with | [_, _, _, _, _], _ => rfl) (fun vs H Q E h => ?_) (fun f cdv A outer s H vs Q E hr h => ?_)
  · obtain ⟨q, d, x, y, ks, gs, keys, r, k, n, one, two, rfl, _⟩ := h
    rfl
  obtain ⟨q, d, x, y, ks, gs, keys, r, k, n, one, two, rfl, sc, dt, kn, k8, hr0, h1, h2, ln, qn, qp⟩ := h
  have hu := hu_of hr
  have nd := scfit.nd
  refine ⟨_, (pss_cons (ps_par (i := 5) (j := 6) (by rfl) nd rfl rfl (by decide) rfl rfl (pa_cons pe_dnewK (pa_cons (pe_lst (pa_cons (pe_tup (pa_cons (pv 3) (pa_cons (pv 4) pa_nil))) pa_nil)) pa_nil)) (by rfl))
      (pss_cutS (ps_while PassesOwn.never (pt_cmpR (op_neDK (K := K) rfl hr.units) (pv 6) (pe_lst pa_nil) (nomark _))
      (pss_cons (ps_asg (pe_pop0K (K := K) rfl (pv 6)) (pg_tup rfl (pgs_cons (pg_name (i := 7) nd rfl (Or.inl rfl)) (pgs_cons (pg_name (i := 8) nd rfl (Or.inl rfl)) pgs_nil))))
        (pss_cons (ps_for PassesOwn.never rfl (pi_listK (K := K) rfl (pe_lst (pa_cons (pe_tup (pa_cons (pv 7) (pa_cons (pv 8) pa_nil))) (pa_cons (pe_tup (pa_cons (pv 8) (pa_cons (pv 7) pa_nil))) pa_nil)))) (pg_tup rfl (pgs_cons (pg_name (i := 9) nd rfl (Or.inl rfl)) (pgs_cons (pg_name (i := 10) nd rfl (Or.inl rfl)) pgs_nil)))
        (pss_one (ps_if (pt_cmpR op_ne (pe_get71 hu (pv 5) (pv 9) (pv 10)) (pv 10) (nomark _))
          (pss_one (ps_ret pe_non))
          pss_nil)))
        (pss_one (ps_if (pt_cmp (pc_dnotin hu (pv 7) (pv 5)))
        (pss_cons (ps_asg (pe_tup (pa_cons (pv 8) (pa_cons (pv 7) pa_nil))) (pg_tup rfl (pgs_cons (pg_sub (pv 5) (pv 7) (set_dict71 hu)) (pgs_cons (pg_sub (pv 5) (pv 8) (set_dict71 hu)) pgs_nil))))
          (pss_one (ps_lock (ps_for PassesOwn.never rfl (pi_keys (pv 1)) (pg_name (i := 11) nd rfl (Or.inl rfl))
          (pss_one (ps_if (pt_val (pe_cd D_cross hr pass0 (pa_cons (pv 0) (pa_cons (pv 11) (pa_cons (pv 2) pa_nil)))))
            (pss_one (ps_expr (pe_appK (K := K) rfl (pv 6) (pe_tup (pa_cons (pe_ix (ix_LK (K := K) rfl) (pe_dget hu (pv 1) (pv 11) (fun _ _ => rfl)) (pv 7) (fun _ _ => rfl)) (pa_cons (pe_ix (ix_LK (K := K) rfl) (pe_dget hu (pv 1) (pv 11) (fun _ _ => rfl)) (pv 8) (fun _ _ => rfl)) pa_nil))))))
            pss_nil))))))
        pss_nil)))))
      (pss_one (ps_ret (pv 5))))), ?_⟩
  refine s_start [some _, some _, some _, some _, some _, none, none, none, none, none, none, none] rfl ?_
  obtain ⟨a, d1, d2⟩ := dt.ex
  walk_at "go"
  intro pa H1 hpa s1 e1
  walk_at "go"
  intro t0 H2 ht0 s2 e2
  walk_at "go"
  intro td H3 htd s3 e3
  refine ⟨_, _, rfl, ?_⟩
  have hpaH : H pa = none := hpa
  have htdH : H td = none := Same.free s1 (Same.free s2 htd)
  have npt : pa ≠ td := ne_of_none (s2 _ _ e1) htd
  have rn : ∀ c ∈ keys, ∀ z, z < n → (r c).getD z 0 < n := fun c hc z hz => by
    obtain ⟨l1, l2⟩ := hr0 c hc
    rw [List.getD_eq_getElem?_getD, List.getElem?_eq_getElem (show z < (r c).length by omega)]
    exact l2 _ (List.getElem_mem _)
  have rsl : (crossR gs keys r k).length ≤ 8 := by
    unfold crossR
    rw [List.length_map]
    exact Nat.le_trans (List.length_filter_le _ _) k8
  have rsn : ∀ z ∈ crossR gs keys r k, ∀ u, u < n → z.getD u 0 < n := fun z hz u hu0 => by
    obtain ⟨c, hc, rfl⟩ := List.mem_map.mp hz
    exact rn c (List.mem_filter.mp hc).1 u hu0
  have s13 : Same H H3 := (s1.trans s2).trans s3
  have ndp : ∀ {H' : Hp}, Same H H' → d ≠ pa ∧ d ≠ td := fun _ => ⟨ne_of_none d1 hpaH, ne_of_none d1 htdH⟩
  have e13 : H3 pa = some (.dK (nKV [] fun z => V.int (((id : Nat → Nat) z : Nat) : Int))) := s3 _ _ (s2 _ _ e1)
  have td3 : RefsL RowTu H3 td [[one, two]] := ⟨[([one, two], t0)], rfl, e3, fun e he => by
    rw [List.mem_singleton.mp he]
    exact s3 _ _ e2⟩
  clear s1 s2 s3 e1 e2 e3 hpa ht0 htd
  refine s_cut (fun σ H' => ∃ l g x7 x8 x9 x10 x11, σ = [some (.ref q), some (.ref d), some (.str (tx [k])), some (.int ((one : Nat) : Int)), some (.int ((two : Nat) : Int)), some (.ref pa), some (.ref td), x7, x8, x9, x10, x11] ∧ Same H H' ∧ H' pa = some (.dK (nKV l fun z => V.int ((g z : Nat) : Int))) ∧ PInv n (crossR gs keys r k) l g) ?_ ?_
  · refine s_while (fun m σ H' => ∃ l g TD x7 x8 x9 x10 x11, σ = [some (.ref q), some (.ref d), some (.str (tx [k])), some (.int ((one : Nat) : Int)), some (.int ((two : Nat) : Int)), some (.ref pa), some (.ref td), x7, x8, x9, x10, x11] ∧ Same H H' ∧ H' pa = some (.dK (nKV l fun z => V.int ((g z : Nat) : Int))) ∧ RefsL RowTu H' td TD ∧ FitI n (crossR gs keys r k) l g TD ∧ TD.length + (n - l.length) * 9 ≤ 1 + n * 9 ∧ TD.length + (n - l.length) * 9 = m) (1 + n * 9) ⟨[], id, [[one, two]], _, _, _, _, _, rfl, s13, e13, td3, .init h1 h2, Nat.le_refl _, rfl⟩ ?_
    rintro m σ H4 ⟨l, g, TD, x7, x8, x9, x10, x11, rfl, s4, e4, td4, fi, em0, em⟩
    have l1000 : l.length ≤ 1000 := Nat.le_trans fi.len ln
    walk_at "go"
    intro nl H5 hnl s5 e5
    have td5 : RefsL RowTu H5 td TD := td4.same s5 fun p a e => s5 _ _ e
    refine v_neNilR71 td5 e5 ?_
    have s45 := s4.trans s5
    have e45 := s5 _ _ e4
    clear s4 s5 e4 e5 td4 hnl
    rcases List.eq_nil_or_concat TD with rfl | ⟨TD', p, rfl⟩
    · walk_at "go"
      refine if_bool (fun z => nomatch z) (fun _ => ?_)
      walk_at "go"
      exact ⟨l, g, _, _, _, _, _, rfl, s45, e45, fi.done⟩
    rw [List.concat_eq_append] at *
    obtain ⟨h, t, rfl, hn, tn⟩ := fi.td p (List.mem_append_right _ (List.mem_singleton.mpr rfl))
    have ne : (!(TD' ++ [[h, t]]).isEmpty) = true := by cases TD' <;> rfl
    rw [ne]
    refine ⟨_, rfl, ?_⟩
    rw [if_pos rfl]
    obtain ⟨m', em'⟩ : ∃ m', m = m' + 1 := ⟨m - 1, by rw [List.length_append, List.length_singleton] at em; omega⟩
    subst em'
    refine v_turn ?_
    obtain ⟨EE, b1, b2, b3⟩ := td5.ex
    rcases List.eq_nil_or_concat EE with rfl | ⟨E', e0, rfl⟩
    · exact absurd (congrArg List.length b1) (by simp)
    rw [List.concat_eq_append] at *
    rw [List.map_append] at b1
    obtain ⟨b1a, b1b⟩ := List.append_inj' b1 rfl
    have b1c : e0.1 = [h, t] := by
      have := b1b
      rw [List.map_cons, List.map_nil] at this
      exact (List.cons.inj this).1
    have b2' : H5 td = some (.lst (refV E' ++ [.ref e0.2])) := by rw [b2]; show some (HO.lst ((E' ++ [e0]).map _)) = _; rw [List.map_append]; rfl
    have et : H5 e0.2 = some (.tup [.int ((h : Nat) : Int), .int ((t : Nat) : Int)]) := by
      have := b3 e0 (List.mem_append_right _ (List.mem_singleton.mpr rfl))
      unfold RowTu at this
      rw [b1c] at this
      exact this
    walk_at "go"
    refine v_pop0 b2' fun H6 k6 e6 => ?_
    have et6 := k6 _ _ et (ne_of et b2 (by intro z; cases z))
    have e46 := k6 _ _ e45 npt
    have td6 : RefsL RowTu H6 td TD' := ⟨E', b1a, e6, fun e he => by
      have z := b3 e (List.mem_append_left _ he)
      exact k6 _ _ z (ne_of z b2 (by intro z; cases z))⟩
    have s46 : Same H H6 := fun b o hb => k6 _ _ (s45 _ _ hb) (ne_of_none hb htdH)
    refine v_gTup2 rfl et6 ?_
    clear b1 b1a b1b b1c b2 b2' b3 et et6 e45 e6 k6 td5 s45
    walk_at "go"
    intro a1 H7 ha1 s7 ea1
    walk_at "go"
    intro a2 H8 ha2 s8 ea2
    walk_at "go"
    intro lq H9 hlq s9 elq
    refine ⟨lq, rfl, ⟨_, SqL.of elq⟩, ?_⟩
    have ea1 := s9 _ _ (s8 _ _ ea1)
    have ea2 := s9 _ _ ea2
    have s69 := (s7.trans s8).trans s9
    have s4 : Same H H9 := s46.trans s69
    have e4 := s69 _ _ e46
    have td4 : RefsL RowTu H9 td TD' := td6.same s69 fun p a e => s69 _ _ e
    clear s46 e46 td6 s69 s7 s8 s9 ha1 ha2 hlq
    have getP : ∀ {H' : Hp} (u : Nat), H' pa = some (.dK (nKV l fun z => V.int ((g z : Nat) : Int))) → DGet H' pa (.int ((u : Nat) : Int)) (if u ∈ l then some (V.int ((g u : Nat) : Int)) else none) := fun u hp => by
      by_cases c : u ∈ l
      · rw [if_pos c]; exact num_get hp c
      · rw [if_neg c]; exact num_not hp c
    refine for_it (walk_list (K := K) (a := lq) (xs := [V.ref a1, V.ref a2])) (fun i σ H' => ∃ y9 y10, σ = [some (.ref q), some (.ref d), some (.str (tx [k])), some (.int ((one : Nat) : Int)), some (.int ((two : Nat) : Int)), some (.ref pa), some (.ref td), some (.int ((h : Nat) : Int)), some (.int ((t : Nat) : Int)), y9, y10, x11] ∧ H' = H9 ∧ (0 < i → h ∈ l → g h = t) ∧ (1 < i → t ∈ l → g t = h)) ⟨_, _, rfl, rfl, fun z => absurd z (by omega), fun z => absurd z (by omega)⟩ (fun _ _ _ _ ⟨_, _, _, e, _⟩ => by rw [e]; exact SqL.of elq) ?_ ?_
    · rintro i v σ H10 H11 hi ⟨y9, y10, rfl, rfl, c1, c2⟩ ⟨rfl, hv⟩
      have hi : i < 2 := hi
      obtain ⟨u, v', aa, rfl, eaa, huv⟩ : ∃ (u v' : Nat) (aa : Addr), v = .ref aa ∧ H11 aa = some (.tup [.int ((u : Nat) : Int), .int ((v' : Nat) : Int)]) ∧ ((i = 0 ∧ u = h ∧ v' = t) ∨ (i = 1 ∧ u = t ∧ v' = h)) := by
        match i, hi, hv with
        | 0, _, hv => exact ⟨h, t, a1, (Option.some.inj hv).symm, ea1, .inl ⟨rfl, rfl, rfl⟩⟩
        | 1, _, hv => exact ⟨t, h, a2, (Option.some.inj hv).symm, ea2, .inr ⟨rfl, rfl, rfl⟩⟩
      refine v_gTup2 rfl eaa ?_
      walk_at "go"
      refine e_get71 ?_
      walk_at "go"
      refine ⟨pa, rfl, isD_num e4, ?_⟩
      walk_at "go"
      refine ⟨_, getP u e4, ?_⟩
      have done1 : (u ∈ l → g u = v') → ∃ y9 y10, ([some (.ref q), some (.ref d), some (.str (tx [k])), some (.int ((one : Nat) : Int)), some (.int ((two : Nat) : Int)), some (.ref pa), some (.ref td), some (.int ((h : Nat) : Int)), some (.int ((t : Nat) : Int)), some (.int ((u : Nat) : Int)), some (.int ((v' : Nat) : Int)), x11] : L2.St) = [some (.ref q), some (.ref d), some (.str (tx [k])), some (.int ((one : Nat) : Int)), some (.int ((two : Nat) : Int)), some (.ref pa), some (.ref td), some (.int ((h : Nat) : Int)), some (.int ((t : Nat) : Int)), y9, y10, x11] ∧ H11 = H11 ∧ (0 < i + 1 → h ∈ l → g h = t) ∧ (1 < i + 1 → t ∈ l → g t = h) := fun hh => by
        refine ⟨_, _, rfl, rfl, fun _ => ?_, fun z => ?_⟩
        · rcases huv with ⟨rfl, rfl, rfl⟩ | ⟨rfl, rfl, rfl⟩
          · exact hh
          · exact c1 (by omega)
        · rcases huv with ⟨rfl, rfl, rfl⟩ | ⟨rfl, rfl, rfl⟩
          · exact absurd z (by omega)
          · exact hh
      by_cases c : u ∈ l
      · rw [if_pos c]
        by_cases c0 : g u = v'
        · rw [c0]
          simp only [Option.getD_some]
          walk_at "go"
          refine if_ndec (fun z => absurd rfl z) (fun _ => ?_)
          walk_at "go"
          exact done1 fun _ => c0
        · simp only [Option.getD_some]
          walk_at "go"
          refine if_ndec (fun z => ?_) (fun z => ?_)
          · walk_at "go"
            exact qn H11 s4
          · injection z with z
            exact absurd (Int.ofNat.inj z) c0
      · rw [if_neg c]
        simp only [Option.getD_none]
        walk_at "go"
        refine if_ndec (fun z => absurd rfl z) (fun _ => ?_)
        walk_at "go"
        exact done1 fun z => absurd z c
    rintro σ H10 ⟨y9, y10, rfl, rfl, c1, c2⟩
    have c1 := c1 (by show 0 < 2; decide)
    have c2 := c2 (by show 1 < 2; decide)
    walk_at "go"
    refine v_dnotin (getP h e4) ?_
    by_cases c : h ∈ l
    · rw [if_pos c]
      refine ⟨_, rfl, ?_⟩
      rw [if_neg (show ¬ (!(some (V.int ((g h : Nat) : Int))).isSome) = true from fun z => nomatch z)]
      walk_at "go"
      rw [List.length_append, List.length_singleton] at em em0
      exact ⟨_, by omega, l, g, TD', _, _, _, _, _, rfl, s4, e4, td4, fi.skip c (c1 c), by omega, rfl⟩
    rw [if_neg c]
    refine ⟨_, rfl, ?_⟩
    rw [if_pos (show (!(none : Option V).isSome) = true from rfl)]
    obtain ⟨fi2, lg⟩ := fi.add rsn c c2
    walk_at "go"
    intro tt H11 htt s11 e11
    refine ⟨tt, _, rfl, SqT.of e11, rfl, _, _, rfl, ?_⟩
    refine e_setD71 ?_
    walk_at "go"
    refine v_setD71 (num_put (s11 _ _ e4) c (by omega)) ?_
    refine ⟨_, _, rfl, ?_⟩
    refine e_setD71 ?_
    walk_at "go"
    refine v_setD71 (num_put2 upd_same (by rw [List.length_append, List.length_singleton]; omega)) ?_
    refine ⟨rfl, ?_⟩
    obtain ⟨H12, hH12⟩ : ∃ H12, H12 = upd (upd H11 pa (.dK (nKV (l ++ [h]) fun c => if c = h then V.int ((t : Nat) : Int) else V.int ((g c : Nat) : Int)))) pa (.dK (nKV (addK (l ++ [h]) t) fun c => if c = t then V.int ((h : Nat) : Int) else if c = h then V.int ((t : Nat) : Int) else V.int ((g c : Nat) : Int))) := ⟨_, rfl⟩
    have kp : Keep pa H10 H12 := fun b o hb nb => by
      rw [hH12, upd_ne nb, upd_ne nb]
      exact s11 _ _ hb
    have e12 : H12 pa = some (.dK (nKV (addK (l ++ [h]) t) fun z => V.int ((g2 g h t z : Nat) : Int))) := by
      rw [hH12, upd_same]
      congr 2
      refine nKV_congr fun z _ => ?_
      unfold g2
      split
      · rfl
      · split <;> rfl
    have td12 : RefsL RowTu H12 td TD' := by
      obtain ⟨G, g1, g3, g4⟩ := td4.ex
      exact ⟨G, g1, kp _ _ g3 npt.symm, fun e he => kp _ _ (g4 e he) (ne_of (g4 e he) e4 (by intro z; cases z))⟩
    have s12 : Same H H12 := fun b o hb => kp _ _ (s4 _ _ hb) (ne_of_none hb hpaH)
    show tLock _ _ _ _
    rw [← hH12]
    clear hH12 kp s11 e11 td4 e4 ea1 ea2 elq s4 htt
    have d12 := s12 _ _ d1
    obtain ⟨nd1, nd2⟩ := ndp s12
    refine e_lock d12 trivial fun od => ?_
    have fz : ∀ b o, b ≠ d → H12 b = some o → upd H12 d (.frz od (.dK (keys.map fun c => ((Sum.inr (tx [c]) : Key), V.ref (a c))))) b = some o := fun b o nb hb => by
      rw [upd_ne nb]
      exact hb
    walk_at "go"
    refine ⟨d, od, rfl, .inl ⟨_, upd_same, ?_⟩⟩
    refine for_it (walk_let (d := d) (o := od) (ls := keys) (g := fun c => V.ref (a c))) (fun i σ H' => ∃ y11 TD, σ = [some (.ref q), some (.ref d), some (.str (tx [k])), some (.int ((one : Nat) : Int)), some (.int ((two : Nat) : Int)), some (.ref pa), some (.ref td), some (.int ((h : Nat) : Int)), some (.int ((t : Nat) : Int)), y9, y10, y11] ∧ (∀ b o, H b = some o → b ≠ d → H' b = some o) ∧ H' d = some (.frz od (.dK (keys.map fun c => ((Sum.inr (tx [c]) : Key), V.ref (a c))))) ∧ H' pa = some (.dK (nKV (addK (l ++ [h]) t) fun z => V.int ((g2 g h t z : Nat) : Int))) ∧ RefsL RowTu H' td TD ∧ TD = TD' ++ ((keys.take i).filter fun c => crB gs c k).map fun c => [(r c).getD h 0, (r c).getD t 0]) ⟨_, TD', rfl, fun b o hb nb => fz b o nb (s12 _ _ hb), upd_same, fz _ _ nd1.symm e12, ?_, by simp⟩ (fun i σ H' _ z => ?_) ?_ ?_
    · obtain ⟨G, g1, g3, g4⟩ := td12.ex
      exact ⟨G, g1, fz _ _ nd2.symm g3, fun e he => fz _ _ (ne_of (g4 e he) d12 (by intro z; cases z)) (g4 e he)⟩
    · obtain ⟨_, _, _, _, e, _⟩ := z
      exact e
    · rintro i v σ H13 H14 hi ⟨y11, TD, rfl, k14, d14, p14, td14, etd⟩ ⟨rfl, hv⟩
      obtain rfl : v = V.str (tx [keys.getD i 0]) := hv
      have hc : keys.getD i 0 ∈ keys := getD_mem hi
      have htk : keys.take (i + 1) = keys.take i ++ [keys.getD i 0] := take_getD hi
      generalize keys.getD i 0 = c' at hc htk
      have sc14 := sc.lock71 d1 (fun z => by rw [z] at hc; cases hc) (H' := H14) k14
      walk_at "go"
      refine ⟨q, x, y, ks, gs, c', k, rfl, sc14, ?_⟩
      have er := k14 _ _ (d2 c' hc) (ne_of (d2 c' hc) d1 (by intro z; cases z))
      obtain ⟨lr, lr2⟩ := hr0 c' hc
      cases hcr : crB gs c' k with
      | false =>
        walk_at "go"
        refine ⟨_, TD, rfl, k14, d14, p14, td14, ?_⟩
        rw [etd, htk, List.filter_append, List.filter_cons, hcr]
        simp
      | true =>
        have gd : DGet H14 d (.str (tx [c'])) (some (.ref (a c'))) := .inl ⟨_, Sum.inr (tx [c']), .inr ⟨_, d14⟩, rfl, (letV_some (g := fun c => V.ref (a c)) hc).symm⟩
        obtain ⟨G, g1, g3, g4⟩ := td14.ex
        walk_at "go"
        refine v_ixL er (at_of (j := h) rfl (num_at (by omega))) ?_
        walk_at "go"
        refine v_ixL er (at_of (j := t) rfl (num_at (by omega))) ?_
        walk_at "go"
        intro tp H15 htp s15 etp
        have lG : G.length = TD.length := by rw [← g1, List.length_map]
        have lTD : TD.length ≤ 20000 := by
          rw [etd, List.length_append, List.length_map]
          have h1 : ((keys.take i).filter fun c => crB gs c k).length ≤ 8 := Nat.le_trans (List.length_filter_le _ _) (by rw [List.length_take]; omega)
          have h2 : TD'.length ≤ 10000 := by
            rw [List.length_append, List.length_singleton] at em0
            omega
          omega
        walk_at "go"
        refine v_app (s15 _ _ g3) (by rw [List.length_map]; omega) fun H16 k16 e16 => ?_
        refine ⟨_, TD ++ [[(r c').getD h 0, (r c').getD t 0]], rfl, fun b o hb nb => k16 _ _ (s15 _ _ (k14 b o hb nb)) (ne_of_none hb htdH), k16 _ _ (s15 _ _ d14) nd2, k16 _ _ (s15 _ _ p14) npt, ⟨G ++ [([(r c').getD h 0, (r c').getD t 0], tp)], by rw [List.map_append, g1]; rfl, by rw [e16]; unfold refV; rw [List.map_append]; rfl, fun e he => ?_⟩, ?_⟩
        · rcases List.mem_append.mp he with z | z
          · exact k16 _ _ (s15 _ _ (g4 e z)) (ne_of (g4 e z) g3 (by intro z; cases z))
          · rw [List.mem_singleton.mp z]
            exact k16 _ _ etp (ne_of etp (s15 _ _ g3) (by intro z; cases z))
        · rw [etd, htk, List.filter_append, List.filter_cons, hcr]
          simp
    · rintro σ H13 ⟨y11, TD, rfl, k13, d13, p13, td13, etd⟩
      refine ⟨d13, ?_⟩
      have fz2 : ∀ b o, b ≠ d → H13 b = some o → upd H13 d (.dK (keys.map fun c => ((Sum.inr (tx [c]) : Key), V.ref (a c)))) b = some o := fun b o nb hb => by
        rw [upd_ne nb]
        exact hb
      have etd2 : TD = TD' ++ (crossR gs keys r k).map fun z => [z.getD h 0, z.getD t 0] := by
        rw [etd, List.take_length]
        unfold crossR
        rw [List.map_map]
        rfl
      have lf := fi2.len
      have lt0 : TD.length + (n - (addK (l ++ [h]) t).length) * 9 < TD'.length + 1 + (n - l.length) * 9 := by
        rw [etd2, List.length_append, List.length_map]
        omega
      rw [List.length_append, List.length_singleton] at em em0
      refine ⟨_, by rw [← em]; exact lt0, addK (l ++ [h]) t, g2 g h t, TD, _, _, _, _, _, rfl, fun b o hb => ?_, fz2 _ _ nd1.symm p13, ?_, by rw [etd2]; exact fi2, by omega, rfl⟩
      · by_cases e : b = d
        · subst e
          rw [upd_same, ← d1]
          exact hb
        · exact fz2 _ _ e (k13 b o hb e)
      · obtain ⟨G, g1, g3, g4⟩ := td13.ex
        exact ⟨G, g1, fz2 _ _ nd2.symm g3, fun e he => fz2 _ _ (ne_of (g4 e he) d13 (by intro z; cases z)) (g4 e he)⟩
  rintro σ H4 ⟨l, g, x7, x8, x9, x10, x11, rfl, s4, e4, pi⟩
  walk_at "go"
  exact qp pa l g H4 hpaH s4 e4 pi
end
end
section
open PySem PySem.Spec L2
theorem v_eqNilN71 {K : PySem.W.Frag} {H : Hp} {Q : VK} {p q : Addr} {l : List Nat} (h1 : H p = some (.lst (numV l))) (h2 : H q = some (.lst [])) (k : Q (.bl l.isEmpty) H) : rEqD K (.ref p) (.ref q) H Q := by
  refine ⟨.list (l.map fun n => .int ((n : Nat) : Int)), .list [], .lst (SqL.of h1) (dp_nums l), .lst (SqL.of h2) .nil, ?_, rfl, ?_⟩
  · have h1 := row71_dep l
    have h2 : (PyData.list (l.map fun n => PyData.int ((n : Nat) : Int))).depth ≤ 64 := by simp only [PyData.depth]; omega
    have h3 : (PyData.list (l.map fun n => PyData.int ((n : Nat) : Int))).canLay0 = true := by simp only [PyData.canLay0]; exact row71_lay l
    simp [SeqAt.shaped, h2, h3]
  · have e : PyData.eqv (.list (l.map fun n => PyData.int ((n : Nat) : Int))) (.list []) = l.isEmpty := by
      cases l with
      | nil => rfl
      | cons e E => rfl
    rw [e]
    exact k
theorem crB_sym {gs : List (List Nat)} (a b : Nat) : crB gs a b = crB gs b a := by
  unfold crB
  exact Bool.or_comm _ _
theorem e_din71 {ty td : TE} {σ : L2.St} {H : Hp} {Q : VK} (q : ty σ H fun y H1 => td σ H1 fun x H2 => ∃ a o, x = .ref a ∧ DGet H2 a y o ∧ Q (.bl o.isSome) H2) : tDIn ty td σ H Q := q
theorem ty_dict71 {K : PySem.W.Frag} {H : Hp} {p : Addr} {kvs : List (Key × V)} (h : H p = some (.dK kvs)) : tyV K "dict" (.ref p) H := .inr (.inr (.inl ⟨rfl, .inl ⟨kvs, h⟩⟩))
def spDoors71 (C : Addr) : Sp := fun vs H Q _ => ∃ (g : Pen) (n : Nat) (q x y : Addr) (ks : List Nat) (gs : List (List Nat)) (m : Nat), vs = [.ref g.p, .ref q, .int ((m : Nat) : Int)] ∧ PenAt g H n ∧ n < 800000 ∧ SceneAt C H q ks gs x y ∧ ScOk ks gs ∧ 0 < m ∧ m ≤ 8 ∧
  ∀ d r H', H d = none → DicT H' d ks r → RowsOk m (crB gs) ks r → PenAt g H' (n + 300) → Keep g.p H H' → Q (.ref d) H'
section
variable {P : Program} {w : World} {K : PySem.W.Frag} {mg : Str → Option Value} {base : Heap} {C R O CL : Addr}
abbrev stdoors : Stmt := (top 45)
abbrev Ndoors : List Str := ["_law_pen", "_law_scene_here", "_law_many", "_law_tables", "_law_door", "_law_row", "_law_turn", "_law_pairs_here", "_law_place"]
theorem scdoors : FnScope Ndoors ["_law_pen", "_law_scene_here", "_law_many"] (defScope stdoors) := ⟨rfl, rfl, rfl, by decide +kernel, rfl, by decide +kernel, by decide +kernel⟩

theorem ok_doors71 (F : FnAt K mg "_law_doors" stdoors) (T : TxtSc K mg C R O CL) (D_draw : Def P w K mg base CX0 1 "_law_draw" ["_law_pen", "_law_span"] spDraw) (D_pick : Def P w K mg base CX0 2 "_law_pick" ["_law_pen", "_law_some"] spPick2) (D_fit : Def P w K mg base CX0 2 "_law_fit" ["_law_scene_here", "_law_tables", "_law_door", "_law_one", "_law_two"] (spFit71 C)) : Def P w K mg base CX0 3 "_law_doors" ["_law_pen", "_law_scene_here", "_law_many"] (spDoors71 C) := by
  refine F.ok scdoors (fun _ _ _ _ _ _ us hl => match us, hl with | [_, _, _], _ => rfl) (fun vs H Q E h => ?_) (fun f cdv A outer s H vs Q E hr h => ?_)
  · obtain ⟨g, n, q, x, y, ks, gs, m, rfl, _⟩ := h
    rfl
  obtain ⟨g, n, q, x, y, ks, gs, m, rfl, hp, hn, sc, ok, m0, m8, k⟩ := h
  have hu := hu_of hr
  have nd := scdoors.nd
  replace D_draw := D_draw.mono (show 1 ≤ 2 by decide)
  refine ⟨_, (pss_cons (ps_set (i := 3) nd rfl (Or.inl rfl) pe_dnewK)
      (pss_cons (ps_for PassesOwn.never rfl (pi_str (pe_dget hu (pv 1) pe_str (fun _ _ => rfl))) (pg_name (i := 4) nd rfl (Or.inl rfl))
      (pss_cons (ps_set (i := 5) nd rfl (Or.inr rfl) pe_dnewK)
        (pss_cons (ps_for PassesOwn.never rfl (pi_range1 (by rfl) T.range (pa_cons (pe_cd D_pick hr pass0 (pa_cons (pv 0) (pa_cons (pe_lst (pa_cons (pv 2) (pa_cons (pe_op op_mul pe_int (pv 2)) (pa_cons pe_int (pa_cons pe_int pa_nil))))) pa_nil))) pa_nil)) (pg_name (i := 6) nd rfl (Or.inl rfl))
        (pss_cons (ps_set (i := 7) nd rfl (Or.inl rfl) (pe_cd D_fit hr pass0 (pa_cons (pv 1) (pa_cons (pv 3) (pa_cons (pv 4) (pa_cons (pe_cd D_draw hr pass0 (pa_cons (pv 0) (pa_cons (pv 2) pa_nil))) (pa_cons (pe_cd D_draw hr pass0 (pa_cons (pv 0) (pa_cons (pv 2) pa_nil))) pa_nil)))))))
          (pss_one (ps_if (PW.pt (pw_and (pt_cmpR op_notN1 (pv 7) pe_non (nomark _)) (pw_and1 (pt_cmpR (op_eqDK (K := K) rfl hr.units) (pe_lock (pe_lc (own := [("_law_place", 8)]) (g := gName 8) (by rfl) nd (pi_keys (pv 7)) (blkOk_by (own := [("_law_place", 8)]) (N := Ndoors) (sc := defScope stdoors) (by decide +kernel)) (fun _ _ _ _ _ => (pg_name (i := 8) nd rfl (Or.inl rfl))) (fun _ _ _ _ _ => (pts_one (pt_cmp (pc_din hu (pv 8) (pv 5))))) (fun _ _ _ _ _ => (pv 8)))) (pe_lst pa_nil) (nomark _)))))
          (pss_one (ps_expr (pe_updK71 (K := K) rfl (pv 5) (pv 7))))
          pss_nil))))
        (pss_one (ps_dput hu (pv 3) (pv 4) (pe_lc (own := [("_law_place", 8)]) (g := gName 8) (by rfl) nd (pi_range1 (by rfl) T.range (pa_cons (pv 2) pa_nil)) (blkOk_by (own := [("_law_place", 8)]) (N := Ndoors) (sc := defScope stdoors) (by decide +kernel)) (fun _ _ _ _ _ => (pg_name (i := 8) nd rfl (Or.inl rfl))) (fun _ _ _ _ _ => pts_nil) (fun _ _ _ _ _ => (pe_get71 hu (pv 5) (pv 8) (pv 8)))) rfl)))))
      (pss_one (ps_ret (pv 3))))), ?_⟩
  refine s_start [some _, some _, some _, none, none, none, none, none, none] rfl ?_
  have knd := ok.nd
  have kl := ok.len
  walk_at "go"
  intro d H1 hd s1 e1
  have hdH : H d = none := hd
  have ndp : d ≠ g.p := (hp.p_ne hd).symm
  have ndc : g.cl ≠ d := hp.cl_ne hd
  obtain ⟨l0, a1, a2⟩ := sc.ex
  walk_at "go"
  refine v_dget (sc_kinds (s1 _ _ a1)) ?_
  walk_at "go"
  refine for_it (walk_tx ks) (fun i σ H' => ∃ r x4 x5 x6 x7, σ = [some (.ref g.p), some (.ref q), some (.int ((m : Nat) : Int)), some (.ref d), x4, x5, x6, x7, none] ∧ PenAt g H' (n + i * 33) ∧ Keep g.p H H' ∧ DicT H' d (ks.take i) r ∧ RowsOk m (crB gs) (ks.take i) r) ⟨fun _ => [], _, _, _, _, rfl, (hp.same s1).mono (by omega), fun b o hb _ => s1 _ _ hb, ⟨fun _ => 0, e1, fun _ z => nomatch z⟩, ⟨fun _ z => (nomatch z), fun _ z => (nomatch z), fun _ z => (nomatch z)⟩⟩ (fun _ _ _ _ _ => trivial) ?_ ?_
  · rintro i v σ H2 H3 hi ⟨r, x4, x5, x6, x7, rfl, p3, k3, dt3, ro⟩ ⟨rfl, hv⟩
    obtain rfl : v = V.str (tx [ks.getD i 0]) := hv
    have hc : ks.getD i 0 ∈ ks := getD_mem hi
    have htk : ks.take (i + 1) = ks.take i ++ [ks.getD i 0] := take_getD hi
    have hnk : ¬ ks.getD i 0 ∈ ks.take i := take_notin knd hi
    have tnd : (ks.take i).Nodup := (List.take_sublist i ks).nodup knd
    have tl : (ks.take i).length ≤ 8 := by rw [List.length_take]; omega
    generalize ks.getD i 0 = c at hc htk hnk
    generalize ks.take i = keys at dt3 ro htk hnk tnd tl
    walk_at "go"
    intro rw' H4 hrw s4 erw
    walk_at "go"
    intro ml H5 hml s5 eml
    have p5 := (p3.same s4).same s5
    have s35 := s4.trans s5
    refine ⟨g, _, .ref ml, _, rfl, .inl ⟨ml, rfl, eml⟩, by simp, by simp, p5, by omega, fun u H6 hu6 p6 k6 => ?_⟩
    obtain ⟨tn, htn, rfl⟩ : ∃ tn : Nat, tn ≤ 16 ∧ u = V.int (tn : Nat) := by
      simp only [List.mem_cons, List.not_mem_nil, or_false] at hu6
      rcases hu6 with rfl | rfl | rfl | rfl
      · exact ⟨m, by omega, rfl⟩
      · exact ⟨2 * m, by omega, by rw [Int.natCast_mul]; rfl⟩
      · exact ⟨1, by omega, rfl⟩
      · exact ⟨0, by omega, rfl⟩
    have nrp : rw' ≠ g.p := (p3.p_ne hrw).symm
    have nrc : g.cl ≠ rw' := p3.cl_ne hrw
    have hrwH : H rw' = none := by
      cases z : H rw' with
      | none => rfl
      | some o =>
        have := k3 _ _ z nrp
        rw [hrw] at this
        cases this
    have k6' : Keep g.p H H6 := fun b o hb nb => k6 _ _ (s35 _ _ (k3 _ _ hb nb)) nb
    have dt6 := (dt3.same s35).pen p5 k6
    have e6 := k6 _ _ (s5 _ _ erw) nrp
    have hd3 := dt3.ex
    have ndr : d ≠ rw' := by
      obtain ⟨a, z1, _⟩ := dt3.ex
      exact ne_of_none z1 hrw
    clear hd3 p3 k3 dt3 hrw s4 erw hml s5 eml p5 s35 hu6 k6
    walk_at "go"
    rw [Int.toNat_natCast]
    refine for_it (walk_rI (fun i => ((i : Nat) : Int)) (fun k => Int.zero_add _)) (fun j σ H' => ∃ x6 x7 l gg, σ = [some (.ref g.p), some (.ref q), some (.int ((m : Nat) : Int)), some (.ref d), some (.str (tx [c])), some (.ref rw'), x6, x7, none] ∧ PenAt g H' (n + i * 33 + 1 + 2 * j) ∧ Keep g.p H H' ∧ DicT H' d keys r ∧ H' rw' = some (.dK (nKV l fun z => V.int ((gg z : Nat) : Int))) ∧ PInv m (crossR gs keys r c) l gg) ⟨_, _, [], id, rfl, p6, k6', dt6, e6, .nil⟩ (fun _ _ _ _ _ => trivial) ?_ ?_
    · rintro j v σ H7 H8 hj ⟨x6, x7, l, gg, rfl, p8, k8, dt8, e8, pi⟩ ⟨rfl, rfl⟩
      walk_at "go"
      refine ⟨g, _, _, rfl, by omega, by omega, p8, by omega, fun z H9 z0 z1 p9 k9 => ?_⟩
      obtain ⟨one, rfl⟩ : ∃ one : Nat, z = (one : Int) := ⟨z.toNat, by omega⟩
      walk_at "go"
      refine ⟨g, _, _, rfl, by omega, by omega, p9, by omega, fun z H10 y0 y1 p10 k10 => ?_⟩
      obtain ⟨two, rfl⟩ : ∃ two : Nat, z = (two : Int) := ⟨z.toNat, by omega⟩
      have k10' : Keep g.p H H10 := fun b o hb nb => k10 _ _ (k9 _ _ (k8 _ _ hb nb) nb) nb
      have dt10 := (dt8.pen p8 k9).pen p9 k10
      have e10 := k10 _ _ (k9 _ _ e8 nrp) nrp
      have sc10 := sc.pen hp k10'
      clear k9 k10 p9 p8 k8 dt8 e8
      walk_at "go"
      refine ⟨q, d, x, y, ks, gs, keys, r, c, m, one, two, rfl, sc10, dt10, tnd, tl, ro.len, by omega, by omega, by omega, fun H11 s11 => ?_, fun pp l' g' H11 hpp s11 epp pi' => ?_⟩
      · walk_at "go"
        refine v_notN0 ?_
        refine ⟨_, rfl, ?_⟩
        rw [decide_eq_true (show V.non = V.non from rfl)]
        rw [if_neg (by decide)]
        walk_at "go"
        exact ⟨_, _, l, gg, rfl, (p10.same s11).mono (by omega), fun b o hb nb => s11 _ _ (k10' _ _ hb nb), dt10.same s11, s11 _ _ e10, pi⟩
      · walk_at "go"
        refine v_notN0 ?_
        refine ⟨_, rfl, ?_⟩
        rw [decide_eq_false (show ¬ V.ref pp = V.non from fun z => nomatch z)]
        rw [if_pos (by decide)]
        have nrpp : rw' ≠ pp := ne_of_none e10 hpp
        have e11 := s11 _ _ e10
        walk_at "go"
        refine v_lockLcN (b := fun z => decide (z ∈ l)) (f := fun z => .int ((z : Nat) : Int)) epp (Nat.le_trans (FdOk.mk pi'.nd pi'.lt).len (by omega)) (fun H12 R r' => ?_) (fun z hz H12 lk R r' => ?_) (fun z hz _ H12 lk R r' => ?_) (fun D H12 hD s12 e12 => ?_)
        · walk_at "go"
          exact r'
        · walk_at "go"
          refine e_din71 ?_
          walk_at "go"
          have e12 := lk.oth _ _ e11 nrpp
          by_cases cl : z ∈ l
          · refine ⟨rw', _, rfl, num_get e12 cl, _, rfl, ?_⟩
            rw [decide_eq_true cl] at r'
            exact r' H12 (Same.refl _)
          · refine ⟨rw', _, rfl, num_not e12 cl, _, rfl, ?_⟩
            rw [decide_eq_false cl] at r'
            exact r' H12 (Same.refl _)
        · walk_at "go"
          exact r' H12 (Same.refl _)
        walk_at "go"
        intro nl H13 hnl s13 e13
        have s1113 := s12.trans s13
        refine v_eqNilN71 (l := l'.filter fun z => decide (z ∈ l)) (s13 _ _ e12) e13 ?_
        refine ⟨_, rfl, ?_⟩
        have p13 := p10.same (s11.trans s1113)
        have k13 : Keep g.p H H13 := fun b o hb nb => s1113 _ _ (s11 _ _ (k10' _ _ hb nb))
        have dt13 := dt10.same (s11.trans s1113)
        have e13r := s1113 _ _ e11
        have epp13 := s1113 _ _ epp
        clear e12 e13 s12 s13 hnl hD dt10 e10 e11 epp p10 k10' s1113 sc10
        refine if_bool (fun hem => ?_) (fun _ => ?_)
        · have dj : ∀ z ∈ l', ¬ z ∈ l := fun z hz hl => by
            have := List.isEmpty_iff.mp hem
            have m' : z ∈ l'.filter fun z => decide (z ∈ l) := List.mem_filter.mpr ⟨hz, decide_eq_true hl⟩
            rw [this] at m'
            cases m'
          have len1 := (FdOk.mk pi.nd pi.lt).len
          have len2 := (FdOk.mk pi'.nd pi'.lt).len
          walk_at "go"
          refine ⟨ty_dict71 e13r, ?_⟩
          walk_at "go"
          refine ⟨rw', pp, _, _, rfl, rfl, nrpp, e13r, epp13, by unfold nKV; rw [List.length_map, List.length_map]; omega, ?_⟩
          rw [merge_num pi'.nd dj]
          have kk : Keep rw' H13 (upd H13 rw' (.dK (nKV (l ++ l') fun x => if x ∈ l' then V.int ((g' x : Nat) : Int) else V.int ((gg x : Nat) : Int)))) := Keep.put
          refine ⟨_, _, l ++ l', fun x => if x ∈ l' then g' x else gg x, rfl, (p13.keep kk nrp.symm nrc).mono (by omega), fun b o hb nb => kk _ _ (k13 _ _ hb nb) (ne_of_none hb hrwH), ?_, ?_, pi.cat pi' dj⟩
          · obtain ⟨a, z1, z2⟩ := dt13.ex
            exact ⟨a, kk _ _ z1 ndr, fun c' hc' => kk _ _ (z2 c' hc') (ne_of (z2 c' hc') e13r (by intro z; cases z))⟩
          · rw [upd_same]
            congr 2
            refine nKV_congr fun z _ => ?_
            show (if z ∈ l' then V.int ((g' z : Nat) : Int) else V.int ((gg z : Nat) : Int)) = V.int (((if z ∈ l' then g' z else gg z) : Nat) : Int)
            split <;> rfl
        · walk_at "go"
          exact ⟨_, _, l, gg, rfl, p13.mono (by omega), k13, dt13, e13r, pi⟩
    · rintro σ H7 ⟨x6, x7, l, gg, rfl, p7, k7, dt7, e7, pi⟩
      walk_at "go"
      rw [Int.toNat_natCast]
      refine lc_gen (n := m) (b := fun _ => true) (it := fun k => .int ((k : Nat) : Int)) (f := fun k => .int (((if k ∈ l then gg k else k) : Nat) : Int)) (walk_rI (fun k => ((k : Nat) : Int)) (fun k => Int.zero_add _)) (fun _ _ => trivial) (by omega) (fun k' hk' Ha sa R r' => ?_) (fun k' hk' _ Ha sa R r' => ?_) (fun D H8 hD s8 e8 => ?_)
      · walk_at "go"
        exact r' Ha (Same.refl _)
      · walk_at "go"
        refine e_get71 ?_
        walk_at "go"
        refine ⟨rw', rfl, isD_num (sa _ _ e7), ?_⟩
        walk_at "go"
        by_cases cl : k' ∈ l
        · refine ⟨_, num_get (sa _ _ e7) cl, ?_⟩
          simp only [Option.getD_some]
          rw [if_pos cl] at r'
          exact r' Ha (Same.refl _)
        · refine ⟨_, num_not (sa _ _ e7) cl, ?_⟩
          simp only [Option.getD_none]
          rw [if_neg cl] at r'
          exact r' Ha (Same.refl _)
      rw [filter_yes] at e8
      have e8 : H8 D = some (.lst (numV (rowP m l gg))) := by
        rw [e8]
        unfold numV rowP
        rw [List.map_map]
        rfl
      have dt8 := dt7.same s8
      obtain ⟨a, z1, z2⟩ := dt8.ex
      walk_at "go"
      refine v_put (let_new71 z1 hnk (by omega)) fun H9 k9 e9 => ?_
      have nDd : D ≠ d := ne_of e8 z1 (by intro z; cases z)
      refine ⟨fun c' => if c' = c then rowP m l gg else r c', _, _, _, _, rfl, ((p7.same s8).keep k9 ndp.symm ndc).mono (by omega), fun b o hb nb => k9 _ _ (s8 _ _ (k7 _ _ hb nb)) (ne_of_none hb hdH), ?_, ?_⟩
      · rw [htk]
        refine ⟨fun c' => if c' = c then D else a c', ?_, fun c' hc' => ?_⟩
        · rw [e9]
          congr 2
          refine List.map_congr_left fun c' _ => ?_
          by_cases e : c' = c
          · simp only [if_pos e]
          · simp only [if_neg e]
        · by_cases e : c' = c
          · simp only [if_pos e]
            exact k9 _ _ e8 nDd
          · simp only [if_neg e]
            have m' : c' ∈ keys := (List.mem_append.mp hc').resolve_right fun z => e (List.mem_singleton.mp z)
            exact k9 _ _ (z2 c' m') (ne_of (z2 c' m') z1 (by intro z; cases z))
      · rw [htk]
        exact ro.snoc crB_sym hnk pi
  · rintro σ H2 ⟨r, x4, x5, x6, x7, rfl, p3, k3, dt3, ro⟩
    rw [List.take_length] at dt3 ro
    walk_at "go"
    exact k d r H2 hdH dt3 ro (p3.mono (by omega)) k3
end
end
section
open PySem PySem.Spec L2
theorem inV_num71 {c : Nat} : ∀ {l : List Nat}, inV (.int ((c : Nat) : Int)) (numV l) = decide (c ∈ l)
  | [] => by simp [inV, numV]
  | a :: r => by
    have ih := inV_num71 (c := c) (l := r)
    unfold inV at ih ⊢
    show ((V.int ((a : Nat) : Int) :: numV r).any _) = _
    rw [List.any_cons, ih]
    by_cases e : a = c
    · subst e
      simp [eqV]
    · have e2 : ¬ ((a : Nat) : Int) = ((c : Nat) : Int) := fun z => e (Int.ofNat.inj z)
      have e3 : ¬ c = a := fun z => e z.symm
      simp [eqV, e2, e3]
theorem flat_num71 (l : List Nat) : (numV l).all flatV = true := by
  unfold numV
  rw [List.all_map]
  exact List.all_eq_true.mpr fun _ _ => rfl
theorem v_notInN71 {K : PySem.W.Frag} {H : Hp} {Q : VK} {p : Addr} {l : List Nat} {c : Nat} (h : H p = some (.lst (numV l))) (q : Q (.bl (!decide (c ∈ l))) H) : rIn K true (.int ((c : Nat) : Int)) (.ref p) H Q :=
  ⟨p, _, rfl, .inl (SqL.of h), rfl, flat_num71 l, by rw [inV_num71]; exact q⟩
def spNumL71 (C : Addr) : Sp := fun vs H Q _ => ∃ (q d x y : Addr) (ks : List Nat) (gs : List (List Nat)) (keys : List Nat) (r : Nat → List Nat) (n first : Nat), vs = [.ref q, .ref d, .int ((first : Nat) : Int)] ∧ SceneAt C H q ks gs x y ∧ DicT H d keys r ∧ (∀ c ∈ ks, c ∈ keys) ∧ OkT n (ks.map r) ∧ ks.length ≤ 8 ∧ first < n ∧ n ≤ 1000 ∧
  ∀ t f u H', H t = none → H f = none → Same H H' → H' t = some (.tup [.ref f, .ref u]) → H' f = some (.lst (numV (bfs (ks.map r) n first))) → TabT H' u (numT (ks.map r) (bfs (ks.map r) n first)) → Q (.ref t) H'
section
variable {P : Program} {w : World} {K : PySem.W.Frag} {mg : Str → Option Value} {base : Heap} {C R O CL : Addr}
abbrev stnumbered71 : Stmt := (top 46)
abbrev Nnumbered71 : List Str := ["_law_scene_here", "_law_tables", "_law_first", "_law_found", "_law_at", "_law_door", "_law_rows", "_law_place"]
theorem scnumbered71 : FnScope Nnumbered71 ["_law_scene_here", "_law_tables", "_law_first"] (defScope stnumbered71) := ⟨rfl, rfl, rfl, by decide +kernel, rfl, by decide +kernel, by decide +kernel⟩

theorem ok_numbered71 (F : FnAt K mg "_law_numbered" stnumbered71) (T : TxtSc K mg C R O CL) : Def P w K mg base CX0 1 "_law_numbered" ["_law_scene_here", "_law_tables", "_law_first"] (spNumL71 C) := by
  refine F.ok scnumbered71 (fun _ _ _ _ _ _ us hl => match us, hl with | [_, _, _], _ => rfl) (fun vs H Q E h => ?_) (fun f cdv A outer s H vs Q E hr h => ?_)
  · obtain ⟨q, d, x, y, ks, gs, keys, r, n, first, rfl, _⟩ := h
    rfl
  obtain ⟨q, d, x, y, ks, gs, keys, r, n, first, rfl, sc, dt, hk, okT, k8, lf, ln, k⟩ := h
  have hu := hu_of hr
  have nd := scnumbered71.nd
  refine ⟨_, (pss_cons (ps_asg (pe_tup (pa_cons (pe_lst (pa_cons (pv 2) pa_nil)) (pa_cons pe_int pa_nil))) (pg_tup rfl (pgs_cons (pg_name (i := 3) nd rfl (Or.inr rfl)) (pgs_cons (pg_name (i := 4) nd rfl (Or.inl rfl)) pgs_nil))))
      (pss_cutS (ps_while PassesOwn.never (pt_cmpR op_lt (pv 4) (pe_callB (c_lenK (K := K) rfl) (by rfl) T.len PySem.boot_len (pa_cons (pv 3) pa_nil)) (nomark _))
      (pss_cons (ps_for PassesOwn.never rfl (pi_str (pe_dget hu (pv 0) pe_str (fun _ _ => rfl))) (pg_name (i := 5) nd rfl (Or.inr rfl))
        (pss_one (ps_if (pt_cmpR (op_notInLK (K := K) rfl) (pe_ix (ix_LK (K := K) rfl) (pe_dget hu (pv 1) (pv 5) (fun _ _ => rfl)) (pe_ix (ix_LK (K := K) rfl) (pv 3) (pv 4) (fun _ _ => rfl)) (fun _ _ => rfl)) (pv 3) (by rfl))
          (pss_one (ps_expr (pe_appK (K := K) rfl (pv 3) (pe_ix (ix_LK (K := K) rfl) (pe_dget hu (pv 1) (pv 5) (fun _ _ => rfl)) (pe_ix (ix_LK (K := K) rfl) (pv 3) (pv 4) (fun _ _ => rfl)) (fun _ _ => rfl)))))
          pss_nil)))
        (pss_one (ps_aug (i := 4) nd rfl (Or.inl rfl) pe_int ip_add))))
      (pss_cons (ps_set (i := 6) nd rfl (Or.inl rfl) (pe_lst pa_nil))
      (pss_cons (ps_for PassesOwn.never rfl (pi_str (pe_dget hu (pv 0) pe_str (fun _ _ => rfl))) (pg_name (i := 5) nd rfl (Or.inr rfl))
      (pss_one (ps_expr (pe_appK (K := K) rfl (pv 6) (pe_callTy (c_tupleK (K := K) rfl) (by rfl) T.tuple (by decide +kernel) (pa_cons (pe_lc (own := [("_law_place", 7)]) (g := gName 7) (by rfl) nd (pi_listK (K := K) rfl (pv 3)) (blkOk_by (own := [("_law_place", 7)]) (N := Nnumbered71) (sc := defScope stnumbered71) (by decide +kernel)) (fun _ _ _ _ _ => (pg_name (i := 7) nd rfl (Or.inl rfl))) (fun _ _ _ _ _ => pts_nil) (fun _ _ _ _ _ => (pe_indexK71 (K := K) rfl (pv 3) (pe_ix (ix_LK (K := K) rfl) (pe_dget hu (pv 1) (pv 5) (fun _ _ => rfl)) (pv 7) (fun _ _ => rfl))))) pa_nil))))))
      (pss_one (ps_ret (pe_tup (pa_cons (pv 3) (pa_cons (pe_callTy (c_tupleK (K := K) rfl) (by rfl) T.tuple (by decide +kernel) (pa_cons (pv 6) pa_nil)) pa_nil))))))))), ?_⟩
  refine s_start [some _, some _, some _, none, none, none, none, none] rfl ?_
  obtain ⟨l0, a1, a2⟩ := sc.ex
  obtain ⟨a, d1, d2⟩ := dt.ex
  have rT : ∀ c ∈ ks, r c ∈ ks.map r := fun c hc => List.mem_map.mpr ⟨c, hc, rfl⟩
  walk_at "go"
  intro fo H1 hfo s1 efo
  walk_at "go"
  intro tp H2 htp s2 etp
  refine v_gTup2 rfl etp ?_
  have s12 := s1.trans s2
  have efo := s2 _ _ efo
  clear etp s1 s2 htp
  walk_at "go"
  refine s_cut (fun σ H' => ∃ x4 x5 x6, σ = [some (.ref q), some (.ref d), some (.int ((first : Nat) : Int)), some (.ref fo), x4, x5, x6, none] ∧ Same H H' ∧ H' fo = some (.lst (numV (bfs (ks.map r) n first)))) ?_ ?_
  · refine s_while (fun m σ H' => ∃ i fd x5 x6, m + i = n + 1 ∧ σ = [some (.ref q), some (.ref d), some (.int ((first : Nat) : Int)), some (.ref fo), some (.int ((i : Nat) : Int)), x5, x6, none] ∧ FdOk n fd ∧ i ≤ fd.length ∧ fp (ks.map r) m i fd = bfs (ks.map r) n first ∧ H' fo = some (.lst (numV fd)) ∧ Same H H') (n + 1) ⟨0, [first], _, _, rfl, rfl, .one lf, Nat.zero_le _, rfl, efo, s12⟩ ?_
    rintro m σ H3 ⟨i, fd, x5, x6, hm, rfl, fok, li, efp, e3, s3⟩
    have lfd := fok.len
    walk_at "go"
    have lnm : (numV fd).length = fd.length := List.length_map _
    refine if_dec (fun c => ?_) (fun c => ?_)
    · have ci : i < fd.length := by omega
      obtain ⟨m', rfl⟩ : ∃ m', m = m' + 1 := ⟨m - 1, by omega⟩
      have hx : fd.getD i 0 < n := fok.lt _ (getD_mem ci)
      have efp2 : fp (ks.map r) m' (i + 1) (addT (ks.map r) (fd.getD i 0) fd) = bfs (ks.map r) n first := by
        rw [← efp]
        show _ = if i < fd.length then _ else _
        rw [if_pos ci]
      refine v_turn ?_
      generalize hxd : fd.getD i 0 = z at hx efp2
      walk_at "go"
      refine v_dget (sc_kinds (s3 _ _ a1)) ?_
      walk_at "go"
      refine for_it (walk_tx ks) (fun j σ H' => ∃ x5, σ = [some (.ref q), some (.ref d), some (.int ((first : Nat) : Int)), some (.ref fo), some (.int ((i : Nat) : Int)), x5, x6, none] ∧ FdOk n (addT ((ks.take j).map r) z fd) ∧ H' fo = some (.lst (numV (addT ((ks.take j).map r) z fd))) ∧ Same H H') ⟨_, rfl, fok, e3, s3⟩ (fun _ _ _ _ _ => trivial) ?_ ?_
      · rintro j v σ H4 H5 hj ⟨x5, rfl, fok4, e4, s4⟩ ⟨rfl, hv⟩
        obtain rfl : v = V.str (tx [ks.getD j 0]) := hv
        have hc : ks.getD j 0 ∈ ks := getD_mem hj
        have htk : ks.take (j + 1) = ks.take j ++ [ks.getD j 0] := take_getD hj
        generalize ks.getD j 0 = c' at hc htk
        have nx : addT ((ks.take (j + 1)).map r) z fd = if (r c').getD z 0 ∈ addT ((ks.take j).map r) z fd then addT ((ks.take j).map r) z fd else addT ((ks.take j).map r) z fd ++ [(r c').getD z 0] := by rw [htk, List.map_append, List.map_cons, List.map_nil, addT_snoc]
        obtain ⟨qq, hqq⟩ := addT_pre ((ks.take j).map r) z fd
        have gi : (addT ((ks.take j).map r) z fd).getD i 0 = z := by
          rw [hqq, List.getD_eq_getElem?_getD, List.getElem?_append_left ci, ← List.getD_eq_getElem?_getD, hxd]
        have li2 : i < (addT ((ks.take j).map r) z fd).length := by rw [hqq, List.length_append]; omega
        have lfd4 := fok4.len
        have er := s4 _ _ (d2 c' (hk c' hc))
        have gd : DGet H5 d (.str (tx [c'])) (some (.ref (a c'))) := dget_let (g := fun c => V.ref (a c)) (s4 _ _ d1) (hk c' hc)
        have lr := (okT _ (rT c' hc)).1
        generalize addT ((ks.take j).map r) z fd = fd4 at fok4 e4 nx gi li2 lfd4
        have gz : (numV fd4)[i]? = some (.int ((z : Nat) : Int)) := by rw [num_at li2, gi]
        have gp : (numV (r c'))[z]? = some (.int (((r c').getD z 0 : Nat) : Int)) := num_at (by omega)
        have hp : (r c').getD z 0 < n := okT.get (rT c' hc) hx
        generalize (r c').getD z 0 = pz at nx gp hp
        walk_at "go"
        refine v_ixL e4 (at_of (j := i) rfl gz) ?_
        refine v_ixL er (at_of (j := z) rfl gp) ?_
        walk_at "go"
        refine v_notInN71 e4 ?_
        by_cases c4 : pz ∈ fd4
        · rw [decide_eq_true c4]
          rw [if_pos c4] at nx
          refine ⟨_, rfl, ?_⟩
          rw [if_neg (by decide)]
          walk_at "go"
          exact ⟨_, rfl, by rw [nx]; exact fok4, by rw [nx]; exact e4, s4⟩
        · rw [decide_eq_false c4]
          rw [if_neg c4] at nx
          refine ⟨_, rfl, ?_⟩
          rw [if_pos (by decide)]
          walk_at "go"
          refine v_ixL e4 (at_of (j := i) rfl gz) ?_
          refine v_ixL er (at_of (j := z) rfl gp) ?_
          walk_at "go"
          refine v_app e4 (by unfold numV; rw [List.length_map]; omega) fun H7 k7 e7 => ?_
          refine ⟨_, rfl, by rw [nx]; exact fok4.snoc hp c4, ?_, fun b o hb => k7 _ _ (s4 _ _ hb) (ne_of_none hb hfo)⟩
          rw [nx, e7]
          unfold numV
          rw [List.map_append]
          rfl
      · rintro σ H4 ⟨x5, rfl, fok4, e4, s4⟩
        rw [List.take_length] at fok4 e4
        refine ⟨_, rfl, _, _, rfl, rfl, ?_⟩
        obtain ⟨qq, hqq⟩ := addT_pre (ks.map r) z fd
        exact ⟨m', Nat.lt_succ_self _, i + 1, addT (ks.map r) z fd, _, _, by omega, rfl, fok4, by rw [hqq, List.length_append]; omega, efp2, e4, s4⟩
    · walk_at "go"
      refine ⟨_, _, _, rfl, s3, ?_⟩
      have : i = fd.length := by omega
      have e : fp (ks.map r) m i fd = fd := by
        cases m with
        | zero => rfl
        | succ m =>
          show (if i < fd.length then _ else fd) = fd
          rw [if_neg (by omega)]
      rw [← efp, e]
      exact e3
  rintro σ H3 ⟨x4, x5, x6, rfl, s3, e3⟩
  walk_at "go"
  intro ro H4 hro s4 ero
  have s34 := s3.trans s4
  have e4 := s4 _ _ e3
  have hroH : H ro = none := Same.free s3 hro
  have nfr : fo ≠ ro := ne_of_none e3 hro
  have fok := bfs_ok okT lf
  have fcl := bfs_closed okT lf
  have lfd := fok.len
  clear e3 s3 s4 hro
  generalize bfs (ks.map r) n first = fd at *
  walk_at "go"
  refine v_dget (sc_kinds (s34 _ _ a1)) ?_
  walk_at "go"
  refine for_it (walk_tx ks) (fun j σ H' => ∃ x5, σ = [some (.ref q), some (.ref d), some (.int ((first : Nat) : Int)), some (.ref fo), x4, x5, some (.ref ro), none] ∧ H' fo = some (.lst (numV fd)) ∧ RefsL RowTu H' ro (((ks.take j).map r).map (rowN fd)) ∧ Same H H') ⟨_, rfl, e4, ⟨[], rfl, ero, fun _ z => nomatch z⟩, s34⟩ (fun _ _ _ _ _ => trivial) ?_ ?_
  · rintro j v σ H5 H6 hj ⟨x5, rfl, e6, rl, s6⟩ ⟨rfl, hv⟩
    obtain rfl : v = V.str (tx [ks.getD j 0]) := hv
    have hc : ks.getD j 0 ∈ ks := getD_mem hj
    have htk : ks.take (j + 1) = ks.take j ++ [ks.getD j 0] := take_getD hj
    have ltk : (ks.take j).length ≤ 8 := by rw [List.length_take]; omega
    generalize ks.getD j 0 = c' at hc htk
    generalize ks.take j = kt at rl htk ltk
    have er := s6 _ _ (d2 c' (hk c' hc))
    have gd : DGet H6 d (.str (tx [c'])) (some (.ref (a c'))) := dget_let (g := fun c => V.ref (a c)) (s6 _ _ d1) (hk c' hc)
    have lr := (okT _ (rT c' hc)).1
    obtain ⟨G, g1, g2, g3⟩ := rl.ex
    have lG : G.length = kt.length := by
      have := congrArg List.length g1
      rw [List.length_map, List.length_map, List.length_map] at this
      exact this
    walk_at "go"
    refine lc_gen (n := fd.length) (b := fun _ => true) (it := fun j => .int ((fd.getD j 0 : Nat) : Int)) (f := fun j => .int ((ixOf fd ((r c').getD (fd.getD j 0) 0) : Nat) : Int)) walk_numL (fun H' s' => SqL.of (s' _ _ e6)) (by omega) (fun j hj H7 s7 R' rr => ?_) (fun j hj _ H7 s7 R' rr => ?_) (fun D H7 hD s7 e7 => ?_)
    · walk_at "go"
      exact rr _ (Same.refl _)
    · have mj := getD_mem hj
      walk_at "go"
      refine v_dget (dget_let (g := fun c => V.ref (a c)) (s7 _ _ (s6 _ _ d1)) (hk c' hc)) ?_
      walk_at "go"
      refine v_ixL (s7 _ _ er) (at_of (j := fd.getD j 0) rfl (num_at (by rw [lr]; exact fok.lt _ mj))) ?_
      walk_at "go"
      refine v_indexL71 (s7 _ _ e6) (fcl _ mj _ (rT c' hc)) ?_
      exact rr _ (Same.refl _)
    rw [range_num fd fun p => ixOf fd ((r c').getD p 0)] at e7
    walk_at "go"
    refine v_tuple e7 fun q1 H8 hq1 s8 e8 => ?_
    have s68 := s7.trans s8
    walk_at "go"
    refine v_app (s68 _ _ g2) (by rw [List.length_map]; omega) fun H9 k9 e9 => ?_
    refine ⟨_, rfl, k9 _ _ (s68 _ _ e6) nfr, ⟨G ++ [(rowN fd (r c'), q1)], ?_, ?_, fun e he => ?_⟩, fun b o hb => k9 _ _ (s68 _ _ (s6 _ _ hb)) (ne_of_none hb hroH)⟩
    · rw [List.map_append, g1, htk, List.map_append, List.map_append]
      rfl
    · rw [e9]
      unfold refV
      rw [List.map_append]
      rfl
    · rcases List.mem_append.mp he with z | z
      · exact k9 _ _ (s68 _ _ (g3 e z)) (ne_of (g3 e z) g2 (by intro z; cases z))
      · rw [List.mem_singleton.mp z]
        exact k9 _ _ e8 (ne_of e8 (s68 _ _ g2) (by intro z; cases z))
  rintro σ H5 ⟨x5, rfl, e5, rl, s5⟩
  rw [List.take_length] at rl
  obtain ⟨G, g1, g2, g3⟩ := rl.ex
  walk_at "go"
  refine v_tuple g2 fun u H6 hu6 s6 eu => ?_
  walk_at "go"
  intro t H7 ht s7 et
  have s67 := s6.trans s7
  exact k t fo u H7 (Same.free (s5.trans s6) ht) hfo (s5.trans s67) et (s67 _ _ e5) ⟨G, g1, s7 _ _ eu, fun e he => s67 _ _ (g3 e he)⟩
end
end
section
open PySem PySem.Spec L2
def spLists71 (C : Addr) : Sp := fun vs H Q _ => ∃ (q d x y : Addr) (ks : List Nat) (gs : List (List Nat)) (keys : List Nat) (r : Nat → List Nat), vs = [.ref q, .ref d] ∧ SceneAt C H q ks gs x y ∧ DicT H d keys r ∧ (∀ c ∈ ks, c ∈ keys) ∧ ks.length ≤ 8 ∧
  ∀ p E H', H p = none → Same H H' → E.map (·.1) = ks.map r → H' p = some (.lst (refV E)) → (∀ e ∈ E, H' e.2 = some (.lst (numV e.1)) ∧ H e.2 = none) → Q (.ref p) H'
/-- an order of the kinds that keeps which of them cross -/
structure Pres (gs : List (List Nat)) (ks w : List Nat) : Prop where
  pm : w.Perm ks
  cr : ∀ i j, i < ks.length → j < i → crB gs (ks.getD i 0) (ks.getD j 0) = crB gs (w.getD i 0) (w.getD j 0)
section
variable {P : Program} {w : World} {K : PySem.W.Frag} {mg : Str → Option Value} {base : Heap} {C R O CL : Addr}
abbrev stlists71 : Stmt := (top 47)
abbrev Nlists71 : List Str := ["_law_scene_here", "_law_tables", "_law_door"]
theorem sclists71 : FnScope Nlists71 ["_law_scene_here", "_law_tables"] (defScope stlists71) := ⟨rfl, rfl, rfl, by decide +kernel, rfl, by decide +kernel, by decide +kernel⟩

theorem ok_lists71 (F : FnAt K mg "_law_lists" stlists71) (T : TxtSc K mg C R O CL) : Def P w K mg base CX0 1 "_law_lists" ["_law_scene_here", "_law_tables"] (spLists71 C) := by
  refine F.ok sclists71 (fun _ _ _ _ _ _ us hl => match us, hl with | [_, _], _ => rfl) (fun vs H Q E h => ?_) (fun f cdv A outer s H vs Q E hr h => ?_)
  · obtain ⟨q, d, x, y, ks, gs, keys, r, rfl, _⟩ := h
    rfl
  obtain ⟨q, d, x, y, ks, gs, keys, r, rfl, sc, dt, hk, k8, k⟩ := h
  have hu := hu_of hr
  have nd := sclists71.nd
  refine ⟨_, (pss_one (ps_ret (pe_lc (own := [("_law_door", 2)]) (g := gName 2) (by rfl) nd (pi_str (pe_dget hu (pv 0) pe_str (fun _ _ => rfl))) (blkOk_by (own := [("_law_door", 2)]) (N := Nlists71) (sc := defScope stlists71) (by decide +kernel)) (fun _ _ _ _ _ => (pg_name (i := 2) nd rfl (Or.inl rfl))) (fun _ _ _ _ _ => pts_nil) (fun _ _ _ _ _ => (pe_callTy (c_listK (K := K) rfl) (by rfl) T.list (by decide +kernel) (pa_cons (pe_dget hu (pv 1) (pv 2) (fun _ _ => rfl)) pa_nil)))))), ?_⟩
  refine s_start [some _, some _, none] rfl ?_
  obtain ⟨l0, a1, a2⟩ := sc.ex
  obtain ⟨a, d1, d2⟩ := dt.ex
  walk_at "go"
  refine v_dget (sc_kinds a1) ?_
  walk_at "go"
  refine lc_newL (n := ks.length) (it := fun j => V.str (tx [ks.getD j 0])) (f := fun j => numV (r (ks.getD j 0))) (walk_tx ks) (fun _ _ => trivial) (by omega) (fun j hj H1 s1 R rr => ?_) (fun j hj H1 s1 R rr => ?_) (fun D H1 vs hD s1 eD lv rv => ?_)
  · walk_at "go"
    exact rr H1 (Same.refl _)
  · have hc : ks.getD j 0 ∈ ks := getD_mem hj
    walk_at "go"
    refine v_dget (dget_let (g := fun c => V.ref (a c)) (s1 _ _ d1) (hk _ hc)) ?_
    walk_at "go"
    refine v_list (SqL.of (s1 _ _ (d2 _ (hk _ hc)))) fun p H2 hp s2 e2 => ?_
    exact rr p H2 hp s2 e2
  walk_at "go"
  obtain ⟨E, e1, rfl, e3⟩ := refs_of (R := fun H' p r' => H' p = some (.lst (numV r')) ∧ H p = none) (H := H1) (vs := vs) (D := ks.map r) (by rw [lv, List.length_map]) fun j v r' h1 h2 => by
    rw [List.getElem?_map] at h2
    obtain ⟨c, hc, rfl⟩ := Option.map_eq_some_iff.mp h2
    obtain ⟨p, rfl, h0, hp⟩ := rv j v h1
    have e : ks.getD j 0 = c := by rw [List.getD_eq_getElem?_getD, hc]; rfl
    rw [e] at hp
    exact ⟨p, rfl, hp, h0⟩
  exact k D E H1 hD s1 e1 eD e3
end
end
section
open PySem PySem.Spec L2
def PairAt (n2 : Nat) (H : Hp) (a : Addr) (z : Nat) : Prop := H a = some (pairO n2 z)
abbrev PairsL (n2 : Nat) (H : Hp) (p : Addr) (l : List Nat) : Prop := RefsL (PairAt n2) H p l
def folL (n2 : Nat) (T U : List (List Nat)) (z : Nat) : List Nat := (prodT n2 T U).map fun r => r.getD z 0
def spFol77 (CL : Addr) : Sp := fun vs H Q _ => ∃ (c1 c2 pr x1 x2 : Addr) (T U : List (List Nat)) (n1 n2 z : Nat), vs = [.ref c1, .ref c2, .ref pr] ∧ ClosedAt CL H c1 x1 T n1 ∧ ClosedAt CL H c2 x2 U n2 ∧ OkT n1 T ∧ OkT n2 U ∧ T.length = U.length ∧ T.length ≤ 1000 ∧ z < n1 * n2 ∧ PairAt n2 H pr z ∧
  ∀ p H', H p = none → Same H H' → PairsL n2 H' p (folL n2 T U z) → Q (.ref p) H'
structure TwoAt (CL : Addr) (H : Hp) (c1 c2 x1 x2 : Addr) (T U : List (List Nat)) (n1 n2 : Nat) : Prop where
  a : ClosedAt CL H c1 x1 T n1
  b : ClosedAt CL H c2 x2 U n2
  ok1 : OkT n1 T
  ok2 : OkT n2 U
  ll : T.length = U.length
  lT : T.length ≤ 1000
  p1 : 0 < n1
  p2 : 0 < n2
  hN : n1 * n2 ≤ 1000
theorem TwoAt.same {CL : Addr} {H H' : Hp} {c1 c2 x1 x2 : Addr} {T U : List (List Nat)} {n1 n2 : Nat} (h : TwoAt CL H c1 c2 x1 x2 T U n1 n2) (s : Same H H') : TwoAt CL H' c1 c2 x1 x2 T U n1 n2 := ⟨h.a.same s, h.b.same s, h.ok1, h.ok2, h.ll, h.lT, h.p1, h.p2, h.hN⟩
theorem prod_ok77 {T U : List (List Nat)} {n1 n2 : Nat} (ok1 : OkT n1 T) (ok2 : OkT n2 U) : OkT (n1 * n2) (prodT n2 T U) := by
  intro r hr
  obtain ⟨i, hi⟩ := List.mem_iff_getElem?.mp hr
  unfold prodT at hi
  rw [List.getElem?_zipWith] at hi
  cases g : T[i]? with
  | none => rw [g] at hi; cases hi
  | some r1 =>
    cases g' : U[i]? with
    | none => rw [g, g'] at hi; cases hi
    | some r2 =>
      rw [g, g'] at hi
      injection hi with hi
      subst hi
      have o1 := ok1 _ (List.mem_of_getElem? g)
      have m1 := List.mem_of_getElem? g
      have m2 := List.mem_of_getElem? g'
      unfold prodR
      rw [o1.1]
      refine ⟨by rw [List.length_map, List.length_range], fun v hv => ?_⟩
      obtain ⟨z, hz, rfl⟩ := List.mem_map.mp hv
      have d := dec_enc (List.mem_range.mp hz)
      exact enc_lt (ok1.get m1 d.1) (ok2.get m2 d.2.1)
theorem PairAt.keep {H H' : Hp} {n2 z : Nat} {a p : Addr} {o : HO} (h : PairAt n2 H a z) (k : Keep p H H') (e : H p = some o) (ne : pairO n2 z ≠ o) : PairAt n2 H' a z := k _ _ h fun c => by
  unfold PairAt at h
  rw [c, e] at h
  injection h with h
  exact ne h.symm
def spMet77 (CL : Addr) : Sp := fun vs H Q _ => ∃ (c1 c2 x1 x2 : Addr) (T U : List (List Nat)) (n1 n2 : Nat), vs = [.ref c1, .ref c2] ∧ TwoAt CL H c1 c2 x1 x2 T U n1 n2 ∧
  ∀ p H', H p = none → Same H H' → PairsL n2 H' p (bfs (prodT n2 T U) (n1 * n2) 0) → Q (.ref p) H'
section
variable {P : Program} {w : World} {K : PySem.W.Frag} {mg : Str → Option Value} {base : Heap} {C R O CL : Addr}
abbrev stfollowing_pairs : Stmt := (top 34)
abbrev Nfollowing_pairs : List Str := ["one", "other", "pair", "row", "line"]
theorem scfollowing_pairs : FnScope Nfollowing_pairs ["one", "other", "pair"] (defScope stfollowing_pairs) := ⟨rfl, rfl, rfl, by decide +kernel, rfl, by decide +kernel, by decide +kernel⟩

theorem ok_following_pairs (F : FnAt K mg "following_pairs" stfollowing_pairs) (T : TxtSc K mg C R O CL) : Def P w K mg base CX0 1 "following_pairs" ["one", "other", "pair"] (spFol77 CL) := by
  refine F.ok scfollowing_pairs (fun _ _ _ _ _ _ us hl => match us, hl with | [_, _, _], _ => rfl) (fun vs H Q E h => ?_) (fun f cdv A outer s H vs Q E hr h => ?_)
  · obtain ⟨c1, c2, pr, x1, x2, TT, U, n1, n2, z, rfl, _⟩ := h
    rfl
  obtain ⟨c1, c2, pr, x1, x2, TT, U, n1, n2, z, rfl, ca, cb, ok1, ok2, ll, l1000, hz, hpr, k⟩ := h
  have hu := hu_of hr
  have nd := scfollowing_pairs.nd
  refine ⟨_, (pss_one (ps_ret (pe_lc (own := [("row", 3), ("line", 4)]) (g := gTup K 2 (gCons (gName 3) (gCons (gName 4) (gNil)))) (by rfl) nd (RZ.pi_zipA (by rfl) T.zip (pa_cons (pe_flK (K := K) rfl (pv 0) rfl) (pa_cons (pe_flK (K := K) rfl (pv 1) rfl) pa_nil))) (blkOk_by (own := [("row", 3), ("line", 4)]) (N := Nfollowing_pairs) (sc := defScope stfollowing_pairs) (by decide +kernel)) (fun _ _ _ _ _ => (pg_tup rfl (pgs_cons (pg_name (i := 3) nd rfl (Or.inl rfl)) (pgs_cons (pg_name (i := 4) nd rfl (Or.inl rfl)) pgs_nil)))) (fun _ _ _ _ _ => pts_nil) (fun _ _ _ _ _ => (pe_tup (pa_cons (pe_ix (ix_TK (K := K) rfl) (pv 3) (pe_ix (ix_TK (K := K) rfl) (pv 2) pe_int (fun _ _ => rfl)) (fun _ _ => rfl)) (pa_cons (pe_ix (ix_TK (K := K) rfl) (pv 4) (pe_ix (ix_TK (K := K) rfl) (pv 2) pe_int (fun _ _ => rfl)) (fun _ _ => rfl)) pa_nil))))))), ?_⟩
  refine s_start [some _, some _, some _, none, none] rfl ?_
  obtain ⟨dx, fs, t1, q1, e1, e2, e3, e4, e5, e6⟩ := ca.ex
  obtain ⟨dy, gs, t2, q2, f1, f2, f3, f4, f5, f6⟩ := cb.ex
  obtain ⟨E1, a1, a2, a3⟩ := e5.ex
  obtain ⟨E2, b1, b2, b3⟩ := f5.ex
  have lE1 : E1.length = TT.length := by rw [← a1, List.length_map]
  have lE2 : E2.length = U.length := by rw [← b1, List.length_map]
  have hd := dec_enc hz
  unfold PairAt at hpr
  walk_at "go"
  refine e_iZipA ?_
  walk_at "go2"
  refine v_fld e1 T.Closed.cl T.nQt e3 ?_
  walk_at "go2"
  refine v_fld f1 T.Closed.cl T.nQt f3 ?_
  walk_at "go2"
  refine ⟨_, _, _, _, rfl, .inr ⟨SqT.of a2, SqT.of b2, ?_⟩⟩
  refine lc_zipNew (f := fun k => [.int (((TT.getD k []).getD (z / n2) 0 : Nat) : Int), .int (((U.getD k []).getD (z % n2) 0 : Nat) : Int)]) (show 3 ≠ 4 by decide) a2 b2 (by rw [List.length_map, List.length_map]; omega) (by rw [List.length_map]; omega) (fun k x y hx hy H1 s1 R rr => ?_) (fun k x y hx hy H1 s1 R rr => ?_) (fun D H1 vs hD s1 eD lv rv => ?_)
  · walk_at "go"
    exact rr H1 (Same.refl _)
  · rw [List.getElem?_map] at hx hy
    obtain ⟨i1, h1, rfl⟩ := Option.map_eq_some_iff.mp hx
    obtain ⟨i2, h2, rfl⟩ := Option.map_eq_some_iff.mp hy
    have r1 := a3 _ (List.mem_of_getElem? h1)
    have r2 := b3 _ (List.mem_of_getElem? h2)
    have t1 : TT[k]? = some i1.1 := by rw [← a1, List.getElem?_map, h1]; rfl
    have t2 : U[k]? = some i2.1 := by rw [← b1, List.getElem?_map, h2]; rfl
    have l1 := (ok1 _ (List.mem_of_getElem? t1)).1
    have l2 := (ok2 _ (List.mem_of_getElem? t2)).1
    walk_at "go"
    refine v_ixT (s1 _ _ hpr) (at_of (j := 0) rfl rfl) ?_
    refine v_ixT (s1 _ _ r1) (at_of (j := z / n2) rfl (num_at (by omega))) ?_
    walk_at "go"
    refine v_ixT (s1 _ _ hpr) (at_of (j := 1) rfl rfl) ?_
    refine v_ixT (s1 _ _ r2) (at_of (j := z % n2) rfl (num_at (by omega))) ?_
    walk_at "go"
    intro p H2 hp s2 ep
    refine rr p H2 hp s2 ?_
    have g1 : TT.getD k [] = i1.1 := by rw [List.getD_eq_getElem?_getD, t1]; rfl
    have g2 : U.getD k [] = i2.1 := by rw [List.getD_eq_getElem?_getD, t2]; rfl
    rw [ep, g1, g2]
  have lp : (prodT n2 TT U).length = TT.length := by unfold prodT; rw [List.length_zipWith]; omega
  refine k D H1 hD s1 ⟨?_⟩
  obtain ⟨E, g1, rfl, g3⟩ := refs_of (R := PairAt n2) (H := H1) (vs := vs) (D := folL n2 TT U z) (by unfold folL; rw [lv, List.length_map, List.length_map]; omega) fun i v d h1 h2 => by
    obtain ⟨p, rfl, hp⟩ := rv i v h1
    refine ⟨p, rfl, ?_⟩
    unfold folL at h2
    rw [List.getElem?_map] at h2
    obtain ⟨r, hr, rfl⟩ := Option.map_eq_some_iff.mp h2
    unfold prodT at hr
    rw [List.getElem?_zipWith] at hr
    cases g : TT[i]? with
    | none => rw [g] at hr; cases hr
    | some r1 =>
      cases g' : U[i]? with
      | none => rw [g, g'] at hr; cases hr
      | some r2 =>
        rw [g, g'] at hr
        injection hr with hr
        subst hr
        have o1 := ok1 _ (List.mem_of_getElem? g)
        have m2 := List.mem_of_getElem? g'
        have e := prodR_get (n2 := n2) (r1 := r1) (r2 := r2) (a := z / n2) (b := z % n2) o1.1 hd.1 hd.2.1
        rw [hd.2.2] at e
        unfold PairAt
        rw [e, hp]
        unfold pairO
        have lt := ok2.get m2 hd.2.1
        rw [enc_div lt, enc_mod lt, List.getD_eq_getElem?_getD (l := TT), List.getD_eq_getElem?_getD (l := U), g, g']
        rfl
  exact ⟨E, g1, eD, g3⟩
abbrev stmet_pairs : Stmt := (top 33)
abbrev Nmet_pairs : List Str := ["one", "other", "found", "seen", "at", "pair"]
theorem scmet_pairs : FnScope Nmet_pairs ["one", "other"] (defScope stmet_pairs) := ⟨rfl, rfl, rfl, by decide +kernel, rfl, by decide +kernel, by decide +kernel⟩

theorem ok_met_pairs (F : FnAt K mg "met_pairs" stmet_pairs) (T : TxtSc K mg C R O CL) (D_following_pairs : Def P w K mg base CX0 1 "following_pairs" ["one", "other", "pair"] (spFol77 CL)) : Def P w K mg base CX0 2 "met_pairs" ["one", "other"] (spMet77 CL) := by
  refine F.ok scmet_pairs (fun _ _ _ _ _ _ us hl => match us, hl with | [_, _], _ => rfl) (fun vs H Q E h => ?_) (fun f cdv A outer s H vs Q E hr h => ?_)
  · obtain ⟨c1, c2, x1, x2, TT, U, n1, n2, rfl, _⟩ := h
    rfl
  obtain ⟨c1, c2, x1, x2, TT, U, n1, n2, rfl, tw, k⟩ := h
  have hu := hu_of hr
  have nd := scmet_pairs.nd
  refine ⟨_, (pss_cons (ps_set (i := 2) nd rfl (Or.inl rfl) (pe_lst (pa_cons (pe_tup (pa_cons pe_int (pa_cons pe_int pa_nil))) pa_nil)))
      (pss_cons (ps_set (i := 3) nd rfl (Or.inl rfl) (pe_disp77 hu (pe_tup (pa_cons pe_int (pa_cons pe_int pa_nil))) pe_bl))
      (pss_cons (ps_set (i := 4) nd rfl (Or.inl rfl) pe_int)
      (pss_cutS (ps_while PassesOwn.never (pt_cmpR op_lt (pv 4) (pe_callB (c_lenK (K := K) rfl) (by rfl) T.len PySem.boot_len (pa_cons (pv 2) pa_nil)) (nomark _))
      (pss_cons (ps_for PassesOwn.never rfl (pi_listK (K := K) rfl (pe_cd D_following_pairs hr pass0 (pa_cons (pv 0) (pa_cons (pv 1) (pa_cons (pe_ix (ix_LK (K := K) rfl) (pv 2) (pv 4) (fun _ _ => rfl)) pa_nil))))) (pg_name (i := 5) nd rfl (Or.inl rfl))
        (pss_one (ps_if (pt_cmp (pc_dnotin hu (pv 5) (pv 3)))
          (pss_cons (ps_dput hu (pv 3) (pv 5) pe_bl rfl)
            (pss_one (ps_expr (pe_appK (K := K) rfl (pv 2) (pv 5)))))
          pss_nil)))
        (pss_one (ps_aug (i := 4) nd rfl (Or.inl rfl) pe_int ip_add))))
      (pss_one (ps_ret (pv 2))))))), ?_⟩
  refine s_start [some _, some _, none, none, none, none] rfl ?_
  have okT := prod_ok77 tw.ok1 tw.ok2
  have hN := tw.hN
  have lf : 0 < n1 * n2 := Nat.mul_pos tw.p1 tw.p2
  walk_at "go"
  intro p0 H1 hp0 s1 e1
  have z1 : PairAt n2 H1 p0 0 := by unfold PairAt; rw [e1]; unfold pairO; rw [Nat.zero_div, Nat.zero_mod]; rfl
  walk_at "go"
  intro fo H2 hfo s2 efo
  walk_at "go"
  refine e_disp77 fun se H3 hse s3 ese => ?_
  walk_at "go"
  intro p1 H4 hp1 s4 e4
  walk_at "go"
  refine ⟨pairK n2 0, p1, rfl, by rw [e4, pairK_V, Nat.zero_div, Nat.zero_mod]; rfl, s4 _ _ ese, ?_⟩
  have kse : Keep se H4 (upd H4 se (.dT [(pairK n2 0, V.bl true)])) := Keep.put
  have e5 : upd H4 se (.dT [(pairK n2 0, V.bl true)]) se = some (.dT (tKV n2 [0] fun _ => .bl true)) := upd_same
  generalize upd H4 se (.dT [(pairK n2 0, V.bl true)]) = H5 at kse e5
  have hfoH : H fo = none := Same.free s1 hfo
  have hseH : H se = none := Same.free (s1.trans s2) hse
  have nfs : fo ≠ se := ne_of_none efo hse
  have efo5 : H5 fo = some (.lst [.ref p0]) := kse _ _ (s4 _ _ (s3 _ _ efo)) nfs
  have z5 : PairAt n2 H5 p0 0 := (show PairAt n2 H4 p0 0 from s4 _ _ (s3 _ _ (s2 _ _ z1))).keep kse (s4 _ _ ese) (fun z => nomatch z)
  have s05 : Same H H5 := fun b o hb => kse _ _ (s4 _ _ (s3 _ _ (s2 _ _ (s1 _ _ hb)))) (ne_of_none hb hseH)
  walk_at "go"
  refine s_cut (fun σ H' => ∃ y4 y5, σ = [some (.ref c1), some (.ref c2), some (.ref fo), some (.ref se), y4, y5] ∧ Same H H' ∧ PairsL n2 H' fo (bfs (prodT n2 TT U) (n1 * n2) 0)) ?_ ?_
  · refine s_while (fun m σ H' => ∃ i fd y5, m + i = n1 * n2 + 1 ∧ σ = [some (.ref c1), some (.ref c2), some (.ref fo), some (.ref se), some (.int ((i : Nat) : Int)), y5] ∧ FdOk (n1 * n2) fd ∧ i ≤ fd.length ∧ fp (prodT n2 TT U) m i fd = bfs (prodT n2 TT U) (n1 * n2) 0 ∧ PairsL n2 H' fo fd ∧ H' se = some (.dT (tKV n2 fd fun _ => .bl true)) ∧ Same H H') (n1 * n2 + 1) ⟨0, [0], _, rfl, rfl, .one lf, Nat.zero_le _, rfl, ⟨[(0, p0)], rfl, efo5, fun e he => by rw [List.mem_singleton.mp he]; exact z5⟩, e5, s05⟩ ?_
    rintro m σ H6 ⟨i, fd, y5, hm, rfl, fok, li, efp, ⟨E, a1, a2, a3⟩, e2', s6⟩
    have lfd := fok.len
    have lE : (refV E).length = fd.length := by rw [List.length_map, ← a1, List.length_map]
    walk_at "go"
    refine if_dec (fun c => ?_) (fun c => ?_)
    · have ci : i < fd.length := by omega
      obtain ⟨m', rfl⟩ : ∃ m', m = m' + 1 := ⟨m - 1, by omega⟩
      have hx : fd.getD i 0 < n1 * n2 := fok.lt _ (getD_mem ci)
      have efp2 : fp (prodT n2 TT U) m' (i + 1) (addT (prodT n2 TT U) (fd.getD i 0) fd) = bfs (prodT n2 TT U) (n1 * n2) 0 := by
        rw [← efp]
        show _ = if i < fd.length then _ else _
        rw [if_pos ci]
      refine v_turn ?_
      have liE : i < E.length := by rw [List.length_map] at lE; omega
      obtain ⟨e0, hE⟩ : ∃ e0, E[i]? = some e0 := ⟨_, List.getElem?_eq_getElem liE⟩
      have hEz : e0.1 = fd.getD i 0 := by rw [List.getD_eq_getElem?_getD, ← a1, List.getElem?_map, hE]; rfl
      have hEp := a3 _ (List.mem_of_getElem? hE)
      rw [hEz] at hEp
      generalize hxd : fd.getD i 0 = x at hx efp2 hEp
      walk_at "go"
      refine v_ixL a2 (at_of (j := i) rfl (by rw [List.getElem?_map, hE]; rfl)) ?_
      walk_at "go"
      have tw6 := tw.same s6
      refine ⟨c1, c2, e0.2, x1, x2, TT, U, n1, n2, x, rfl, tw6.a, tw6.b, tw.ok1, tw.ok2, tw.ll, tw.lT, hx, hEp, fun nl H7 hnl s7 ⟨E7, b1, b2, b3⟩ => ?_⟩
      have s07 := s6.trans s7
      have lE7 : E7.length = (prodT n2 TT U).length := by rw [← List.length_map (f := (·.1)) (as := E7), b1]; exact List.length_map _
      have nnf : nl ≠ fo := (ne_of_none a2 hnl).symm
      have nns : nl ≠ se := (ne_of_none e2' hnl).symm
      have a2' := s7 _ _ a2
      have e27 := s7 _ _ e2'
      have a3' : ∀ e ∈ E, PairAt n2 H7 e.2 e.1 := fun e he => s7 _ _ (a3 e he)
      refine ⟨nl, rfl, ⟨_, SqL.of b2⟩, ?_⟩
      refine for_it (walk_refE (K := K) (t := nl) (E := E7)) (fun j σ H' => ∃ y5 EE, σ = [some (.ref c1), some (.ref c2), some (.ref fo), some (.ref se), some (.int ((i : Nat) : Int)), y5] ∧ EE.map (·.1) = addT ((prodT n2 TT U).take j) x fd ∧ FdOk (n1 * n2) (addT ((prodT n2 TT U).take j) x fd) ∧ H' fo = some (.lst (refV EE)) ∧ (∀ e ∈ EE, PairAt n2 H' e.2 e.1) ∧ H' se = some (.dT (tKV n2 (addT ((prodT n2 TT U).take j) x fd) fun _ => .bl true)) ∧ Same H H' ∧ H' nl = some (.lst (refV E7)) ∧ ∀ e ∈ E7, PairAt n2 H' e.2 e.1) ⟨_, E, rfl, a1, fok, a2', a3', e27, s07, b2, b3⟩ ?_ ?_ ?_
      · rintro j σ H' _ ⟨_, _, _, _, _, _, _, _, _, h8, _⟩
        exact SqL.of h8
      · rintro j v σ H8 H9 hj ⟨y5, EE, rfl, g1, fok4, g2, g3, g4, s8, g5, g6⟩ ⟨rfl, e, he, rfl⟩
        have er := g6 e (List.mem_of_getElem? he)
        have hj2 : j < (prodT n2 TT U).length := by omega
        obtain ⟨r, hr⟩ : ∃ r, (prodT n2 TT U)[j]? = some r := ⟨_, List.getElem?_eq_getElem hj2⟩
        have ez : e.1 = r.getD x 0 := by
          have q := congrArg (fun l => l[j]?) b1
          unfold folL at q
          simp only [List.getElem?_map, he, hr, Option.map_some] at q
          injection q
        have hp : r.getD x 0 < n1 * n2 := okT.get (List.mem_of_getElem? hr) hx
        rw [ez] at er
        have nx : addT ((prodT n2 TT U).take (j + 1)) x fd = if r.getD x 0 ∈ addT ((prodT n2 TT U).take j) x fd then addT ((prodT n2 TT U).take j) x fd else addT ((prodT n2 TT U).take j) x fd ++ [r.getD x 0] := by rw [take_succ_get hr, addT_snoc]
        have l4 := fok4.len
        generalize addT ((prodT n2 TT U).take j) x fd = fd4 at *
        walk_at "go"
        by_cases c4 : r.getD x 0 ∈ fd4
        · refine v_dnotin (pair_get g4 er c4) ?_
          rw [if_pos c4] at nx
          walk_at "go"
          exact ⟨_, EE, rfl, by rw [nx]; exact g1, by rw [nx]; exact fok4, g2, g3, by rw [nx]; exact g4, s8, g5, g6⟩
        · refine v_dnotin (pair_not g4 er c4) ?_
          rw [if_neg c4] at nx
          try walk_at "go"
          rw [if_pos (show (!(none : Option V).isSome) = true from rfl)]
          walk_at "go"
          refine v_put (pair_put g4 er c4 (by omega)) fun H10 k10 e10 => ?_
          walk_at "go"
          have g2' := k10 _ _ g2 nfs
          have lEE : (refV EE).length = fd4.length := by rw [List.length_map, ← g1, List.length_map]
          refine v_app g2' (by omega) fun H11 k11 e11 => ?_
          have kp : ∀ a z, PairAt n2 H9 a z → PairAt n2 H11 a z := fun a z q => (q.keep k10 g4 (fun z => nomatch z)).keep k11 g2' (fun z => nomatch z)
          refine ⟨_, EE ++ [(r.getD x 0, e.2)], rfl, by rw [nx, List.map_append, g1]; rfl, by rw [nx]; exact fok4.snoc hp c4, ?_, fun e' he' => ?_, ?_, fun b o hb => k11 _ _ (k10 _ _ (s8 _ _ hb) (ne_of_none hb hseH)) (ne_of_none hb hfoH), k11 _ _ (k10 _ _ g5 nns) nnf, fun e' he' => kp _ _ (g6 e' he')⟩
          · rw [e11]
            refine congrArg (fun z => some (HO.lst z)) ?_
            show _ = List.map _ (EE ++ _)
            rw [List.map_append]
            rfl
          · rcases List.mem_append.mp he' with h | h
            · exact kp _ _ (g3 e' h)
            · rw [List.mem_singleton.mp h]
              exact kp _ _ er
          · rw [nx, k11 _ _ e10 nfs.symm]
            refine congrArg (fun z => some (HO.dT z)) ?_
            unfold tKV
            exact List.map_congr_left fun c _ => by simp
      · rintro σ H8 ⟨y5, EE, rfl, g1, fok4, g2, g3, g4, s8, g5, g6⟩
        rw [List.take_of_length_le (by omega)] at g1 fok4 g4
        obtain ⟨qq, hqq⟩ := addT_pre (prodT n2 TT U) x fd
        refine ⟨_, rfl, _, _, rfl, rfl, ?_⟩
        exact ⟨m', Nat.lt_succ_self _, i + 1, addT (prodT n2 TT U) x fd, _, by omega, rfl, fok4, by rw [hqq, List.length_append]; omega, efp2, ⟨EE, g1, g2, g3⟩, g4, s8⟩
    · have : i = fd.length := by omega
      have efd : fd = bfs (prodT n2 TT U) (n1 * n2) 0 := by
        rw [← efp]
        cases m with
        | zero => rfl
        | succ m =>
          show fd = if i < fd.length then _ else fd
          rw [if_neg (by omega)]
      exact ⟨_, _, rfl, s6, ⟨E, by rw [← efd]; exact a1, a2, a3⟩⟩
  · rintro σ' H6 ⟨y4, y5, rfl, s6, pl⟩
    walk_at "go"
    exact k fo H6 hfoH s6 pl
end
end
section
open PySem PySem.Spec L2
def spPairF77 (C CL : Addr) : Sp := fun vs H Q _ => ∃ (c1 c2 pl x1 x2 : Addr) (ks : List Nat) (ps T U : List (List Nat)) (n1 n2 : Nat), vs = [.ref c1, .ref c2, .ref pl] ∧ TwoAt CL H c1 c2 x1 x2 T U n1 n2 ∧ PlanAt C H x1 ks ps ∧ ks.Nodup ∧ Flo ks ps T n1 ∧ Flo ks ps U n2 ∧ ks.length ≤ 8 ∧ PairsL n2 H pl (bfs (prodT n2 T U) (n1 * n2) 0) ∧
  ∀ c H', H c = none → Same H H' → ClosedAt CL H' c x1 (pairT n1 n2 T U) (pairM n1 n2 T U) → Q (.ref c) H'
theorem PairsL.same {H H' : Hp} {n2 : Nat} {p : Addr} {l : List Nat} (h : PairsL n2 H p l) (s : Same H H') : PairsL n2 H' p l := RefsL.same h s fun _ _ e => s _ _ e
theorem PairsL.keepD {H H' : Hp} {n2 : Nat} {p D : Addr} {l : List Nat} {xs : List V} (h : PairsL n2 H p l) (np : p ≠ D) (e : H D = some (.lst xs)) (k : Keep D H H') : PairsL n2 H' p l := by
  obtain ⟨E, a1, a2, a3⟩ := h.ex
  exact ⟨E, a1, k _ _ a2 np, fun e' he => (a3 e' he).keep k e (fun z => nomatch z)⟩
section
variable {P : Program} {w : World} {K : PySem.W.Frag} {mg : Str → Option Value} {base : Heap} {C R O CL : Addr}
abbrev stpair_floor : Stmt := (top 35)
abbrev Npair_floor : List Str := ["one", "other", "pairs", "numbers", "rows", "at", "pair", "row"]
theorem scpair_floor : FnScope Npair_floor ["one", "other", "pairs"] (defScope stpair_floor) := ⟨rfl, rfl, rfl, by decide +kernel, rfl, by decide +kernel, by decide +kernel⟩

theorem ok_pair_floor (F : FnAt K mg "pair_floor" stpair_floor) (T : TxtSc K mg C R O CL) (C_Closed : CDef P w K mg base CX0 4 "Closed" CL (spClosed K C CL)) (D_following_pairs : Def P w K mg base CX0 1 "following_pairs" ["one", "other", "pair"] (spFol77 CL)) : Def P w K mg base CX0 6 "pair_floor" ["one", "other", "pairs"] (spPairF77 C CL) := by
  refine F.ok scpair_floor (fun _ _ _ _ _ _ us hl => match us, hl with | [_, _, _], _ => rfl) (fun vs H Q E h => ?_) (fun f cdv A outer s H vs Q E hr h => ?_)
  · obtain ⟨c1, c2, pl, x1, x2, ks, ps, TT, U, n1, n2, rfl, _⟩ := h
    rfl
  obtain ⟨c1, c2, pl, x1, x2, ks, ps, TT, U, n1, n2, rfl, tw, pa, knd, fT, fU, k8, pls, k⟩ := h
  have hu := hu_of hr
  have nd := scpair_floor.nd
  replace D_following_pairs := D_following_pairs.mono (show 1 ≤ 5 by decide)
  refine ⟨_, (pss_cons (ps_set (i := 3) nd rfl (Or.inr rfl) (pe_dc77 hu (own := [("at", 5), ("pair", 6)]) (g := gTup K 2 (gCons (gName 5) (gCons (gName 6) (gNil)))) (by rfl) nd (pi_enum (by rfl) T.enumerate (pa_cons (pv 2) pa_nil)) (blkOk_by (own := [("at", 5), ("pair", 6)]) (N := Npair_floor) (sc := defScope stpair_floor) (by decide +kernel)) (fun _ _ _ _ _ => (pg_tup rfl (pgs_cons (pg_name (i := 5) nd rfl (Or.inl rfl)) (pgs_cons (pg_name (i := 6) nd rfl (Or.inl rfl)) pgs_nil)))) (fun _ _ _ _ _ => pts_nil) (fun _ _ _ _ _ => (pv 6)) (fun _ _ _ _ _ => (pv 5))))
      (pss_cons (ps_set (i := 4) nd rfl (Or.inr rfl) (pe_lc (own := [("pair", 6)]) (g := gName 6) (by rfl) nd (pi_listK (K := K) rfl (pv 2)) (blkOk_by (own := [("pair", 6)]) (N := Npair_floor) (sc := defScope stpair_floor) (by decide +kernel)) (fun _ _ _ _ _ => (pg_name (i := 6) nd rfl (Or.inl rfl))) (fun _ _ _ _ _ => pts_nil) (fun _ _ _ _ _ => (pe_cd D_following_pairs hr pass0 (pa_cons (pv 0) (pa_cons (pv 1) (pa_cons (pv 6) pa_nil)))))))
      (pss_one (ps_ret (pe_mk C_Closed hr pass0 (pa_cons (pe_flK (K := K) rfl (pv 0) rfl) (pa_cons (pe_lc (own := [("at", 5)]) (g := gName 5) (by rfl) nd (pi_range1 (by rfl) T.range (pa_cons (pe_callB c_lenS (by rfl) T.len PySem.boot_len (pa_cons (pe_flK (K := K) rfl (pe_flK (K := K) rfl (pv 0) rfl) rfl) pa_nil)) pa_nil)) (blkOk_by (own := [("at", 5)]) (N := Npair_floor) (sc := defScope stpair_floor) (by decide +kernel)) (fun _ _ _ _ _ => (pg_name (i := 5) nd rfl (Or.inr rfl))) (fun _ _ _ _ _ => pts_nil) (fun _ _ _ _ _ => (pe_lc (own := [("row", 7)]) (g := gName 7) (by rfl) nd (pi_listK (K := K) rfl (pv 4)) (blkOk_by (own := [("row", 7)]) (N := Npair_floor) (sc := { kind := .function, names := [(".0", .local), ("at", .cell), ("numbers", .cell), ("rows", .cell)], isGenerator := false, isCoroutine := false }) (by decide +kernel)) (fun _ _ _ _ _ => (pg_name (i := 7) nd rfl (Or.inl rfl))) (fun _ _ _ _ _ => pts_nil) (fun _ _ _ _ _ => (pe_dget hu (pv 3) (pe_ix (ix_LK (K := K) rfl) (pv 7) (pv 5) (fun _ _ => rfl)) (fun _ _ => rfl)))))) pa_nil))))))), ?_⟩
  refine s_start [some _, some _, some _, none, none, none, none, none] rfl ?_
  have okT := prod_ok77 tw.ok1 tw.ok2
  have hN := tw.hN
  have lf : 0 < n1 * n2 := Nat.mul_pos tw.p1 tw.p2
  have fok := bfs_ok (n := n1 * n2) (x := 0) okT lf
  have fcl := bfs_closed okT lf
  have lfd := fok.len
  obtain ⟨E, a1, a2, a3⟩ := pls.ex
  obtain ⟨fl, _⟩ := and_is knd fT fU hN
  have lPT : (prodT n2 TT U).length = ks.length := by unfold prodT; rw [List.length_zipWith, fT.good.lT, fU.good.lT]; omega
  unfold pairT pairM at fl k
  generalize hfd : bfs (prodT n2 TT U) (n1 * n2) 0 = fd at *
  have lE : E.length = fd.length := by rw [← a1, List.length_map]
  walk_at "go"
  refine e_iEnumL ?_
  walk_at "go"
  refine ⟨pl, refV E, rfl, SqL.of a2, ?_⟩
  refine dc_pairE (E := E) (n2 := n2) (show 5 ≠ 6 by decide) fok.nd a1 a2 (fun e he => a3 e he) (by omega) (fun σ' H' R r => r) (fun kk x H' R r => ⟨_, rfl, r⟩) (fun kk x H' R r => ⟨_, rfl, r⟩) (fun d H1 hd s1 ed => ?_)
  walk_at "go"
  have w1 := walk_refE (K := K) (t := pl) (E := E)
  refine lc_newR (n := E.length) (it := fun j => (refV E).getD j .non) (fun j H' p => ∃ e, E[j]? = some e ∧ PairsL n2 H' p (folL n2 TT U e.1)) (fun j p H2 H3 ⟨e, he, z⟩ s => ⟨e, he, z.same s⟩) (fun j p H2 H3 D l ⟨e, he, z⟩ np e0 kp => ⟨e, he, z.keepD np e0 kp⟩) (w1.mono (G' := fun H' => Same H1 H') (fun H' s => SqL.of (s _ _ (s1 _ _ a2))) fun j H' v H2 hj _ y => ⟨y.1, by obtain ⟨_, e, he, rfl⟩ := y; exact (refV_get he).symm⟩) (fun _ s => s) (by omega) (fun j hj H2 s2 R r => ?_) (fun j hj H2 s2 R r => ?_) (fun rw' H2 vs hrw s2 erw lv rv => ?_)
  · walk_at "go"
    exact r H2 (Same.refl _)
  · obtain ⟨e, he⟩ : ∃ e, E[j]? = some e := ⟨_, List.getElem?_eq_getElem hj⟩
    rw [refV_get he]
    walk_at "go"
    obtain ⟨es, he2, ep⟩ : ∃ z, e = z ∧ PairAt n2 H2 z.2 z.1 := ⟨e, rfl, s2 _ _ (s1 _ _ (a3 e (List.mem_of_getElem? he)))⟩
    have hm : e.1 ∈ fd := by rw [← a1]; exact List.mem_map.mpr ⟨e, List.mem_of_getElem? he, rfl⟩
    have tw2 := tw.same (s1.trans s2)
    subst he2
    refine ⟨c1, c2, e.2, x1, x2, TT, U, n1, n2, e.1, rfl, tw2.a, tw2.b, tw.ok1, tw.ok2, tw.ll, tw.lT, fok.lt _ hm, ep, fun p H3 hp s3 pp => ?_⟩
    exact r p H3 hp s3 ⟨e, he, pp⟩
  have s02 := s1.trans s2
  obtain ⟨G, g1, rfl, g3⟩ := refs_of (R := fun H' p z => PairsL n2 H' p (folL n2 TT U z)) (H := H2) (vs := vs) (D := fd) (by rw [lv]; exact lE) fun j v z h1 h2 => by
    obtain ⟨p, rfl, _, e, he, hp⟩ := rv j v h1
    rw [← a1, List.getElem?_map, he] at h2
    injection h2 with h2
    subst h2
    exact ⟨p, rfl, hp⟩
  have lG : G.length = fd.length := by rw [← g1, List.length_map]
  obtain ⟨dx, fs, t1, q1, e1, e2, e3, e4, e5, e6⟩ := tw.a.ex
  obtain ⟨dp, tp, dd, p1, p2, p3⟩ := pa.ex
  walk_at "go2"
  refine v_fld (s02 _ _ e1) T.Closed.cl T.nQp e2 ?_
  walk_at "go2"
  refine v_fld (s02 _ _ e1) T.Closed.cl T.nQp e2 ?_
  walk_at "go2"
  refine v_fld (s02 _ _ p1) T.Plan.cl T.nK planF_k ?_
  walk_at "go2"
  rw [Int.toNat_natCast]
  refine lc_newL (n := ks.length) (it := fun j => .int ((j : Nat) : Int)) (f := fun j => numV (rowN fd ((prodT n2 TT U).getD j []))) (walk_rI (fun k => ((k : Nat) : Int)) (fun k => Int.zero_add _)) (fun _ _ => trivial) (by omega) (fun j hj H3 s3 R r => ?_) (fun j hj H3 s3 R r => ?_) (fun tl H3 vs3 htl s3 etl lv3 rv3 => ?_)
  · walk_at "go"
    exact r H3 (Same.refl _)
  · walk_at "go"
    obtain ⟨r0, hr0⟩ : ∃ r0, (prodT n2 TT U)[j]? = some r0 := ⟨_, List.getElem?_eq_getElem (by omega)⟩
    have er0 : (prodT n2 TT U).getD j [] = r0 := by rw [List.getD_eq_getElem?_getD, hr0]; rfl
    have m0 := List.mem_of_getElem? hr0
    have erw3 := s3 _ _ erw
    have ed3 := s3 _ _ (s2 _ _ ed)
    rw [er0] at r
    refine lc_refsL (E := G) (R' := fun _ v z => v = .int ((ixOf fd (r0.getD z 0) : Nat) : Int)) erw3 (by omega) (fun v z H4 H5 h s => h) (fun v z H4 H5 D l h e0 kp => h) (fun e he H4 s4 R r => ?_) (fun e he H4 s4 R r => ?_) (fun D H4 vs4 hD s4 eD lv4 rv4 => ?_)
    · walk_at "go"
      exact r _ (Same.refl _)
    · have hm : e.1 ∈ fd := by rw [← g1]; exact List.mem_map.mpr ⟨e, he, rfl⟩
      obtain ⟨E', c1', c2', c3'⟩ := ((g3 e he).same (s3.trans s4)).ex
      have hfj : (folL n2 TT U e.1)[j]? = some (r0.getD e.1 0) := by unfold folL; rw [List.getElem?_map, hr0]; rfl
      rw [← c1', List.getElem?_map] at hfj
      obtain ⟨y, hy, ey⟩ := Option.map_eq_some_iff.mp hfj
      have hyp := c3' _ (List.mem_of_getElem? hy)
      rw [ey] at hyp
      walk_at "go"
      refine v_ixL c2' (at_of (j := j) rfl (by rw [List.getElem?_map, hy]; rfl)) ?_
      refine v_dget (pair_get (s4 _ _ ed3) hyp (fcl _ hm _ m0)) ?_
      exact r _ _ (Same.refl _) rfl
    refine r D H4 hD s4 ?_
    rw [eD]
    refine congrArg (fun z => some (HO.lst z)) ?_
    refine List.ext_getElem? fun l => ?_
    unfold numV rowN
    rw [List.getElem?_map, List.getElem?_map, ← g1, List.getElem?_map]
    cases hv : vs4[l]? with
    | none =>
      have : G[l]? = none := List.getElem?_eq_none (by have := List.getElem?_eq_none_iff.mp hv; omega)
      rw [this]
      rfl
    | some v =>
      have ll := (List.getElem?_eq_some_iff.mp hv).1
      have hG : G[l]? = some G[l] := List.getElem?_eq_getElem (by omega)
      rw [hG, rv4 l v _ hv hG, g1]
      rfl
  have lPn : (numT (prodT n2 TT U) fd).length = ks.length := by unfold numT; rw [List.length_map]; exact lPT
  obtain ⟨GT, gt1, rfl, gt3⟩ := refs_of (R := fun H' p r => H' p = some (.lst (numV r))) (H := H3) (vs := vs3) (D := numT (prodT n2 TT U) fd) (by rw [lv3, lPn]) fun j v r h1 h2 => by
    obtain ⟨p, rfl, _, hp⟩ := rv3 j v h1
    refine ⟨p, rfl, ?_⟩
    unfold numT at h2
    rw [List.getElem?_map] at h2
    obtain ⟨r0, hr0, rfl⟩ := Option.map_eq_some_iff.mp h2
    rw [hp, List.getD_eq_getElem?_getD, hr0]
    rfl
  have s03 := s02.trans s3
  walk_at "go"
  refine ⟨x1, tl, ks, ps, numT (prodT n2 TT U) fd, fd.length, rfl, fl.good.arg (pa.same s03) ⟨GT, gt1, .inl etl, fun e he => .inl (gt3 e he)⟩, fun c H4 hc s4 ca => ?_⟩
  rw [fl.num, fl.can, List.length_range] at ca
  exact k c H4 (Same.free s03 hc) (s03.trans s4) ca
end
end
section
open PySem PySem.Spec L2
def spMrow77 : Sp := fun vs H Q _ => ∃ (rw' mp : Addr) (r mk : List Nat), vs = [.ref rw', .ref mp] ∧ H rw' = some (.tup (numV r)) ∧ H mp = some (.lst (numV mk)) ∧ r.length = mk.length ∧ (∀ p, p < mk.length → r.getD p 0 < mk.length) ∧ mk.length ≤ 1000 ∧ (∀ p q, p < mk.length → q < mk.length → mk.getD p 0 = mk.getD q 0 → mk.getD (r.getD p 0) 0 = mk.getD (r.getD q 0) 0) ∧
  ∀ p H' R, H p = none → Same H H' → H' p = some (.lst (numV R)) → R.length = (uniq77 [] mk).length → (∀ q, q < mk.length → R.getD (cls77 mk q) 0 = cls77 mk (r.getD q 0)) → Q (.ref p) H'
section
variable {P : Program} {w : World} {K : PySem.W.Frag} {mg : Str → Option Value} {base : Heap} {C R O CL : Addr}
abbrev stmerged_row : Stmt := (top 37)
abbrev Nmerged_row : List Str := ["row", "marks", "numbers", "mark", "found", "place", "target", "at"]
theorem scmerged_row : FnScope Nmerged_row ["row", "marks"] (defScope stmerged_row) := ⟨rfl, rfl, rfl, by decide +kernel, rfl, by decide +kernel, by decide +kernel⟩

theorem ok_merged_row (F : FnAt K mg "merged_row" stmerged_row) (T : TxtSc K mg C R O CL) : Def P w K mg base CX0 1 "merged_row" ["row", "marks"] spMrow77 := by
  refine F.ok scmerged_row (fun _ _ _ _ _ _ us hl => match us, hl with | [_, _], _ => rfl) (fun vs H Q E h => ?_) (fun f cdv A outer s H vs Q E hr h => ?_)
  · obtain ⟨rw', mp, r, mk, rfl, _⟩ := h
    rfl
  obtain ⟨rw', mp, r, mk, rfl, er, em, lr, lt, m1000, hom, k⟩ := h
  have hu := hu_of hr
  have nd := scmerged_row.nd
  refine ⟨_, (pss_cons (ps_set (i := 2) nd rfl (Or.inl rfl) pe_dnewK)
      (pss_cons (ps_for PassesOwn.never rfl (pi_listK (K := K) rfl (pv 1)) (pg_name (i := 3) nd rfl (Or.inl rfl))
      (pss_one (ps_expr (pe_setd77 (pv 2) (pv 3) (pe_callB c_lenD (by rfl) T.len PySem.boot_len (pa_cons (pv 2) pa_nil))))))
      (pss_cons (ps_set (i := 4) nd rfl (Or.inr rfl) pe_dnewK)
      (pss_cons (ps_for PassesOwn.never rfl (pi_enumT (by rfl) T.enumerate (pa_cons (pv 0) pa_nil)) (pg_tup rfl (pgs_cons (pg_name (i := 5) nd rfl (Or.inl rfl)) (pgs_cons (pg_name (i := 6) nd rfl (Or.inl rfl)) pgs_nil)))
      (pss_one (ps_dput hu (pv 4) (pe_dget hu (pv 2) (pe_ix (ix_LK (K := K) rfl) (pv 1) (pv 5) (fun _ _ => rfl)) (fun _ _ => rfl)) (pe_dget hu (pv 2) (pe_ix (ix_LK (K := K) rfl) (pv 1) (pv 6) (fun _ _ => rfl)) (fun _ _ => rfl)) rfl)))
      (pss_one (ps_ret (pe_lc (own := [("at", 7)]) (g := gName 7) (by rfl) nd (pi_range1 (by rfl) T.range (pa_cons (pe_callB c_lenD (by rfl) T.len PySem.boot_len (pa_cons (pv 2) pa_nil)) pa_nil)) (blkOk_by (own := [("at", 7)]) (N := Nmerged_row) (sc := defScope stmerged_row) (by decide +kernel)) (fun _ _ _ _ _ => (pg_name (i := 7) nd rfl (Or.inl rfl))) (fun _ _ _ _ _ => pts_nil) (fun _ _ _ _ _ => (pe_dget hu (pv 4) (pv 7) (fun _ _ => rfl)))))))))), ?_⟩
  refine s_start [some _, some _, none, none, none, none, none, none] rfl ?_
  walk_at "go"
  intro nu H1 hnu s1 enu
  walk_at "go"
  refine for_it (walk_numL (K := K) (a := mp) (l := mk)) (fun i σ H' => ∃ y3, σ = [some (.ref rw'), some (.ref mp), some (.ref nu), y3, none, none, none, none] ∧ Same H H' ∧ H' nu = some (.dK (nKV (uniq77 [] (mk.take i)) fun x => .int ((ixOf (uniq77 [] (mk.take i)) x : Nat) : Int)))) ⟨_, rfl, s1, enu⟩ ?_ ?_ ?_
  · rintro i σ H' _ ⟨_, _, s, _⟩
    exact SqL.of (s _ _ em)
  · rintro i v σ H2 H3 hi ⟨y3, rfl, s3, e3⟩ ⟨rfl, rfl⟩
    have l3 := uniq_len (l := mk.take i) (acc := [])
    rw [List.length_take, List.length_nil] at l3
    have nx : uniq77 [] (mk.take (i + 1)) = if mk.getD i 0 ∈ uniq77 [] (mk.take i) then uniq77 [] (mk.take i) else uniq77 [] (mk.take i) ++ [mk.getD i 0] := by rw [take_getD hi, uniq_snoc]
    generalize mk.getD i 0 = a at nx
    generalize uniq77 [] (mk.take i) = u at *
    walk_at "go"
    refine e_setd77 ?_
    walk_at "go"
    refine ⟨nu, rfl, isD_num e3, ?_⟩
    walk_at "go"
    refine v_lenD e3 ?_
    have lk : (nKV u fun x => V.int ((ixOf u x : Nat) : Int)).length = u.length := List.length_map _
    rw [lk]
    refine v_setd77 e3 (by omega) (fun c => ?_) (fun c H4 k4 e4 => ?_)
    · rw [if_pos c] at nx
      refine ⟨_, rfl, s3, ?_⟩
      rw [nx]
      exact e3
    · rw [if_neg c] at nx
      refine ⟨_, rfl, fun b o hb => k4 _ _ (s3 _ _ hb) (ne_of_none hb hnu), ?_⟩
      rw [e4, nx]
      refine congrArg (fun z => some (HO.dK z)) ?_
      unfold nKV
      refine List.map_congr_left fun x hx => ?_
      show ((Sum.inl ((x : Nat) : Int) : Key), if x = a then V.int ((u.length : Nat) : Int) else V.int ((ixOf u x : Nat) : Int)) = (Sum.inl ((x : Nat) : Int), V.int ((ixOf (u ++ [a]) x : Nat) : Int))
      by_cases e : x = a
      · rw [if_pos e, e, ix_last c]
      · rw [if_neg e, ix_snoc ((List.mem_append.mp hx).resolve_right fun z => e (List.mem_singleton.mp z))]
  rintro σ H2 ⟨y3, rfl, s2, e2⟩
  rw [List.take_length] at e2
  have ul := uniq_len (l := mk) (acc := [])
  rw [List.length_nil, Nat.zero_add] at ul
  have ug : ∀ p, p < mk.length → mk.getD p 0 ∈ uniq77 [] mk := fun p hp => uniq_mem.mpr (.inr (getD_mem hp))
  walk_at "go"
  intro fo H3 hfo s3 efo
  have nnf : nu ≠ fo := ne_of_none e2 hfo
  have lnr : (numV r).length = r.length := List.length_map _
  have s03 := s2.trans s3
  have enu3 := s3 _ _ e2
  have hfoH : H fo = none := Same.free s2 hfo
  walk_at "go"
  refine e_iEnumT71 ?_
  walk_at "go"
  refine ⟨rw', numV r, rfl, SqT.of (s03 _ _ er), ?_⟩
  refine for_it (walk_enumT71 (K := K) (a := rw') (xs := numV r)) (fun i σ H' => ∃ y3 y5 y6 fl g, σ = [some (.ref rw'), some (.ref mp), some (.ref nu), y3, some (.ref fo), y5, y6, none] ∧ Same H H' ∧ H' nu = some (.dK (nKV (uniq77 [] mk) fun x => .int ((ixOf (uniq77 [] mk) x : Nat) : Int))) ∧ H' fo = some (.dK (nKV fl fun x => .int ((g x : Nat) : Int))) ∧ fl.length ≤ i ∧ (∀ x ∈ fl, ∃ p, p < mk.length ∧ cls77 mk p = x) ∧ ∀ p, p < i → cls77 mk p ∈ fl ∧ g (cls77 mk p) = cls77 mk (r.getD p 0)) ⟨_, _, _, [], fun _ => 0, rfl, s03, enu3, efo, Nat.le_refl _, (fun _ z => nomatch z), fun _ z => absurd z (Nat.not_lt_zero _)⟩ ?_ ?_ ?_
  · rintro i σ H' _ ⟨_, _, _, _, _, _, s, _⟩
    exact s _ _ er
  · rintro i v σ H4 H5 hi ⟨y3, y5, y6, fl, g, rfl, s4, e4n, e4, l4, o4, i4⟩ ⟨TT, x, rfl, hT, rfl, hx⟩
    rw [lnr] at hi
    have him : i < mk.length := by omega
    rw [num_at hi] at hx
    injection hx with hx
    subst hx
    have ltr := lt i him
    refine v_gTup2 rfl upd_same ?_
    have sT : Same H4 (upd H4 TT (.tup [.int ((i : Nat) : Int), .int ((r.getD i 0 : Nat) : Int)])) := Same.new hT
    have e5n := sT _ _ e4n
    have e5 := sT _ _ e4
    have em5 := sT _ _ (s4 _ _ em)
    have s5 := s4.trans sT
    generalize upd H4 TT (.tup [.int ((i : Nat) : Int), .int ((r.getD i 0 : Nat) : Int)]) = H5 at *
    walk_at "go"
    refine v_ixL em5 (at_of (j := r.getD i 0) rfl (num_at ltr)) ?_
    refine v_dget (num_get e5n (ug _ ltr)) ?_
    walk_at "go"
    refine v_ixL em5 (at_of (j := i) rfl (num_at him)) ?_
    refine v_dget (num_get e5n (ug _ him)) ?_
    have fin : ∀ (H6 : Hp) fl' (g' : Nat → Nat), Keep fo H5 H6 → H6 fo = some (.dK (nKV fl' fun x => .int ((g' x : Nat) : Int))) → fl'.length ≤ i + 1 → (∀ x ∈ fl', ∃ p, p < mk.length ∧ cls77 mk p = x) → (∀ p, p < i + 1 → cls77 mk p ∈ fl' ∧ g' (cls77 mk p) = cls77 mk (r.getD p 0)) →
        Same H H6 ∧ H6 nu = some (.dK (nKV (uniq77 [] mk) fun x => .int ((ixOf (uniq77 [] mk) x : Nat) : Int))) ∧ H6 fo = some (.dK (nKV fl' fun x => .int ((g' x : Nat) : Int))) ∧ fl'.length ≤ i + 1 ∧ (∀ x ∈ fl', ∃ p, p < mk.length ∧ cls77 mk p = x) ∧ ∀ p, p < i + 1 → cls77 mk p ∈ fl' ∧ g' (cls77 mk p) = cls77 mk (r.getD p 0) :=
      fun H6 fl' g' k6 e6 a b c => ⟨fun b' o hb => k6 _ _ (s5 _ _ hb) (ne_of_none hb hfoH), k6 _ _ e5n nnf, e6, a, b, c⟩
    have key : ∀ p, p < i → cls77 mk p = cls77 mk i → cls77 mk (r.getD p 0) = cls77 mk (r.getD i 0) := fun p hp e => by
      have h1 := hom p i (by omega) him ((cls_eq (by omega) him).mp e)
      unfold cls77
      rw [h1]
    by_cases c : cls77 mk i ∈ fl
    · refine v_put (num_put_in e5 c (by omega)) fun H6 k6 e6 => ?_
      refine ⟨_, _, _, fl, fun x => if x = cls77 mk i then cls77 mk (r.getD i 0) else g x, rfl, fin H6 _ _ k6 ?_ (by omega) o4 fun p hp => ?_⟩
      · rw [e6]
        refine congrArg (fun z => some (HO.dK z)) (congrArg (nKV fl) (funext fun x => ?_))
        by_cases e : x = cls77 mk i
        · rw [if_pos e]
          exact if_pos e
        · rw [if_neg e]
          exact if_neg e
      · by_cases e : p = i
        · subst e
          exact ⟨c, if_pos rfl⟩
        · have hp' : p < i := by omega
          refine ⟨(i4 p hp').1, ?_⟩
          by_cases e2 : cls77 mk p = cls77 mk i
          · show (if cls77 mk p = cls77 mk i then _ else _) = _
            rw [if_pos e2, key p hp' e2]
          · show (if cls77 mk p = cls77 mk i then _ else _) = _
            rw [if_neg e2]
            exact (i4 p hp').2
    · refine v_put (num_put e5 c (by omega)) fun H6 k6 e6 => ?_
      refine ⟨_, _, _, fl ++ [cls77 mk i], fun x => if x = cls77 mk i then cls77 mk (r.getD i 0) else g x, rfl, fin H6 _ _ k6 ?_ (by rw [List.length_append, List.length_singleton]; omega) (fun x hx => ?_) fun p hp => ?_⟩
      · rw [e6]
        refine congrArg (fun z => some (HO.dK z)) (congrArg (nKV (fl ++ [cls77 mk i])) (funext fun x => ?_))
        by_cases e : x = cls77 mk i
        · rw [if_pos e]
          exact if_pos e
        · rw [if_neg e]
          exact if_neg e
      · rcases List.mem_append.mp hx with h | h
        · exact o4 x h
        · exact ⟨i, him, (List.mem_singleton.mp h).symm⟩
      · by_cases e : p = i
        · subst e
          exact ⟨List.mem_append_right _ (List.mem_singleton.mpr rfl), if_pos rfl⟩
        · have hp' : p < i := by omega
          refine ⟨List.mem_append_left _ (i4 p hp').1, ?_⟩
          have e2 : ¬ cls77 mk p = cls77 mk i := fun z => c (z ▸ (i4 p hp').1)
          show (if cls77 mk p = cls77 mk i then _ else _) = _
          rw [if_neg e2]
          exact (i4 p hp').2
  rintro σ H4 ⟨y3, y5, y6, fl, g, rfl, s4, e4n, e4, l4, o4, i4⟩
  rw [lnr] at l4 i4
  walk_at "go"
  refine v_lenD e4n ?_
  have lk : (nKV (uniq77 [] mk) fun x => V.int ((ixOf (uniq77 [] mk) x : Nat) : Int)).length = (uniq77 [] mk).length := List.length_map _
  rw [lk]
  walk_at "go"
  rw [Int.toNat_natCast]
  have has : ∀ j, j < (uniq77 [] mk).length → j ∈ fl := fun j hj => by
    obtain ⟨p, hp, e⟩ := cls_on hj
    rw [← e]
    exact (i4 p (by omega)).1
  refine lc_gen (n := (uniq77 [] mk).length) (b := fun _ => true) (it := fun j => .int ((j : Nat) : Int)) (f := fun j => .int ((g j : Nat) : Int)) (walk_rI (fun k => ((k : Nat) : Int)) (fun k => Int.zero_add _)) (fun _ _ => trivial) (by omega) (fun j hj H5 s5 R' rr => ?_) (fun j hj _ H5 s5 R' rr => ?_) (fun D H5 hD s5 eD => ?_)
  · walk_at "go"
    exact rr _ (Same.refl _)
  · walk_at "go"
    refine v_dget (num_get (s5 _ _ e4) (has j hj)) ?_
    exact rr _ (Same.refl _)
  have eF : (List.range (uniq77 [] mk).length).filter (fun _ => true) = List.range (uniq77 [] mk).length := List.filter_eq_self.mpr fun _ _ => rfl
  rw [eF] at eD
  refine k D H5 ((List.range (uniq77 [] mk).length).map g) (Same.free s4 hD) (s4.trans s5) ?_ (by rw [List.length_map, List.length_range]) fun q hq => ?_
  · rw [eD]
    unfold numV
    rw [List.map_map]
    rfl
  · have hc := cls_lt hq
    rw [List.getD_eq_getElem?_getD, List.getElem?_map, List.getElem?_range hc]
    exact (i4 q (by omega)).2
end
end
section
open PySem PySem.Spec L2
def sdV (n2 k z : Nat) : Nat := if k = 0 then z / n2 else z % n2
def shL (n2 : Nat) (fd : List Nat) (i j : Nat) : Prop := i < fd.length ∧ j < fd.length ∧ (fd.getD i 0 / n2 = fd.getD j 0 / n2 ∨ fd.getD i 0 % n2 = fd.getD j 0 % n2)
theorem shL_sym {n2 : Nat} {fd : List Nat} {i j : Nat} (h : shL n2 fd i j) : shL n2 fd j i := ⟨h.2.1, h.1, h.2.2.imp Eq.symm Eq.symm⟩
theorem pair_ix77 {n2 k z : Nat} (h : k < 2) : ([V.int ((z / n2 : Nat) : Int), V.int ((z % n2 : Nat) : Int)] : List V)[k]? = some (.int ((sdV n2 k z : Nat) : Int)) := by
  match k, h with
  | 0, _ => rfl
  | 1, _ => rfl
def sdI (n2 : Nat) (fd : List Nat) (s j : Nat) : Nat := sdV n2 s (fd.getD j 0)
theorem sd_sh {n2 : Nat} {fd : List Nat} {s i j : Nat} (hi : i < fd.length) (hj : j < fd.length) (e : sdI n2 fd s i = sdI n2 fd s j) : shL n2 fd i j := by
  unfold sdI sdV at e
  by_cases c : s = 0
  · rw [if_pos c, if_pos c] at e
    exact ⟨hi, hj, .inl e⟩
  · rw [if_neg c, if_neg c] at e
    exact ⟨hi, hj, .inr e⟩
theorem v_neNumL77 {K : PySem.W.Frag} {H : Hp} {Q : VK} {p q : Addr} {l l' : List Nat} (h1 : H p = some (.lst (numV l))) (h2 : H q = some (.lst (numV l'))) (k : Q (.bl (!decide (l = l'))) H) : rNeD K (.ref p) (.ref q) H Q := by
  have sh : ∀ r : List Nat, SeqAt.shaped (.list (r.map fun n => PyData.int ((n : Nat) : Int))) = true := fun r => by
    have h1 := row71_dep r
    have h2 : (PyData.list (r.map fun n => PyData.int ((n : Nat) : Int))).depth ≤ 64 := by simp only [PyData.depth]; omega
    have h3 : (PyData.list (r.map fun n => PyData.int ((n : Nat) : Int))).canLay0 = true := by simp only [PyData.canLay0]; exact row71_lay r
    simp [SeqAt.shaped, h2, h3]
  refine ⟨.list (l.map fun n => .int ((n : Nat) : Int)), .list (l'.map fun n => .int ((n : Nat) : Int)), .lst (SqL.of h1) (dp_nums l), .lst (SqL.of h2) (dp_nums l'), sh l, sh l', ?_⟩
  have e : PyData.eqv (.list (l.map fun n => PyData.int ((n : Nat) : Int))) (.list (l'.map fun n => PyData.int ((n : Nat) : Int))) = decide (l = l') := by
    simp only [PyData.eqv, row71_eqv]
  rw [e]
  exact k
def spJoint77 : Sp := fun vs H Q _ => ∃ (pl : Addr) (n2 : Nat) (fd : List Nat), vs = [.ref pl] ∧ PairsL n2 H pl fd ∧ fd.length ≤ 1000 ∧
  ∀ p H' mk, H p = none → Same H H' → H' p = some (.lst (numV mk)) → mk.length = fd.length → (∀ i j, i < fd.length → j < fd.length → (mk.getD i 0 = mk.getD j 0 ↔ Con (shL n2 fd) i j)) → Q (.ref p) H'
section
variable {P : Program} {w : World} {K : PySem.W.Frag} {mg : Str → Option Value} {base : Heap} {C R O CL : Addr}
abbrev stjoint_marks : Stmt := (top 36)
abbrev Njoint_marks : List Str := ["pairs", "marks", "changed", "side", "least", "mark", "pair", "lower", "at"]
theorem scjoint_marks : FnScope Njoint_marks ["pairs"] (defScope stjoint_marks) := ⟨rfl, rfl, rfl, by decide +kernel, rfl, by decide +kernel, by decide +kernel⟩

theorem ok_joint_marks (F : FnAt K mg "joint_marks" stjoint_marks) (T : TxtSc K mg C R O CL) : Def P w K mg base CX0 1 "joint_marks" ["pairs"] spJoint77 := by
  refine F.ok scjoint_marks (fun _ _ _ _ _ _ us hl => match us, hl with | [_], _ => rfl) (fun vs H Q E h => ?_) (fun f cdv A outer s H vs Q E hr h => ?_)
  · obtain ⟨pl, n2, fd, rfl, _⟩ := h
    rfl
  obtain ⟨pl, n2, fd, rfl, pls, l1000, k⟩ := h
  have hu := hu_of hr
  have nd := scjoint_marks.nd
  refine ⟨_, (pss_cons (ps_setLc (i := 1) (own := [("at", 8)]) (g := gName 8) (by rfl) nd rfl rfl (sw_true rfl rfl rfl (by decide +kernel)) (pi_range1 (by rfl) T.range (pa_cons (pe_callB (c_lenK (K := K) rfl) (by rfl) T.len PySem.boot_len (pa_cons (pv 0) pa_nil)) pa_nil)) (blkOk_by (own := [("at", 8)]) (N := Njoint_marks) (sc := defScope stjoint_marks) (by decide +kernel)) (fun _ _ _ _ _ => (pg_name (i := 8) nd rfl (Or.inl rfl))) (fun _ _ _ _ _ => pts_nil) (fun _ _ _ _ _ => (pv 8)))
      (pss_cons (ps_set (i := 2) nd rfl (Or.inl rfl) pe_bl)
      (pss_cutS (ps_while PassesOwn.never (pt_val (pv 2))
      (pss_cons (ps_set (i := 2) nd rfl (Or.inl rfl) pe_bl)
        (pss_one (ps_for PassesOwn.never rfl (pi_tupK (K := K) rfl (pe_tup (pa_cons pe_int (pa_cons pe_int pa_nil)))) (pg_name (i := 3) nd rfl (Or.inr rfl))
        (pss_cons (ps_set (i := 4) nd rfl (Or.inr rfl) pe_dnewK)
          (pss_cons (ps_for PassesOwn.never rfl (pi_zip (by rfl) T.zip (pa_cons (pv 1) (pa_cons (pv 0) pa_nil))) (pg_tup rfl (pgs_cons (pg_name (i := 5) nd rfl (Or.inl rfl)) (pgs_cons (pg_name (i := 6) nd rfl (Or.inl rfl)) pgs_nil)))
          (pss_one (ps_dput hu (pv 4) (pe_ix (ix_TK (K := K) rfl) (pv 6) (pv 3) (fun _ _ => rfl)) (pe_callB (call_min2 rfl) (by rfl) T.min (by decide +kernel) (pa_cons (pe_callTy c_int (by rfl) T.int (by decide +kernel) (pa_cons (pv 5) pa_nil)) (pa_cons (pe_callTy c_int (by rfl) T.int (by decide +kernel) (pa_cons (pe_get71 hu (pv 4) (pe_ix (ix_TK (K := K) rfl) (pv 6) (pv 3) (fun _ _ => rfl)) (pv 5)) pa_nil)) pa_nil))) rfl)))
          (pss_cons (ps_setLc (i := 7) (own := [("pair", 6)]) (g := gName 6) (by rfl) nd rfl rfl (sw_true rfl rfl rfl (by decide +kernel)) (pi_listK (K := K) rfl (pv 0)) (blkOk_by (own := [("pair", 6)]) (N := Njoint_marks) (sc := defScope stjoint_marks) (by decide +kernel)) (fun _ _ _ _ _ => (pg_name (i := 6) nd rfl (Or.inl rfl))) (fun _ _ _ _ _ => pts_nil) (fun _ _ _ _ _ => (pe_dget hu (pv 4) (pe_ix (ix_TK (K := K) rfl) (pv 6) (pv 3) (fun _ _ => rfl)) (fun _ _ => rfl))))
          (pss_cons (ps_set (i := 2) nd rfl (Or.inl rfl) (pe_cut (pe_or (pv 2) (pe_one (pe_cmpR (op_neDK (K := K) rfl hr.units) (pv 7) (pv 1) (nomark _))))))
          (pss_one (ps_set (i := 1) nd rfl (Or.inl rfl) (pv 7)))))))))))
      (pss_one (ps_ret (pv 1)))))), ?_⟩
  refine s_start [some _, none, none, none, none, none, none, none, none] rfl ?_
  obtain ⟨E, a1, a2, a3⟩ := pls.ex
  have lE : E.length = fd.length := by rw [← a1, List.length_map]
  have lR : (refV E).length = E.length := List.length_map _
  walk_at "go"
  rw [show ((refV E).length : Int).toNat = fd.length by rw [lR, lE]; exact Int.toNat_natCast _]
  refine lc_gen (n := fd.length) (b := fun _ => true) (it := fun j => .int ((j : Nat) : Int)) (f := fun j => .int ((j : Nat) : Int)) ((walk_rI (fun k => ((k : Nat) : Int)) (fun k => Int.zero_add _)).mono (fun _ z => z) fun i H x H' hi _ y => y) (fun _ _ => trivial) (by omega) (fun j hj H1 s1 R' rr => ?_) (fun j hj _ H1 s1 R' rr => ?_) (fun mp H1 hmp s1 emp => ?_)
  · walk_at "go"
    exact rr _ (Same.refl _)
  · walk_at "go"
    exact rr _ (Same.refl _)
  have eF : (List.range fd.length).filter (fun _ => true) = List.range fd.length := List.filter_eq_self.mpr fun _ _ => rfl
  rw [eF] at emp
  have rg : ∀ j, j < fd.length → (List.range fd.length).getD j 0 = j := fun j hj => by rw [List.getD_eq_getElem?_getD, List.getElem?_range hj]; rfl
  have i0 : MInv (shL n2 fd) fd.length (List.range fd.length) := ⟨List.length_range, fun j hj => by rw [rg j hj]; exact hj, fun j hj => by rw [rg j hj]; exact .re _⟩
  have w1 := walk_refE (K := K) (t := pl) (E := E)
  walk_at "go"
  refine s_cut (fun σ H' => ∃ mp y2 y3 y4 y5 y6 y7 mk, σ = [some (.ref pl), some (.ref mp), y2, y3, y4, y5, y6, y7, none] ∧ H mp = none ∧ Same H H' ∧ H' mp = some (.lst (numV mk)) ∧ MInv (shL n2 fd) fd.length mk ∧ IsLow (sdI n2 fd 0) fd.length mk mk ∧ IsLow (sdI n2 fd 1) fd.length mk mk) ?_ ?_
  · refine s_while (fun M σ H' => ∃ mp ch y3 y4 y5 y6 y7 mk, M = mk.sum + (if ch = true then 1 else 0) ∧ σ = [some (.ref pl), some (.ref mp), some (.bl ch), y3, y4, y5, y6, y7, none] ∧ H mp = none ∧ Same H H' ∧ H' mp = some (.lst (numV mk)) ∧ MInv (shL n2 fd) fd.length mk ∧ (ch = false → IsLow (sdI n2 fd 0) fd.length mk mk ∧ IsLow (sdI n2 fd 1) fd.length mk mk)) _ ⟨mp, true, _, _, _, _, _, List.range fd.length, rfl, rfl, hmp, s1, emp, i0, fun z => nomatch z⟩ ?_
    clear emp s1 hmp mp
    rintro M σ H2 ⟨mp, ch, y3, y4, y5, y6, y7, mk, rfl, rfl, hmp, s2, e2, inv, fin⟩
    walk_at "go"
    refine if_bool (fun c => ?_) (fun c => ?_)
    · subst c
      refine v_turn ?_
      walk_at "go"
      intro tq H3 htq s3 etq
      have e3 := s3 _ _ e2
      refine ⟨tq, rfl, ⟨_, SqT.of etq⟩, ?_⟩
      refine for_it (walk_tup (K := K) (a := tq) (xs := [.int 0, .int 1])) (fun k σ H' => ∃ mp' ch y3 y4 y5 y6 y7 mk', σ = [some (.ref pl), some (.ref mp'), some (.bl ch), y3, y4, y5, y6, y7, none] ∧ H mp' = none ∧ Same H H' ∧ H' tq = some (.tup [.int 0, .int 1]) ∧ H' mp' = some (.lst (numV mk')) ∧ MInv (shL n2 fd) fd.length mk' ∧ ((ch = false ∧ mk' = mk ∧ ∀ s, s < k → IsLow (sdI n2 fd s) fd.length mk mk) ∨ (ch = true ∧ mk'.sum < mk.sum))) ⟨mp, false, _, _, _, _, _, mk, rfl, hmp, s2.trans s3, etq, e3, inv, .inl ⟨rfl, rfl, fun _ z => absurd z (Nat.not_lt_zero _)⟩⟩ ?_ ?_ ?_
      · rintro k σ H' _ ⟨_, _, _, _, _, _, _, _, _, _, _, h, _⟩
        exact SqT.of h
      · rintro side v σ H4 H5 hk ⟨mp', ch, y3, y4, y5, y6, y7, mk', rfl, hmp', s4, e4q, e4, inv4, alt⟩ ⟨rfl, hv⟩
        have hk2 : side < 2 := hk
        obtain rfl : v = V.int ((side : Nat) : Int) := by
          match side, hk2, hv with
          | 0, _, hv => exact (Option.some.inj hv).symm
          | 1, _, hv => exact (Option.some.inj hv).symm
        walk_at "go"
        intro ls H6 hls s6 els
        have s46 := s4.trans s6
        have hlsH : H ls = none := Same.free s4 hls
        have e6 := s6 _ _ e4
        have e6q := s6 _ _ e4q
        have p6 := pls.same s46
        have a26 := s46 _ _ a2
        have nml : mp' ≠ ls := ne_of_none e4 hls
        have nql : tq ≠ ls := ne_of_none e4q hls
        have npl : pl ≠ ls := ne_of_none (s4 _ _ a2) hls
        have lm : mk'.length = fd.length := inv4.len
        have lnm : (numV mk').length = mk'.length := List.length_map _
        walk_at "go"
        refine e_iZip ?_
        walk_at "go"
        refine ⟨mp', pl, numV mk', refV E, rfl, SqL.of e6, SqL.of a26, ?_⟩
        have wz := walk_zip (K := K) (a := mp') (b := pl) (xs := numV mk') (ys := refV E) (by rw [lnm, lR]; omega)
        rw [lnm, lm] at wz
        refine for_it wz (fun i σ H' => ∃ y5 y6 fl g, σ = [some (.ref pl), some (.ref mp'), some (.bl ch), some (.int ((side : Nat) : Int)), some (.ref ls), y5, y6, y7, none] ∧ Keep ls H6 H' ∧ H' ls = some (.dK (nKV fl fun x => .int ((g x : Nat) : Int))) ∧ fl.length ≤ i ∧ (∀ x ∈ fl, ∃ k, k < i ∧ sdI n2 fd side k = x ∧ g x = mk'.getD k 0) ∧ ∀ k, k < i → sdI n2 fd side k ∈ fl ∧ g (sdI n2 fd side k) ≤ mk'.getD k 0) ⟨_, _, [], fun _ => 0, rfl, (fun _ _ h _ => h), els, Nat.le_refl _, (fun _ z => nomatch z), fun _ z => absurd z (Nat.not_lt_zero _)⟩ ?_ ?_ ?_
        · rintro i σ H' _ ⟨_, _, _, _, _, kp, _⟩
          exact ⟨kp _ _ e6 nml, kp _ _ a26 npl⟩
        · rintro i v σ H7 H8 hi ⟨y5, y6, fl, g, rfl, k7, e7, l7, o7, i7⟩ ⟨T0, x, y, rfl, hT, rfl, hx, hy⟩
          have him : i < mk'.length := by omega
          rw [num_at him] at hx
          injection hx with hx
          subst hx
          rw [List.getElem?_map] at hy
          obtain ⟨e0, he0, rfl⟩ := Option.map_eq_some_iff.mp hy
          have ez : e0.1 = fd.getD i 0 := by rw [List.getD_eq_getElem?_getD, ← a1, List.getElem?_map, he0]; rfl
          have ep : PairAt n2 H7 e0.2 (fd.getD i 0) := by
            have := (show PairAt n2 H6 e0.2 e0.1 from s46 _ _ (a3 _ (List.mem_of_getElem? he0))).keep k7 els (fun z => nomatch z)
            rwa [ez] at this
          refine v_gTup2 rfl upd_same ?_
          have sT : Same H7 (upd H7 T0 (.tup [.int ((mk'.getD i 0 : Nat) : Int), .ref e0.2])) := Same.new hT
          have k8 : Keep ls H6 (upd H7 T0 (.tup [.int ((mk'.getD i 0 : Nat) : Int), .ref e0.2])) := fun b o hb nb => sT _ _ (k7 _ _ hb nb)
          have e8 := sT _ _ e7
          have ep8 := sT _ _ ep
          generalize upd H7 T0 (.tup [.int ((mk'.getD i 0 : Nat) : Int), .ref e0.2]) = H8 at *
          have eix : ([V.int ((fd.getD i 0 / n2 : Nat) : Int), V.int ((fd.getD i 0 % n2 : Nat) : Int)] : List V)[side]? = some (.int ((sdI n2 fd side i : Nat) : Int)) := pair_ix77 hk2
          generalize hsd : sdI n2 fd side i = x at eix
          walk_at "go"
          refine e_get71 ?_
          walk_at "go"
          refine ⟨ls, rfl, isD_num e8, ?_⟩
          walk_at "go"
          refine v_ixT ep8 (at_of (j := side) rfl eix) ?_
          walk_at "go"
          by_cases c : x ∈ fl
          · refine ⟨_, num_get e8 c, ?_⟩
            rw [Option.getD_some]
            walk_at "go"
            refine ⟨_, _, rfl, ?_⟩
            rw [show (if ((g x : Nat) : Int) < ((mk'.getD i 0 : Nat) : Int) then ((g x : Nat) : Int) else ((mk'.getD i 0 : Nat) : Int)) = ((if g x < mk'.getD i 0 then g x else mk'.getD i 0 : Nat) : Int) by
              by_cases z : g x < mk'.getD i 0
              · rw [if_pos z, if_pos (Int.ofNat_lt.mpr z)]
              · rw [if_neg z, if_neg (fun z2 => z (Int.ofNat_lt.mp z2))]]
            walk_at "go"
            refine v_ixT ep8 (at_of (j := side) rfl eix) ?_
            refine v_put (num_put_in e8 c (by omega)) fun H9 k9 e9 => ?_
            refine ⟨_, _, fl, fun y => if y = x then (if g x < mk'.getD i 0 then g x else mk'.getD i 0) else g y, rfl, fun b o hb nb => k9 _ _ (k8 _ _ hb nb) nb, ?_, by omega, fun y hy => ?_, fun k hk => ?_⟩
            · rw [e9]
              refine congrArg (fun z => some (HO.dK z)) (congrArg (nKV fl) (funext fun y => ?_))
              by_cases e : y = x
              · rw [if_pos e]
                exact congrArg (fun n : Nat => V.int (n : Int)) (if_pos e).symm
              · rw [if_neg e]
                exact congrArg (fun n : Nat => V.int (n : Int)) (if_neg e).symm
            · by_cases e : y = x
              · show ∃ k, k < i + 1 ∧ _ ∧ (if y = x then _ else _) = _
                rw [if_pos e]
                by_cases z : g x < mk'.getD i 0
                · rw [if_pos z]
                  obtain ⟨k, hk, h1, h2⟩ := o7 x c
                  exact ⟨k, by omega, by rw [e]; exact h1, h2⟩
                · rw [if_neg z]
                  exact ⟨i, by omega, by rw [e]; exact hsd, rfl⟩
              · show ∃ k, k < i + 1 ∧ _ ∧ (if y = x then _ else _) = _
                rw [if_neg e]
                obtain ⟨k, hk, h1, h2⟩ := o7 y hy
                exact ⟨k, by omega, h1, h2⟩
            · show _ ∧ (if sdI n2 fd side k = x then _ else _) ≤ _
              by_cases e : k = i
              · subst e
                rw [if_pos hsd]
                refine ⟨by rw [hsd]; exact c, ?_⟩
                split <;> omega
              · obtain ⟨h1, h2⟩ := i7 k (by omega)
                refine ⟨h1, ?_⟩
                by_cases e2 : sdI n2 fd side k = x
                · rw [if_pos e2]
                  rw [e2] at h2
                  split <;> omega
                · rw [if_neg e2]
                  exact h2
          · refine ⟨_, num_not e8 c, ?_⟩
            rw [Option.getD_none]
            walk_at "go"
            refine ⟨_, _, rfl, ?_⟩
            rw [if_neg (Int.lt_irrefl _)]
            walk_at "go"
            refine v_ixT ep8 (at_of (j := side) rfl eix) ?_
            refine v_put (num_put e8 c (by omega)) fun H9 k9 e9 => ?_
            refine ⟨_, _, fl ++ [x], fun y => if y = x then mk'.getD i 0 else g y, rfl, fun b o hb nb => k9 _ _ (k8 _ _ hb nb) nb, ?_, by rw [List.length_append, List.length_singleton]; omega, fun y hy => ?_, fun k hk => ?_⟩
            · rw [e9]
              refine congrArg (fun z => some (HO.dK z)) (congrArg (nKV (fl ++ [x])) (funext fun y => ?_))
              by_cases e : y = x
              · rw [if_pos e]
                exact congrArg (fun n : Nat => V.int (n : Int)) (if_pos e).symm
              · rw [if_neg e]
                exact congrArg (fun n : Nat => V.int (n : Int)) (if_neg e).symm
            · show ∃ k, k < i + 1 ∧ _ ∧ (if y = x then _ else _) = _
              by_cases e : y = x
              · rw [if_pos e]
                exact ⟨i, by omega, by rw [e]; exact hsd, rfl⟩
              · rw [if_neg e]
                obtain ⟨k, hk, h1, h2⟩ := o7 y ((List.mem_append.mp hy).resolve_right fun z => e (List.mem_singleton.mp z))
                exact ⟨k, by omega, h1, h2⟩
            · show _ ∧ (if sdI n2 fd side k = x then _ else _) ≤ _
              by_cases e : k = i
              · subst e
                rw [if_pos hsd]
                exact ⟨List.mem_append_right _ (List.mem_singleton.mpr hsd), Nat.le_refl _⟩
              · obtain ⟨h1, h2⟩ := i7 k (by omega)
                have e2 : ¬ sdI n2 fd side k = x := fun z => c (z ▸ h1)
                rw [if_neg e2]
                exact ⟨List.mem_append_left _ h1, h2⟩
        rintro σ H7 ⟨y5, y6, fl, g, rfl, k7, e7, l7, o7, i7⟩
        have s7 : Same H H7 := fun b o hb => k7 _ _ (s46 _ _ hb) (ne_of_none hb hlsH)
        have a27 := s7 _ _ a2
        walk_at "go"
        refine lc_gen (n := E.length) (b := fun _ => true) (it := fun j => (refV E).getD j .non) (f := fun j => .int ((g (sdI n2 fd side j) : Nat) : Int)) (w1.mono (G' := fun H' => Same H7 H') (fun H' s => SqL.of (s _ _ a27)) fun j H' v H2 hj _ y => ⟨y.1, by obtain ⟨_, e, he, rfl⟩ := y; exact (refV_get he).symm⟩) (fun _ s => s) (by omega) (fun j hj H8 s8 R' rr => ?_) (fun j hj _ H8 s8 R' rr => ?_) (fun lo H8 hlo s8 elo => ?_)
        · walk_at "go"
          exact rr _ (Same.refl _)
        · obtain ⟨e0, he0⟩ : ∃ e0, E[j]? = some e0 := ⟨_, List.getElem?_eq_getElem hj⟩
          rw [refV_get he0]
          have ez : e0.1 = fd.getD j 0 := by rw [List.getD_eq_getElem?_getD, ← a1, List.getElem?_map, he0]; rfl
          have ep : PairAt n2 H8 e0.2 (fd.getD j 0) := by
            have := (show PairAt n2 H8 e0.2 e0.1 from s8 _ _ (s7 _ _ (a3 _ (List.mem_of_getElem? he0))))
            rwa [ez] at this
          have eix : ([V.int ((fd.getD j 0 / n2 : Nat) : Int), V.int ((fd.getD j 0 % n2 : Nat) : Int)] : List V)[side]? = some (.int ((sdI n2 fd side j : Nat) : Int)) := pair_ix77 hk2
          walk_at "go"
          refine v_ixT ep (at_of (j := side) rfl eix) ?_
          refine v_dget (num_get (s8 _ _ e7) (i7 j (by omega)).1) ?_
          exact rr _ (Same.refl _)
        have eF8 : (List.range E.length).filter (fun _ => true) = List.range E.length := List.filter_eq_self.mpr fun _ _ => rfl
        rw [eF8] at elo
        have elo : H8 lo = some (.lst (numV ((List.range E.length).map fun j => g (sdI n2 fd side j)))) := by
          rw [elo]
          unfold numV
          rw [List.map_map]
          rfl
        have low : IsLow (sdI n2 fd side) fd.length mk' ((List.range E.length).map fun j => g (sdI n2 fd side j)) := by
          have gd : ∀ j, j < fd.length → ((List.range E.length).map fun j => g (sdI n2 fd side j)).getD j 0 = g (sdI n2 fd side j) := fun j hj => by
            rw [List.getD_eq_getElem?_getD, List.getElem?_map, List.getElem?_range (by omega)]
            rfl
          refine ⟨by rw [List.length_map, List.length_range]; exact lE, fun j hj => ?_, fun j k hj hk e => ?_⟩
          · rw [gd j hj]
            exact o7 _ (i7 j hj).1
          · rw [gd j hj, ← e]
            exact (i7 k hk).2
        generalize ((List.range E.length).map fun j => g (sdI n2 fd side j)) = lw at elo low
        have e68 := s8 _ _ (k7 _ _ e6 nml)
        walk_at "go"
        refine e_cut (fun v H' => v = .bl (ch || !decide (lw = mk')) ∧ H' = H8) ?_ ?_
        · walk_at "go"
          refine if_bool (fun c => ?_) (fun c => ?_)
          · exact ⟨by rw [c]; rfl, rfl⟩
          · walk_at "go"
            refine v_neNumL77 elo e68 ?_
            exact ⟨by rw [c]; rfl, rfl⟩
        rintro _ _ ⟨rfl, rfl⟩
        walk_at "go"
        refine ⟨lo, ch || !decide (lw = mk'), _, _, _, _, _, lw, rfl, Same.free s7 hlo, s7.trans s8, s8 _ _ (k7 _ _ e6q nql), elo, low.inv inv4 (fun i j hi hj e => sd_sh hi hj e), ?_⟩
        have sm := low.sum inv4.len
        rcases alt with ⟨c, c2, c3⟩ | ⟨c, c2⟩
        · by_cases z : lw = mk'
          · refine .inl ⟨by rw [c, decide_eq_true z]; rfl, z.trans c2, fun s hs => ?_⟩
            by_cases e : s = side
            · rw [e]
              rw [z, c2] at low
              exact low
            · exact c3 s (by omega)
          · refine .inr ⟨by rw [c, decide_eq_false z]; rfl, ?_⟩
            rw [← c2]
            exact sm.2 z
        · exact .inr ⟨by rw [c]; rfl, Nat.lt_of_le_of_lt sm.1 c2⟩
      · rintro σ H4 ⟨mp', ch, y3, y4, y5, y6, y7, mk', rfl, hmp', s4, e4q, e4, inv4, alt⟩
        refine ⟨mk'.sum + (if ch = true then 1 else 0), ?_, mp', ch, _, _, _, _, _, mk', rfl, rfl, hmp', s4, e4, inv4, fun c => ?_⟩
        · rcases alt with ⟨c, c2, c3⟩ | ⟨c, c2⟩
          · rw [c, c2, if_neg (by decide), if_pos rfl]
            omega
          · rw [c, if_pos rfl]
            exact Nat.succ_lt_succ c2
        · rcases alt with ⟨_, c2, c3⟩ | ⟨c', c2⟩
          · rw [c2]
            exact ⟨c3 0 (by show 0 < 2; decide), c3 1 (by show 1 < 2; decide)⟩
          · rw [c] at c'
            cases c'
    · exact ⟨mp, _, _, _, _, _, _, mk, rfl, hmp, s2, e2, inv, (fin c).1, (fin c).2⟩
  · rintro σ' H2 ⟨mp, y2, y3, y4, y5, y6, y7, mk, rfl, hmp, s2, e2, inv, f0, f1⟩
    walk_at "go"
    exact k mp H2 mk hmp s2 e2 inv.len fun i j hi hj => marks_con inv (fun i j h => ⟨h.1, h.2.1, h.2.2⟩) (fun a b h => shL_sym h) f0 f1 hi hj
end
end
section
open PySem PySem.Spec L2
section
variable {ks : List Nat} {ps T U : List (List Nat)} {n1 n2 : Nat}
theorem met_way (knd : ks.Nodup) (f : Flo ks ps T n1) (g : Flo ks ps U n2) (hN : n1 * n2 ≤ 1000) {z : Nat} (hz : z ∈ bfs (prodT n2 T U) (n1 * n2) 0) : ∃ w, Wd ks w ∧ walkT ks T 0 w = z / n2 ∧ walkT ks U 0 w = z % n2 := by
  obtain ⟨w, hw, e⟩ := reach knd (prod_good knd f.good g.good hN) z hz
  have e2 := walk_prod (a := 0) (b := 0) f.good g.good hw f.good.n0 g.good.n0
  rw [Nat.zero_mul, Nat.add_zero, e] at e2
  have l2 := g.lt hw
  exact ⟨w, hw, by rw [e2, enc_div l2], by rw [e2, enc_mod l2]⟩
theorem way_met (knd : ks.Nodup) (f : Flo ks ps T n1) (g : Flo ks ps U n2) (hN : n1 * n2 ≤ 1000) {w : List Nat} (hw : Wd ks w) : ∃ z ∈ bfs (prodT n2 T U) (n1 * n2) 0, z / n2 = walkT ks T 0 w ∧ z % n2 = walkT ks U 0 w := by
  obtain ⟨h1, h2, h3⟩ := pair_walk knd f g hN hw
  exact ⟨_, getD_mem h1, h2, h3⟩
theorem le_iff (knd : ks.Nodup) (f : Flo ks ps T n1) (g : Flo ks ps U n2) (hN : n1 * n2 ≤ 1000) : (∀ z ∈ bfs (prodT n2 T U) (n1 * n2) 0, ∀ y ∈ bfs (prodT n2 T U) (n1 * n2) 0, z / n2 = y / n2 → z % n2 = y % n2) ↔ leF ks T U := by
  constructor
  · intro h u v hu hv e
    obtain ⟨z, hz, z1, z2⟩ := way_met knd f g hN hu
    obtain ⟨y, hy, y1, y2⟩ := way_met knd f g hN hv
    have := h z hz y hy (by rw [z1, y1]; exact e)
    rw [z2, y2] at this
    exact this
  · intro h z hz y hy e
    obtain ⟨u, hu, u1, u2⟩ := met_way knd f g hN hz
    obtain ⟨v, hv, v1, v2⟩ := met_way knd f g hN hy
    have := h u v hu hv (show walkT ks T 0 u = walkT ks T 0 v by rw [u1, v1, e])
    rw [← u2, ← v2]
    exact this
end
theorem setd_upd {d : Addr} {H : Hp} {l : List Nat} {g : Nat → V} {k : Nat} {v : V} (c : ¬ k ∈ l) : upd H d (.dK (putK (nKV l g) (Sum.inl ((k : Nat) : Int)) v)) d = some (.dK (nKV (l ++ [k]) fun c => if c = k then v else g c)) := by
  rw [upd_same]
  refine congrArg (fun z => some (HO.dK z)) ?_
  unfold putK
  rw [if_neg (by rw [valV_any, nKV_none c]; exact Bool.false_ne_true)]
  unfold nKV
  rw [List.map_append]
  have e3 : (l.map fun (c : Nat) => ((Sum.inl ((c : Nat) : Int) : Key), if c = k then v else g c)) = l.map fun (c : Nat) => ((Sum.inl ((c : Nat) : Int) : Key), g c) := List.map_congr_left fun c' hc => by
    have ne : ¬ c' = k := fun z => c (by rw [← z]; exact hc)
    rw [if_neg ne]
  show _ = _ ++ [((Sum.inl ((k : Nat) : Int) : Key), if k = k then v else g k)]
  rw [if_pos rfl, e3]
structure FlAt (C CL : Addr) (H : Hp) (c x : Addr) (ks : List Nat) (ps T : List (List Nat)) (m : Nat) : Prop where
  cl : ClosedAt CL H c x T m
  pl : PlanAt C H x ks ps
  fl : Flo ks ps T m
theorem FlAt.same {C CL : Addr} {H H' : Hp} {c x : Addr} {ks : List Nat} {ps T : List (List Nat)} {m : Nat} (h : FlAt C CL H c x ks ps T m) (s : Same H H') : FlAt C CL H' c x ks ps T m := ⟨h.cl.same s, h.pl.same s, h.fl⟩
theorem FlAt.two {C CL : Addr} {H : Hp} {c1 c2 x1 x2 : Addr} {ks : List Nat} {ps T U : List (List Nat)} {n1 n2 : Nat} (a : FlAt C CL H c1 x1 ks ps T n1) (b : FlAt C CL H c2 x2 ks ps U n2) (hN : n1 * n2 ≤ 1000) : TwoAt CL H c1 c2 x1 x2 T U n1 n2 :=
  ⟨a.cl, b.cl, a.fl.good.ok, b.fl.good.ok, by rw [a.fl.good.lT, b.fl.good.lT], by rw [a.fl.good.lT]; exact a.fl.good.lk, a.fl.good.n0, b.fl.good.n0, hN⟩
def spLe77 (C CL : Addr) : Sp := fun vs H Q _ => ∃ (c1 c2 x1 x2 : Addr) (ks : List Nat) (ps T U : List (List Nat)) (n1 n2 : Nat), vs = [.ref c1, .ref c2] ∧ FlAt C CL H c1 x1 ks ps T n1 ∧ FlAt C CL H c2 x2 ks ps U n2 ∧ PsOk ps ∧ ks.Nodup ∧ ks.length ≤ 8 ∧ n1 * n2 ≤ 1000 ∧
  ∀ b H', Same H H' → (b = true ↔ leF ks T U) → Q (.bl b) H'
def spAnd77 (C CL : Addr) : Sp := fun vs H Q _ => ∃ (c1 c2 x1 x2 : Addr) (ks : List Nat) (ps T U : List (List Nat)) (n1 n2 : Nat), vs = [.ref c1, .ref c2] ∧ FlAt C CL H c1 x1 ks ps T n1 ∧ FlAt C CL H c2 x2 ks ps U n2 ∧ PsOk ps ∧ ks.Nodup ∧ ks.length ≤ 8 ∧ n1 * n2 ≤ 1000 ∧
  ∀ c H' R m, H c = none → Same H H' → FlAt C CL H' c x1 ks ps R m → AndF ks T U R → m ≤ n1 * n2 → Q (.ref c) H'
def spOr77 (C CL : Addr) : Sp := fun vs H Q _ => ∃ (c1 c2 x1 x2 : Addr) (ks : List Nat) (ps T U : List (List Nat)) (n1 n2 : Nat), vs = [.ref c1, .ref c2] ∧ FlAt C CL H c1 x1 ks ps T n1 ∧ FlAt C CL H c2 x2 ks ps U n2 ∧ PsOk ps ∧ ks.Nodup ∧ ks.length ≤ 8 ∧ n1 * n2 ≤ 1000 ∧
  ∀ c H' R m, H c = none → Same H H' → FlAt C CL H' c x1 ks ps R m → OrF ks T U R → Q (.ref c) H'
section
variable {P : Program} {w : World} {K : PySem.W.Frag} {mg : Str → Option Value} {base : Heap} {C R O CL : Addr}
abbrev stClosed_le : Stmt := (inClass (top 32) 11)
abbrev NClosed_le : List Str := ["self", "other", "over", "one", "two"]
theorem scClosed_le : FnScope NClosed_le ["self", "other"] (defScope stClosed_le) := ⟨rfl, rfl, rfl, by decide +kernel, rfl, by decide +kernel, by decide +kernel⟩

theorem ok_Closed_le (F : MAt K CL "__le__" "Closed.__le__" stClosed_le) (T : TxtSc K mg C R O CL) (D_need_same : Def P w K mg base CX0 3 "need_same" ["plan", "other"] (calmOf (spNeedSame C O))) (D_met_pairs : Def P w K mg base CX0 2 "met_pairs" ["one", "other"] (spMet77 CL)) : MDef P w K mg base CX0 4 CL "__le__" ["self", "other"] (spLe77 C CL) := by
  refine F.ok scClosed_le (fun _ _ _ _ _ _ us hl => match us, hl with | [_, _], _ => rfl) (fun vs H Q E h => ?_) (fun f cdv A outer s H vs Q E hr h => ?_)
  · obtain ⟨c1, c2, x1, x2, ks, ps, TT, U, n1, n2, rfl, _⟩ := h
    rfl
  obtain ⟨c1, c2, x1, x2, ks, ps, TT, U, n1, n2, rfl, fa, fb, psk, knd, k8, hN, k⟩ := h
  have hu := hu_of hr
  have nd := scClosed_le.nd
  replace D_met_pairs := D_met_pairs.mono (show 2 ≤ 3 by decide)
  refine ⟨_, (pss_cons (ps_if (pt_not (pt_val (pe_callB (c_isiK (K := K) rfl) (by rfl) T.isinstance (by decide +kernel) (pa_cons (pv 1) (pa_cons (pe_globC T.Closed.at) pa_nil)))))
      (pss_one ps_never)
      pss_nil)
      (pss_cons (ps_expr (pe_cd D_need_same hr pass0 (pa_cons (pe_flK (K := K) rfl (pv 0) rfl) (pa_cons (pe_flK (K := K) rfl (pv 1) rfl) pa_nil))))
      (pss_cons (ps_set (i := 2) nd rfl (Or.inl rfl) pe_dnewK)
      (pss_cons (ps_for PassesOwn.never rfl (pi_listK (K := K) rfl (pe_cd D_met_pairs hr pass0 (pa_cons (pv 0) (pa_cons (pv 1) pa_nil)))) (pg_tup rfl (pgs_cons (pg_name (i := 3) nd rfl (Or.inl rfl)) (pgs_cons (pg_name (i := 4) nd rfl (Or.inl rfl)) pgs_nil)))
      (pss_one (ps_if (pt_cmpR op_ne (pe_setd77 (pv 2) (pv 3) (pv 4)) (pv 4) (nomark _))
        (pss_one (ps_ret pe_bl))
        pss_nil)))
      (pss_one (ps_ret pe_bl)))))), ?_⟩
  refine s_start [some _, some _, none, none, none] rfl ?_
  obtain ⟨dx, fs, t1, q1, e1, e2, e3, e4, e5, e6⟩ := fa.cl.ex
  obtain ⟨dy, gs, t2, q2, f1, f2, f3, f4, f5, f6⟩ := fb.cl.ex
  walk_at "go2"
  refine v_isiC T.Closed f1 ?_
  walk_at "go2"
  refine v_fld e1 T.Closed.cl T.nQp e2 ?_
  walk_at "go2"
  refine v_fld f1 T.Closed.cl T.nQp f2 ?_
  walk_at "go2"
  refine ⟨x1, x2, true, rfl, ⟨_, _, _, _, fa.pl, fb.pl, psk, psk, (decide_eq_true ⟨rfl, rfl⟩).symm⟩, fun _ => ?_, fun z => nomatch z⟩
  walk_at "go2"
  intro ov H1 hov s1 eov
  walk_at "go2"
  refine ⟨c1, c2, x1, x2, TT, U, n1, n2, rfl, (fa.two fb hN).same s1, fun pl H2 hpl s2 pls => ?_⟩
  obtain ⟨E, a1, a2, a3⟩ := pls.ex
  have li := le_iff knd fa.fl fb.fl hN
  have hfd := (bfs_ok (n := n1 * n2) (x := 0) (prod_ok77 fa.fl.good.ok fb.fl.good.ok) (Nat.mul_pos fa.fl.good.n0 fb.fl.good.n0)).len
  generalize bfs (prodT n2 TT U) (n1 * n2) 0 = fd at *
  have lE : E.length = fd.length := by rw [← a1, List.length_map]
  have eov2 := s2 _ _ eov
  refine ⟨pl, rfl, ⟨_, SqL.of a2⟩, ?_⟩
  refine for_it (walk_refE (K := K) (t := pl) (E := E)) (fun i σ H' => ∃ y3 y4 l g, σ = [some (.ref c1), some (.ref c2), some (.ref ov), y3, y4] ∧ Keep ov H2 H' ∧ H' ov = some (.dK (nKV l fun x => .int ((g x : Nat) : Int))) ∧ l.length ≤ i ∧ (∀ x ∈ l, ∃ k, k < i ∧ fd.getD k 0 / n2 = x) ∧ ∀ k, k < i → fd.getD k 0 / n2 ∈ l ∧ g (fd.getD k 0 / n2) = fd.getD k 0 % n2) ⟨_, _, [], fun _ => 0, rfl, (fun _ _ h _ => h), eov2, Nat.le_refl _, (fun _ z => nomatch z), fun _ z => absurd z (Nat.not_lt_zero _)⟩ ?_ ?_ ?_
  · rintro i σ H' _ ⟨_, _, _, _, _, kp, _⟩
    exact SqL.of (kp _ _ a2 (ne_of_none eov hpl).symm)
  · rintro i v σ H3 H4 hi ⟨y3, y4, l, g, rfl, k3, e3', l3, o3, i3⟩ ⟨rfl, e0, he0, rfl⟩
    have ez : e0.1 = fd.getD i 0 := by rw [List.getD_eq_getElem?_getD, ← a1, List.getElem?_map, he0]; rfl
    have ep := (a3 _ (List.mem_of_getElem? he0)).keep k3 eov2 (fun z => nomatch z)
    rw [ez] at ep
    have hif : i < fd.length := by omega
    have hfN : fd.length ≤ 1000 := by
      have := hfd
      omega
    refine v_gTup2 rfl ep ?_
    walk_at "go2"
    refine e_setd77 ?_
    walk_at "go2"
    refine ⟨ov, rfl, isD_num e3', ?_⟩
    walk_at "go2"
    have lk : (nKV l fun x => V.int ((g x : Nat) : Int)).length = l.length := List.length_map _
    have kH : ∀ b o, H b = some o → b ≠ ov := fun b o hb => ne_of_none hb hov
    refine ⟨_, Sum.inl ((fd.getD i 0 / n2 : Nat) : Int), e3', rfl, szlt (by omega), fun u hu => ?_, fun hn => ?_⟩
    · have c : fd.getD i 0 / n2 ∈ l := by
        by_cases c : fd.getD i 0 / n2 ∈ l
        · exact c
        · rw [nKV_none c] at hu
          cases hu
      rw [nKV_some c] at hu
      injection hu with hu
      subst hu
      walk_at "go2"
      refine if_ndec (fun d => ?_) (fun d => ?_)
      · walk_at "go2"
        refine k false H4 (fun b o hb => k3 _ _ (s2 _ _ (s1 _ _ hb)) (kH b o hb)) ⟨(fun z => nomatch z), fun z => ?_⟩
        obtain ⟨j, hj, ej⟩ := o3 _ c
        have h := li.mpr z (fd.getD j 0) (getD_mem (by omega)) (fd.getD i 0) (getD_mem hif) ej
        have h2 := (i3 j hj).2
        rw [ej, h] at h2
        exact absurd (congrArg (fun n : Nat => V.int (n : Int)) h2) d
      · walk_at "go2"
        have hg : g (fd.getD i 0 / n2) = fd.getD i 0 % n2 := by
          injection d with d
          exact Int.ofNat_inj.mp d
        refine ⟨_, _, l, g, rfl, k3, e3', by omega, fun x hx => ?_, fun j hj => ?_⟩
        · obtain ⟨j, hj, ej⟩ := o3 x hx
          exact ⟨j, by omega, ej⟩
        · by_cases e : j = i
          · subst e
            exact ⟨c, hg⟩
          · exact i3 j (by omega)
    · have c : ¬ fd.getD i 0 / n2 ∈ l := fun c => by rw [nKV_some c] at hn; cases hn
      have k5 : Keep ov H4 (upd H4 ov (.dK (putK (nKV l fun x => V.int ((g x : Nat) : Int)) (Sum.inl ((fd.getD i 0 / n2 : Nat) : Int)) (.int ((fd.getD i 0 % n2 : Nat) : Int))))) := Keep.put
      have e5' := setd_upd (d := ov) (H := H4) (g := fun x => V.int ((g x : Nat) : Int)) (v := .int ((fd.getD i 0 % n2 : Nat) : Int)) c
      generalize upd H4 ov (.dK (putK (nKV l fun x => V.int ((g x : Nat) : Int)) (Sum.inl ((fd.getD i 0 / n2 : Nat) : Int)) (.int ((fd.getD i 0 % n2 : Nat) : Int)))) = H5 at *
      walk_at "go2"
      refine if_ndec (fun d => absurd rfl d) (fun _ => ?_)
      walk_at "go2"
      refine ⟨_, _, l ++ [fd.getD i 0 / n2], fun x => if x = fd.getD i 0 / n2 then fd.getD i 0 % n2 else g x, rfl, fun b o hb nb => k5 _ _ (k3 _ _ hb nb) nb, ?_, by rw [List.length_append, List.length_singleton]; omega, fun x hx => ?_, fun j hj => ?_⟩
      · rw [e5']
        refine congrArg (fun z => some (HO.dK z)) (congrArg (nKV (l ++ [fd.getD i 0 / n2])) (funext fun y => ?_))
        by_cases e : y = fd.getD i 0 / n2
        · rw [if_pos e]
          exact congrArg (fun n : Nat => V.int (n : Int)) (if_pos e).symm
        · rw [if_neg e]
          exact congrArg (fun n : Nat => V.int (n : Int)) (if_neg e).symm
      · rcases List.mem_append.mp hx with h | h
        · obtain ⟨j, hj, ej⟩ := o3 x h
          exact ⟨j, by omega, ej⟩
        · exact ⟨i, by omega, (List.mem_singleton.mp h).symm⟩
      · show _ ∧ (if fd.getD j 0 / n2 = fd.getD i 0 / n2 then _ else _) = _
        by_cases e : j = i
        · subst e
          rw [if_pos rfl]
          exact ⟨List.mem_append_right _ (List.mem_singleton.mpr rfl), rfl⟩
        · obtain ⟨h1, h2⟩ := i3 j (by omega)
          have ne : ¬ fd.getD j 0 / n2 = fd.getD i 0 / n2 := fun z => c (z ▸ h1)
          rw [if_neg ne]
          exact ⟨List.mem_append_left _ h1, h2⟩
  · rintro σ H3 ⟨y3, y4, l, g, rfl, k3, e3', l3, o3, i3⟩
    walk_at "go2"
    refine k true H3 (fun b o hb => k3 _ _ (s2 _ _ (s1 _ _ hb)) (ne_of_none hb hov)) ⟨fun _ => li.mp fun z hz y hy e => ?_, fun _ => rfl⟩
    obtain ⟨a, ha⟩ := List.mem_iff_getElem?.mp hz
    obtain ⟨b, hb⟩ := List.mem_iff_getElem?.mp hy
    have la := (List.getElem?_eq_some_iff.mp ha).1
    have lb := (List.getElem?_eq_some_iff.mp hb).1
    have h1 := (i3 a (by omega)).2
    have h2 := (i3 b (by omega)).2
    have ga : fd.getD a 0 = z := by rw [List.getD_eq_getElem?_getD, ha]; rfl
    have gb : fd.getD b 0 = y := by rw [List.getD_eq_getElem?_getD, hb]; rfl
    rw [ga] at h1
    rw [gb] at h2
    rw [← h1, ← h2, e]
abbrev stClosed_and : Stmt := (inClass (top 32) 12)
abbrev NClosed_and : List Str := ["self", "other"]
theorem scClosed_and : FnScope NClosed_and ["self", "other"] (defScope stClosed_and) := ⟨rfl, rfl, rfl, by decide +kernel, rfl, by decide +kernel, by decide +kernel⟩

theorem ok_Closed_and (F : MAt K CL "__and__" "Closed.__and__" stClosed_and) (T : TxtSc K mg C R O CL) (D_need_same : Def P w K mg base CX0 3 "need_same" ["plan", "other"] (calmOf (spNeedSame C O))) (D_met_pairs : Def P w K mg base CX0 2 "met_pairs" ["one", "other"] (spMet77 CL)) (D_pair_floor : Def P w K mg base CX0 6 "pair_floor" ["one", "other", "pairs"] (spPairF77 C CL)) : MDef P w K mg base CX0 7 CL "__and__" ["self", "other"] (spAnd77 C CL) := by
  refine F.ok scClosed_and (fun _ _ _ _ _ _ us hl => match us, hl with | [_, _], _ => rfl) (fun vs H Q E h => ?_) (fun f cdv A outer s H vs Q E hr h => ?_)
  · obtain ⟨c1, c2, x1, x2, ks, ps, TT, U, n1, n2, rfl, _⟩ := h
    rfl
  obtain ⟨c1, c2, x1, x2, ks, ps, TT, U, n1, n2, rfl, fa, fb, psk, knd, k8, hN, k⟩ := h
  have hu := hu_of hr
  have nd := scClosed_and.nd
  replace D_met_pairs := D_met_pairs.mono (show 2 ≤ 6 by decide)
  replace D_need_same := D_need_same.mono (show 3 ≤ 6 by decide)
  refine ⟨_, (pss_cons (ps_if (pt_not (pt_val (pe_callB (c_isiK (K := K) rfl) (by rfl) T.isinstance (by decide +kernel) (pa_cons (pv 1) (pa_cons (pe_globC T.Closed.at) pa_nil)))))
      (pss_one ps_never)
      pss_nil)
      (pss_cons (ps_expr (pe_cd D_need_same hr pass0 (pa_cons (pe_flK (K := K) rfl (pv 0) rfl) (pa_cons (pe_flK (K := K) rfl (pv 1) rfl) pa_nil))))
      (pss_one (ps_ret (pe_cd D_pair_floor hr pass0 (pa_cons (pv 0) (pa_cons (pv 1) (pa_cons (pe_cd D_met_pairs hr pass0 (pa_cons (pv 0) (pa_cons (pv 1) pa_nil))) pa_nil)))))))), ?_⟩
  refine s_start [some _, some _] rfl ?_
  obtain ⟨dx, fs, t1, q1, e1, e2, e3, e4, e5, e6⟩ := fa.cl.ex
  obtain ⟨dy, gs, t2, q2, f1, f2, f3, f4, f5, f6⟩ := fb.cl.ex
  walk_at "go2"
  refine v_isiC T.Closed f1 ?_
  walk_at "go2"
  refine v_fld e1 T.Closed.cl T.nQp e2 ?_
  walk_at "go2"
  refine v_fld f1 T.Closed.cl T.nQp f2 ?_
  walk_at "go2"
  refine ⟨x1, x2, true, rfl, ⟨_, _, _, _, fa.pl, fb.pl, psk, psk, (decide_eq_true ⟨rfl, rfl⟩).symm⟩, fun _ => ?_, fun z => nomatch z⟩
  walk_at "go2"
  refine ⟨c1, c2, x1, x2, TT, U, n1, n2, rfl, fa.two fb hN, fun pl H2 hpl s2 pls => ?_⟩
  walk_at "go2"
  refine ⟨c1, c2, pl, x1, x2, ks, ps, TT, U, n1, n2, rfl, (fa.two fb hN).same s2, fa.pl.same s2, knd, fa.fl, fb.fl, k8, pls, fun c H3 hc s3 cc => ?_⟩
  obtain ⟨fl, an⟩ := and_is knd fa.fl fb.fl hN
  exact k c H3 _ _ (Same.free s2 hc) (s2.trans s3) ⟨cc, fa.pl.same (s2.trans s3), fl⟩ an (bfs_ok (n := n1 * n2) (x := 0) (prod_ok77 fa.fl.good.ok fb.fl.good.ok) (Nat.mul_pos fa.fl.good.n0 fb.fl.good.n0)).len
end
end
section
open PySem PySem.Spec L2
section
variable {ks : List Nat} {ps T U : List (List Nat)} {n1 n2 : Nat}
/-- a door leads two places that hang together to two places that hang together -/
theorem con_row (knd : ks.Nodup) (f : Flo ks ps T n1) (g : Flo ks ps U n2) (hN : n1 * n2 ≤ 1000) {r : List Nat} (hr : r ∈ pairT n1 n2 T U) {i j : Nat} (h : Con (shL n2 (bfs (prodT n2 T U) (n1 * n2) 0)) i j) (hi : i < pairM n1 n2 T U) : Con (shL n2 (bfs (prodT n2 T U) (n1 * n2) 0)) (r.getD i 0) (r.getD j 0) := by
  have pg := prod_good knd f.good g.good hN
  have cl := Cl.of_bfs pg.ok pg.n0
  obtain ⟨pr, hpr, rfl⟩ := List.mem_map.mp hr
  obtain ⟨c, hc, rfl⟩ := row_kind knd pg.lT hpr
  rw [rowK_prod f.good.lT g.good.lT hc] at *
  have m1 := rowK_mem f.good.lT hc
  have m2 := rowK_mem g.good.lT hc
  have l1 := (f.good.ok _ m1).1
  unfold pairM at hi
  generalize hfd : bfs (prodT n2 T U) (n1 * n2) 0 = fd at *
  have key : ∀ p, p < fd.length → fd.getD ((rowN fd (prodR n2 (rowK ks T c) (rowK ks U c))).getD p 0) 0 / n2 = (rowK ks T c).getD (fd.getD p 0 / n2) 0 ∧ fd.getD ((rowN fd (prodR n2 (rowK ks T c) (rowK ks U c))).getD p 0) 0 % n2 = (rowK ks U c).getD (fd.getD p 0 % n2) 0 := fun p hp => by
    have d := dec_enc (cl.lt _ (getD_mem hp))
    have e := prodR_get (n2 := n2) (r1 := rowK ks T c) (r2 := rowK ks U c) (a := fd.getD p 0 / n2) (b := fd.getD p 0 % n2) l1 d.1 d.2.1
    rw [d.2.2] at e
    have lt := g.good.ok.get m2 d.2.1
    rw [ph_row cl hpr hp, e, enc_div lt, enc_mod lt]
    exact ⟨rfl, rfl⟩
  have lt : ∀ p, p < fd.length → (rowN fd (prodR n2 (rowK ks T c) (rowK ks U c))).getD p 0 < fd.length := fun p hp => rowN_lt cl hpr hp
  clear hi
  induction h with
  | re a => exact .re _
  | st s _ ih =>
    obtain ⟨ha, hb, e⟩ := s
    refine .st ⟨lt _ ha, lt _ hb, ?_⟩ ih
    rw [(key _ ha).1, (key _ hb).1, (key _ ha).2, (key _ hb).2]
    exact e.imp (fun e => by rw [e]) fun e => by rw [e]
end
theorem refs_ex {Rl : Nat → Addr → List Nat → Prop} : ∀ {vs : List V} {i : Nat}, (∀ (k : Nat) v, vs[k]? = some v → ∃ p r, v = .ref p ∧ Rl (i + k) p r) → ∃ E : List (List Nat × Addr), vs = refV E ∧ E.length = vs.length ∧ ∀ (k : Nat) e, E[k]? = some e → Rl (i + k) e.2 e.1
  | [], _, _ => ⟨[], rfl, rfl, fun k e z => by simp at z⟩
  | v :: vs, i, h => by
    obtain ⟨p, r, rfl, h0⟩ := h 0 v rfl
    obtain ⟨E, e1, e2, e3⟩ := refs_ex (vs := vs) (i := i + 1) fun k v hk => by
      obtain ⟨p, r, e, hr⟩ := h (k + 1) v hk
      exact ⟨p, r, e, by rw [show i + 1 + k = i + (k + 1) by omega]; exact hr⟩
    refine ⟨(r, p) :: E, by rw [e1]; rfl, by rw [List.length_cons, e2]; rfl, fun k e hk => ?_⟩
    cases k with
    | zero =>
      injection hk with hk
      subst hk
      exact h0
    | succ k =>
      rw [show i + (k + 1) = i + 1 + k by omega]
      exact e3 k e hk
section
variable {P : Program} {w : World} {K : PySem.W.Frag} {mg : Str → Option Value} {base : Heap} {C R O CL : Addr}
abbrev stClosed_or : Stmt := (inClass (top 32) 13)
abbrev NClosed_or : List Str := ["self", "other", "pairs", "both", "marks", "row"]
theorem scClosed_or : FnScope NClosed_or ["self", "other"] (defScope stClosed_or) := ⟨rfl, rfl, rfl, by decide +kernel, rfl, by decide +kernel, by decide +kernel⟩

theorem ok_Closed_or (F : MAt K CL "__or__" "Closed.__or__" stClosed_or) (T : TxtSc K mg C R O CL) (D_need_same : Def P w K mg base CX0 3 "need_same" ["plan", "other"] (calmOf (spNeedSame C O))) (D_met_pairs : Def P w K mg base CX0 2 "met_pairs" ["one", "other"] (spMet77 CL)) (D_pair_floor : Def P w K mg base CX0 6 "pair_floor" ["one", "other", "pairs"] (spPairF77 C CL)) (D_joint_marks : Def P w K mg base CX0 1 "joint_marks" ["pairs"] spJoint77) (D_merged_row : Def P w K mg base CX0 1 "merged_row" ["row", "marks"] spMrow77) (C_Closed : CDef P w K mg base CX0 4 "Closed" CL (spClosed K C CL)) : MDef P w K mg base CX0 7 CL "__or__" ["self", "other"] (spOr77 C CL) := by
  refine F.ok scClosed_or (fun _ _ _ _ _ _ us hl => match us, hl with | [_, _], _ => rfl) (fun vs H Q E h => ?_) (fun f cdv A outer s H vs Q E hr h => ?_)
  · obtain ⟨c1, c2, x1, x2, ks, ps, TT, U, n1, n2, rfl, _⟩ := h
    rfl
  obtain ⟨c1, c2, x1, x2, ks, ps, TT, U, n1, n2, rfl, fa, fb, psk, knd, k8, hN, k⟩ := h
  have hu := hu_of hr
  have nd := scClosed_or.nd
  replace D_met_pairs := D_met_pairs.mono (show 2 ≤ 6 by decide)
  replace D_need_same := D_need_same.mono (show 3 ≤ 6 by decide)
  replace D_joint_marks := D_joint_marks.mono (show 1 ≤ 6 by decide)
  replace D_merged_row := D_merged_row.mono (show 1 ≤ 6 by decide)
  replace C_Closed := C_Closed.mono (show 4 ≤ 5 by decide)
  refine ⟨_, (pss_cons (ps_if (pt_not (pt_val (pe_callB (c_isiK (K := K) rfl) (by rfl) T.isinstance (by decide +kernel) (pa_cons (pv 1) (pa_cons (pe_globC T.Closed.at) pa_nil)))))
      (pss_one ps_never)
      pss_nil)
      (pss_cons (ps_expr (pe_cd D_need_same hr pass0 (pa_cons (pe_flK (K := K) rfl (pv 0) rfl) (pa_cons (pe_flK (K := K) rfl (pv 1) rfl) pa_nil))))
      (pss_cons (ps_set (i := 2) nd rfl (Or.inl rfl) (pe_cd D_met_pairs hr pass0 (pa_cons (pv 0) (pa_cons (pv 1) pa_nil))))
      (pss_cons (ps_set (i := 3) nd rfl (Or.inl rfl) (pe_cd D_pair_floor hr pass0 (pa_cons (pv 0) (pa_cons (pv 1) (pa_cons (pv 2) pa_nil)))))
      (pss_cons (ps_set (i := 4) nd rfl (Or.inr rfl) (pe_cd D_joint_marks hr pass0 (pa_cons (pv 2) pa_nil)))
      (pss_one (ps_ret (pe_mk C_Closed hr pass0 (pa_cons (pe_flK (K := K) rfl (pv 0) rfl) (pa_cons (pe_lc (own := [("row", 5)]) (g := gName 5) (by rfl) nd (pi_tupK (K := K) rfl (pe_flK (K := K) rfl (pv 3) rfl)) (blkOk_by (own := [("row", 5)]) (N := NClosed_or) (sc := defScope stClosed_or) (by decide +kernel)) (fun _ _ _ _ _ => (pg_name (i := 5) nd rfl (Or.inl rfl))) (fun _ _ _ _ _ => pts_nil) (fun _ _ _ _ _ => (pe_cd D_merged_row hr pass0 (pa_cons (pv 5) (pa_cons (pv 4) pa_nil))))) pa_nil)))))))))), ?_⟩
  refine s_start [some _, some _, none, none, none, none] rfl ?_
  obtain ⟨dx, fs, t1, q1, e1, e2, e3, e4, e5, e6⟩ := fa.cl.ex
  obtain ⟨dy, gs, t2, q2, f1, f2, f3, f4, f5, f6⟩ := fb.cl.ex
  walk_at "go2"
  refine v_isiC T.Closed f1 ?_
  walk_at "go2"
  refine v_fld e1 T.Closed.cl T.nQp e2 ?_
  walk_at "go2"
  refine v_fld f1 T.Closed.cl T.nQp f2 ?_
  walk_at "go2"
  refine ⟨x1, x2, true, rfl, ⟨_, _, _, _, fa.pl, fb.pl, psk, psk, (decide_eq_true ⟨rfl, rfl⟩).symm⟩, fun _ => ?_, fun z => nomatch z⟩
  walk_at "go2"
  refine ⟨c1, c2, x1, x2, TT, U, n1, n2, rfl, fa.two fb hN, fun pl H2 hpl s2 pls => ?_⟩
  walk_at "go2"
  refine ⟨c1, c2, pl, x1, x2, ks, ps, TT, U, n1, n2, rfl, (fa.two fb hN).same s2, fa.pl.same s2, knd, fa.fl, fb.fl, k8, pls, fun bo H3 hbo s3 cb => ?_⟩
  obtain ⟨fl, an⟩ := and_is knd fa.fl fb.fl hN
  have hm := fl.good.ln
  walk_at "go2"
  refine ⟨pl, n2, _, rfl, pls.same s3, hm, fun mp H4 mk hmp s4 emp lmk con => ?_⟩
  walk_at "go2"
  have s14 := (s2.trans s3).trans s4
  refine v_fld (s14 _ _ e1) T.Closed.cl T.nQp e2 ?_
  obtain ⟨db, bs, tb, qb, b1, b2, b3, b4, b5, b6⟩ := cb.ex
  walk_at "go2"
  refine v_fld (s4 _ _ b1) T.Closed.cl T.nQt b3 ?_
  obtain ⟨E, a1, a2, a3⟩ := (b5.keep s4).ex
  have lE : E.length = ks.length := by rw [← fl.good.lT, ← a1, List.length_map]
  refine ⟨tb, rfl, ⟨_, SqT.of a2⟩, ?_⟩
  have w1 := walk_tabT (K := K) (t := tb) (E := E)
  refine lc_newR (n := E.length) (it := fun j => (refV E).getD j .non) (fun j H' p => ∃ e R, E[j]? = some e ∧ H' p = some (.lst (numV R)) ∧ R.length = (uniq77 [] mk).length ∧ ∀ q, q < mk.length → R.getD (cls77 mk q) 0 = cls77 mk (e.1.getD q 0)) (fun j p H5 H6 ⟨e, R, he, z, y⟩ s => ⟨e, R, he, s _ _ z, y⟩) (fun j p H5 H6 D l ⟨e, R, he, z, y⟩ np e0 kp => ⟨e, R, he, kp _ _ z np, y⟩) (w1.mono (G' := fun H' => Same H4 H') (fun H' s => SqT.of (s _ _ a2)) fun j H' v H2 hj _ y => ⟨y.1, by obtain ⟨_, e, he, rfl⟩ := y; exact (refV_get he).symm⟩) (fun _ s => s) (by omega) (fun j hj H5 s5 R r => ?_) (fun j hj H5 s5 R r => ?_) (fun tl H5 vs htl s5 etl lv rv => ?_)
  · walk_at "go"
    exact r H5 (Same.refl _)
  · obtain ⟨e, he⟩ : ∃ e, E[j]? = some e := ⟨_, List.getElem?_eq_getElem hj⟩
    have eT : e.1 ∈ pairT n1 n2 TT U := by rw [← a1]; exact List.mem_map.mpr ⟨e, List.mem_of_getElem? he, rfl⟩
    have ok := fl.good.ok _ eT
    rw [refV_get he]
    walk_at "go"
    have lm : mk.length = pairM n1 n2 TT U := lmk
    refine ⟨e.2, mp, e.1, mk, rfl, s5 _ _ (a3 e (List.mem_of_getElem? he)), s5 _ _ emp, by rw [ok.1, lm], fun p hp => by rw [lm] at hp ⊢; exact fl.good.ok.get eT hp, by rw [lm]; exact hm, fun p q hp hq e' => ?_, fun p H6 R hp s6 ep lR hR => r p H6 hp s6 ⟨e, R, he, ep, lR, hR⟩⟩
    rw [lm] at hp hq
    exact (con _ _ (fl.good.ok.get eT hp) (fl.good.ok.get eT hq)).mpr (con_row knd fa.fl fb.fl hN eT ((con p q hp hq).mp e') hp)
  have lm : mk.length = pairM n1 n2 TT U := lmk
  obtain ⟨G, rfl, lG, hG⟩ := refs_ex (vs := vs) (i := 0) (Rl := fun j p R => ∃ e, E[j]? = some e ∧ H5 p = some (.lst (numV R)) ∧ R.length = (uniq77 [] mk).length ∧ ∀ q, q < mk.length → R.getD (cls77 mk q) 0 = cls77 mk (e.1.getD q 0)) fun j v hv => by
    obtain ⟨p, rfl, _, e, R, he, y⟩ := rv j v hv
    exact ⟨p, R, rfl, e, by rw [Nat.zero_add]; exact he, y⟩
  have mg : Merge (pairM n1 n2 TT U) (uniq77 [] mk).length (cls77 mk) (pairT n1 n2 TT U) (G.map (·.1)) ks := by
    have lGE : G.length = E.length := by rw [List.length_map] at lv; exact lv
    have m0 : 0 < mk.length := by rw [lm]; exact fl.good.n0
    have eM : ∀ {e}, e ∈ E → e.1 ∈ pairT n1 n2 TT U := fun h => by rw [← a1]; exact List.mem_map.mpr ⟨_, h, rfl⟩
    refine ⟨by rw [List.length_map, lGE, lE], fun r hr => ?_, fun p hp => cls_lt (by rw [lm]; exact hp), fun a ha => ?_, cls_z m0, fun c hc p hp => ?_⟩
    · obtain ⟨e, he, rfl⟩ := List.mem_map.mp hr
      obtain ⟨j, hj⟩ := List.mem_iff_getElem?.mp he
      obtain ⟨e0, he0, _, lR, hR⟩ := hG j e hj
      refine ⟨lR, fun v hv => ?_⟩
      obtain ⟨a, ha⟩ := List.mem_iff_getElem?.mp hv
      have la := (List.getElem?_eq_some_iff.mp ha).1
      rw [lR] at la
      obtain ⟨q, hq, eq⟩ := cls_on la
      have h := hR q hq
      rw [eq, List.getD_eq_getElem?_getD, ha] at h
      have h : v = cls77 mk (e0.1.getD q 0) := h
      rw [h]
      have hq' := hq
      rw [lm] at hq'
      exact cls_lt (by rw [lm]; exact fl.good.ok.get (eM (List.mem_of_getElem? he0)) hq')
    · obtain ⟨q, hq, e⟩ := cls_on ha
      exact ⟨q, by rw [← lm]; exact hq, e⟩
    · have hj := (ixOf_get hc).1
      obtain ⟨e, he⟩ : ∃ e, G[ixOf ks c]? = some e := ⟨_, List.getElem?_eq_getElem (by omega)⟩
      obtain ⟨e0, he0, _, lR, hR⟩ := hG _ e he
      rw [Nat.zero_add] at he0
      have r1 : rowK ks (G.map (·.1)) c = e.1 := by
        unfold rowK
        rw [List.getD_eq_getElem?_getD, List.getElem?_map, he]
        rfl
      have r2 : rowK ks (pairT n1 n2 TT U) c = e0.1 := by
        unfold rowK
        rw [← a1, List.getD_eq_getElem?_getD, List.getElem?_map, he0]
        rfl
      rw [r1, r2]
      exact hR p (by rw [lm]; exact hp)
  obtain ⟨gR, orF⟩ := or_is knd fa.fl fb.fl hN (fun i j hi hj => by
    rw [cls_eq (by rw [lm]; exact hi) (by rw [lm]; exact hj)]
    exact con i j hi hj) mg
  have s15 := s14.trans s5
  walk_at "go"
  refine ⟨x1, tl, ks, ps, G.map (·.1), (uniq77 [] mk).length, rfl, gR.arg (fa.pl.same s15) ⟨G, rfl, .inl etl, fun e he => ?_⟩, fun c H6 hc s6 ca => ?_⟩
  · obtain ⟨j, hj⟩ := List.mem_iff_getElem?.mp he
    obtain ⟨e0, _, h, _⟩ := hG j e hj
    exact .inl h
  exact k c H6 _ _ (Same.free s15 hc) (s15.trans s6) ⟨ca, fa.pl.same (s15.trans s6), canon_of gR⟩ orF
end
end
section
open PySem PySem.Spec L2
def spApart75 (C CL O : Addr) : Sp := fun vs H Q E => ∃ (c1 c2 x1 x2 : Addr) (T U : List (List Nat)) (n1 n2 : Nat), vs = [.ref c1, .ref c2] ∧ ClosedAt CL H c1 x1 T n1 ∧ ClosedAt CL H c2 x2 U n2 ∧ Plans2 C H x1 x2 false ∧ E (.ref O) none H
section
variable {P : Program} {w : World} {K : PySem.W.Frag} {mg : Str → Option Value} {base : Heap} {C R O CL : Addr}
abbrev stClosed_leX : Stmt := (inClass (top 32) 11)
abbrev NClosed_leX : List Str := ["self", "other", "over", "one", "two"]
theorem scClosed_leX : FnScope NClosed_leX ["self", "other"] (defScope stClosed_leX) := ⟨rfl, rfl, rfl, by decide +kernel, rfl, by decide +kernel, by decide +kernel⟩

theorem ok_Closed_leX (F : MAt K CL "__le__" "Closed.__le__" stClosed_leX) (T : TxtSc K mg C R O CL) (D_need_same : Def P w K mg base (L2.CX P w) 3 "need_same" ["plan", "other"] (spNeedSame C O)) (D_met_pairs : Def P w K mg base CX0 2 "met_pairs" ["one", "other"] (spMet77 CL)) : MDef P w K mg base (L2.CX P w) 4 CL "__le__" ["self", "other"] (spApart75 C CL O) := by
  refine F.okX scClosed_leX (fun _ _ _ _ _ _ us hl => match us, hl with | [_, _], _ => rfl) (fun vs H Q E h => ?_) (fun f cdv A outer s H vs Q E hr h => ?_)
  · obtain ⟨c1, c2, x1, x2, TT, U, n1, n2, rfl, _⟩ := h
    rfl
  obtain ⟨c1, c2, x1, x2, TT, U, n1, n2, rfl, ca, cb, pp, k⟩ := h
  have hu := hu_of hr
  have nd := scClosed_leX.nd
  replace D_need_same := D_need_same.mono (show 3 ≤ 3 by decide)
  replace D_met_pairs := D_met_pairs.mono (show 2 ≤ 3 by decide)
  refine ⟨_, (pss_cons (ps_if (pt_not (pt_val (pe_callB (c_isiK (K := K) rfl) (by rfl) T.isinstance (by decide +kernel) (pa_cons (pv 1) (pa_cons (pe_globC T.Closed.at) pa_nil)))))
      (pss_one ps_never)
      pss_nil)
      (pss_cons (ps_expr (pe_cd D_need_same hr (passes_call (takes_of rfl rfl rfl rfl) (fun _ _ _ _ h => h)) (pa_cons (pe_flK (K := K) rfl (pv 0) rfl) (pa_cons (pe_flK (K := K) rfl (pv 1) rfl) pa_nil))))
      (pss_cons (ps_set (i := 2) nd rfl (Or.inl rfl) pe_dnewK)
      (pss_cons (ps_for PassesOwn.leaving rfl (pi_listK (K := K) rfl (pe_cd D_met_pairs hr pass0 (pa_cons (pv 0) (pa_cons (pv 1) pa_nil)))) (pg_tup rfl (pgs_cons (pg_name (i := 3) nd rfl (Or.inl rfl)) (pgs_cons (pg_name (i := 4) nd rfl (Or.inl rfl)) pgs_nil)))
      (pss_one (ps_if (pt_cmpR op_ne (pe_setd77 (pv 2) (pv 3) (pv 4)) (pv 4) (nomark _))
        (pss_one (ps_ret pe_bl))
        pss_nil)))
      (pss_one (ps_ret pe_bl)))))), ?_⟩
  refine s_start [some _, some _, none, none, none] rfl ?_
  obtain ⟨dx, fs, t1, q1, e1, e2, e3, e4, e5, e6⟩ := ca.ex
  obtain ⟨dy, gs, t2, q2, f1, f2, f3, f4, f5, f6⟩ := cb.ex
  walk_at "go2"
  refine v_isiC T.Closed f1 ?_
  walk_at "go2"
  refine v_fld e1 T.Closed.cl T.nQp e2 ?_
  walk_at "go2"
  refine v_fld f1 T.Closed.cl T.nQp f2 ?_
  walk_at "go2"
  exact ⟨x1, x2, false, rfl, pp, (fun z => nomatch z), fun _ => k⟩
abbrev stClosed_andX : Stmt := (inClass (top 32) 12)
abbrev NClosed_andX : List Str := ["self", "other"]
theorem scClosed_andX : FnScope NClosed_andX ["self", "other"] (defScope stClosed_andX) := ⟨rfl, rfl, rfl, by decide +kernel, rfl, by decide +kernel, by decide +kernel⟩

theorem ok_Closed_andX (F : MAt K CL "__and__" "Closed.__and__" stClosed_andX) (T : TxtSc K mg C R O CL) (D_need_same : Def P w K mg base (L2.CX P w) 3 "need_same" ["plan", "other"] (spNeedSame C O)) (D_met_pairs : Def P w K mg base CX0 2 "met_pairs" ["one", "other"] (spMet77 CL)) (D_pair_floor : Def P w K mg base CX0 6 "pair_floor" ["one", "other", "pairs"] (spPairF77 C CL)) : MDef P w K mg base (L2.CX P w) 7 CL "__and__" ["self", "other"] (spApart75 C CL O) := by
  refine F.okX scClosed_andX (fun _ _ _ _ _ _ us hl => match us, hl with | [_, _], _ => rfl) (fun vs H Q E h => ?_) (fun f cdv A outer s H vs Q E hr h => ?_)
  · obtain ⟨c1, c2, x1, x2, TT, U, n1, n2, rfl, _⟩ := h
    rfl
  obtain ⟨c1, c2, x1, x2, TT, U, n1, n2, rfl, ca, cb, pp, k⟩ := h
  have hu := hu_of hr
  have nd := scClosed_andX.nd
  replace D_need_same := D_need_same.mono (show 3 ≤ 6 by decide)
  replace D_met_pairs := D_met_pairs.mono (show 2 ≤ 6 by decide)
  refine ⟨_, (pss_cons (ps_if (pt_not (pt_val (pe_callB (c_isiK (K := K) rfl) (by rfl) T.isinstance (by decide +kernel) (pa_cons (pv 1) (pa_cons (pe_globC T.Closed.at) pa_nil)))))
      (pss_one ps_never)
      pss_nil)
      (pss_cons (ps_expr (pe_cd D_need_same hr (passes_call (takes_of rfl rfl rfl rfl) (fun _ _ _ _ h => h)) (pa_cons (pe_flK (K := K) rfl (pv 0) rfl) (pa_cons (pe_flK (K := K) rfl (pv 1) rfl) pa_nil))))
      (pss_one (ps_ret (pe_cd D_pair_floor hr pass0 (pa_cons (pv 0) (pa_cons (pv 1) (pa_cons (pe_cd D_met_pairs hr pass0 (pa_cons (pv 0) (pa_cons (pv 1) pa_nil))) pa_nil)))))))), ?_⟩
  refine s_start [some _, some _] rfl ?_
  obtain ⟨dx, fs, t1, q1, e1, e2, e3, e4, e5, e6⟩ := ca.ex
  obtain ⟨dy, gs, t2, q2, f1, f2, f3, f4, f5, f6⟩ := cb.ex
  walk_at "go2"
  refine v_isiC T.Closed f1 ?_
  walk_at "go2"
  refine v_fld e1 T.Closed.cl T.nQp e2 ?_
  walk_at "go2"
  refine v_fld f1 T.Closed.cl T.nQp f2 ?_
  walk_at "go2"
  exact ⟨x1, x2, false, rfl, pp, (fun z => nomatch z), fun _ => k⟩
abbrev stClosed_orX : Stmt := (inClass (top 32) 13)
abbrev NClosed_orX : List Str := ["self", "other", "pairs", "both", "marks", "row"]
theorem scClosed_orX : FnScope NClosed_orX ["self", "other"] (defScope stClosed_orX) := ⟨rfl, rfl, rfl, by decide +kernel, rfl, by decide +kernel, by decide +kernel⟩

theorem ok_Closed_orX (F : MAt K CL "__or__" "Closed.__or__" stClosed_orX) (T : TxtSc K mg C R O CL) (D_need_same : Def P w K mg base (L2.CX P w) 3 "need_same" ["plan", "other"] (spNeedSame C O)) (D_met_pairs : Def P w K mg base CX0 2 "met_pairs" ["one", "other"] (spMet77 CL)) (D_pair_floor : Def P w K mg base CX0 6 "pair_floor" ["one", "other", "pairs"] (spPairF77 C CL)) (D_joint_marks : Def P w K mg base CX0 1 "joint_marks" ["pairs"] spJoint77) (D_merged_row : Def P w K mg base CX0 1 "merged_row" ["row", "marks"] spMrow77) (C_Closed : CDef P w K mg base CX0 4 "Closed" CL (spClosed K C CL)) : MDef P w K mg base (L2.CX P w) 7 CL "__or__" ["self", "other"] (spApart75 C CL O) := by
  refine F.okX scClosed_orX (fun _ _ _ _ _ _ us hl => match us, hl with | [_, _], _ => rfl) (fun vs H Q E h => ?_) (fun f cdv A outer s H vs Q E hr h => ?_)
  · obtain ⟨c1, c2, x1, x2, TT, U, n1, n2, rfl, _⟩ := h
    rfl
  obtain ⟨c1, c2, x1, x2, TT, U, n1, n2, rfl, ca, cb, pp, k⟩ := h
  have hu := hu_of hr
  have nd := scClosed_orX.nd
  replace D_need_same := D_need_same.mono (show 3 ≤ 6 by decide)
  replace D_met_pairs := D_met_pairs.mono (show 2 ≤ 6 by decide)
  replace D_joint_marks := D_joint_marks.mono (show 1 ≤ 6 by decide)
  replace D_merged_row := D_merged_row.mono (show 1 ≤ 6 by decide)
  replace C_Closed := C_Closed.mono (show 4 ≤ 5 by decide)
  refine ⟨_, (pss_cons (ps_if (pt_not (pt_val (pe_callB (c_isiK (K := K) rfl) (by rfl) T.isinstance (by decide +kernel) (pa_cons (pv 1) (pa_cons (pe_globC T.Closed.at) pa_nil)))))
      (pss_one ps_never)
      pss_nil)
      (pss_cons (ps_expr (pe_cd D_need_same hr (passes_call (takes_of rfl rfl rfl rfl) (fun _ _ _ _ h => h)) (pa_cons (pe_flK (K := K) rfl (pv 0) rfl) (pa_cons (pe_flK (K := K) rfl (pv 1) rfl) pa_nil))))
      (pss_cons (ps_set (i := 2) nd rfl (Or.inl rfl) (pe_cd D_met_pairs hr pass0 (pa_cons (pv 0) (pa_cons (pv 1) pa_nil))))
      (pss_cons (ps_set (i := 3) nd rfl (Or.inl rfl) (pe_cd D_pair_floor hr pass0 (pa_cons (pv 0) (pa_cons (pv 1) (pa_cons (pv 2) pa_nil)))))
      (pss_cons (ps_set (i := 4) nd rfl (Or.inr rfl) (pe_cd D_joint_marks hr pass0 (pa_cons (pv 2) pa_nil)))
      (pss_one (ps_ret (pe_mk C_Closed hr pass0 (pa_cons (pe_flK (K := K) rfl (pv 0) rfl) (pa_cons (pe_lc (own := [("row", 5)]) (g := gName 5) (by rfl) nd (pi_tupK (K := K) rfl (pe_flK (K := K) rfl (pv 3) rfl)) (blkOk_by (own := [("row", 5)]) (N := NClosed_orX) (sc := defScope stClosed_orX) (by decide +kernel)) (fun _ _ _ _ _ => (pg_name (i := 5) nd rfl (Or.inl rfl))) (fun _ _ _ _ _ => pts_nil) (fun _ _ _ _ _ => (pe_cd D_merged_row hr pass0 (pa_cons (pv 5) (pa_cons (pv 4) pa_nil))))) pa_nil)))))))))), ?_⟩
  refine s_start [some _, some _, none, none, none, none] rfl ?_
  obtain ⟨dx, fs, t1, q1, e1, e2, e3, e4, e5, e6⟩ := ca.ex
  obtain ⟨dy, gs, t2, q2, f1, f2, f3, f4, f5, f6⟩ := cb.ex
  walk_at "go2"
  refine v_isiC T.Closed f1 ?_
  walk_at "go2"
  refine v_fld e1 T.Closed.cl T.nQp e2 ?_
  walk_at "go2"
  refine v_fld f1 T.Closed.cl T.nQp f2 ?_
  walk_at "go2"
  exact ⟨x1, x2, false, rfl, pp, (fun z => nomatch z), fun _ => k⟩
end
end
section
open PySem PySem.Spec L2
theorem Plans2.same {C : Addr} {H H' : Hp} {x y : Addr} {e : Bool} (h : Plans2 C H x y e) (s : Same H H') : Plans2 C H' x y e := by
  obtain ⟨ks, ks', ps, ps', a, b, c⟩ := h
  exact ⟨ks, ks', ps, ps', a.same s, b.same s, c⟩
def spRoomLen (R : Addr) : Sp := fun vs H Q _ => ∃ (r x : Addr) (name : List Nat), vs = [.ref r] ∧ RoomAt R H r x name ∧ name.length ≤ 100000 ∧ Q (.int name.length) H
/-- two rooms, and whether their plans are equal -/
structure Rooms2 (C R : Addr) (H : Hp) (r x : Addr) (a : List Nat) (r' y : Addr) (b : List Nat) (e : Bool) : Prop where
  one : RoomAt R H r x a
  two : RoomAt R H r' y b
  pl : Plans2 C H x y e
  la : a.length ≤ 2000
  lb : b.length ≤ 2000
theorem Rooms2.same {C R : Addr} {H H' : Hp} {r x : Addr} {a : List Nat} {r' y : Addr} {b : List Nat} {e : Bool} (h : Rooms2 C R H r x a r' y b e) (s : Same H H') : Rooms2 C R H' r x a r' y b e := ⟨h.one.same s, h.two.same s, h.pl.same s, h.la, h.lb⟩
def spRoomEq (C R : Addr) : Sp := fun vs H Q _ => ∃ (r x : Addr) (a : List Nat) (r' y : Addr) (b : List Nat) (e : Bool), vs = [.ref r, .ref r'] ∧ Rooms2 C R H r x a r' y b e ∧ Q (.bl (e && decide (a = b))) H
theorem roomF_no {x : Addr} {name : List Nat} {m : Str} (h1 : ¬ m = "name") (h2 : ¬ m = "plan") : (roomF x name).lookup m = none := by
  unfold roomF
  rw [lookup_putF, if_neg h1, lookup_putF, if_neg h2]
  rfl
section
variable {P : Program} {w : World} {K : PySem.W.Frag} {mg : Str → Option Value} {base : Heap} {C R O : Addr}
end
end
section
open PySem PySem.Spec L2
/-- a room and a text -/
def spRoomEqS (R : Addr) : Sp := fun vs H Q _ => ∃ (r : Addr) (z : Str), vs = [.ref r, .str z] ∧ Q (.bl false) H
section
variable {P : Program} {w : World} {K : PySem.W.Frag} {mg : Str → Option Value} {base : Heap} {C R O : Addr}
end
end
section
open PySem PySem.Spec L2
theorem if_nI {c A B : Prop} {inst : Decidable c} (h : c) (q : B) : if (!decide c) = true then A else B := if_ndec (fun z => absurd h z) (fun _ => q)
theorem if_I {c A B : Prop} {inst : Decidable c} (h : c) (q : A) : if decide c = true then A else B := if_dec (fun _ => q) (fun z => absurd h z)
/-! ### rooms of one plan -/
theorem RoomAt.go {R : Addr} {H H' : Hp} {r x : Addr} {name : List Nat} (s : Same H H') (h : RoomAt R H r x name) : RoomAt R H' r x name := h.same s
theorem PlanAt.go {C : Addr} {H H' : Hp} {x : Addr} {ks : List Nat} {ps : List (List Nat)} (s : Same H H') (h : PlanAt C H x ks ps) : PlanAt C H' x ks ps := h.same s
section
variable {K : PySem.W.Frag} {H : Hp} {Q : VK} {C R r r' x : Addr} {a b : List Nat} {ks : List Nat} {ps : List (List Nat)} {E : XK}
theorem v_rname {P : V → Prop} (h : RoomAt R H r x a) (c : Cls K R) (n : NoAttr K R "name") (q : P (.str (tx a))) : ∃ a' C dx fs v, V.ref r = .ref a' ∧ H a' = some (.ins C dx fs) ∧ Cls K C ∧ NoAttr K C "name" ∧ fs.lookup ("name" : Str) = some v ∧ P v := by
  obtain ⟨dx, e⟩ := h.ex
  exact v_fld e c n roomF_n q
theorem v_rnameG {P : V → Prop} (q : ∃ R x a, RoomAt R H r x a ∧ Cls K R ∧ NoAttr K R "name" ∧ P (.str (tx a))) : ∃ a' C dx fs v, V.ref r = .ref a' ∧ H a' = some (.ins C dx fs) ∧ Cls K C ∧ NoAttr K C "name" ∧ fs.lookup ("name" : Str) = some v ∧ P v := by
  obtain ⟨R, x, a, h, c, n, q⟩ := q
  exact v_rname h c n q
theorem v_rplan {P : V → Prop} (h : RoomAt R H r x a) (c : Cls K R) (n : NoAttr K R "plan") (q : P (.ref x)) : ∃ a' C dx fs v, V.ref r = .ref a' ∧ H a' = some (.ins C dx fs) ∧ Cls K C ∧ NoAttr K C "plan" ∧ fs.lookup ("plan" : Str) = some v ∧ P v := by
  obtain ⟨dx, e⟩ := h.ex
  exact v_fld e c n roomF_p q
theorem v_rplanG {P : V → Prop} (q : ∃ R x a, RoomAt R H r x a ∧ Cls K R ∧ NoAttr K R "plan" ∧ P (.ref x)) : ∃ a' C dx fs v, V.ref r = .ref a' ∧ H a' = some (.ins C dx fs) ∧ Cls K C ∧ NoAttr K C "plan" ∧ fs.lookup ("plan" : Str) = some v ∧ P v := by
  obtain ⟨R, x, a, h, c, n, q⟩ := q
  exact v_rplan h c n q
theorem rooms2 (h1 : RoomAt R H r x a) (h2 : RoomAt R H r' x b) (pl : PlanAt C H x ks ps) (ok : PsOk ps) (la : a.length ≤ 2000) (lb : b.length ≤ 2000) : Rooms2 C R H r x a r' x b true := ⟨h1, h2, ⟨ks, ks, ps, ps, pl, pl, ok, ok, (decide_eq_true ⟨rfl, rfl⟩).symm⟩, la, lb⟩
theorem v_req (h1 : RoomAt R H r x a) (h2 : RoomAt R H r' x b) (pl : PlanAt C H x ks ps) (ok : PsOk ps) (la : a.length ≤ 2000) (lb : b.length ≤ 2000) (q : Q (.bl (decide (a = b))) H) : rM2 R (spRoomEq C R) E (.ref r) (.ref r') H Q := by
  obtain ⟨dx, e1⟩ := h1.ex
  obtain ⟨dy, e2⟩ := h2.ex
  refine v_M2 e1 e2 ⟨_, _, _, _, _, _, _, rfl, rooms2 h1 h2 pl ok la lb, ?_⟩
  rw [Bool.true_and]
  exact q
theorem v_rne (h1 : RoomAt R H r x a) (h2 : RoomAt R H r' x b) (pl : PlanAt C H x ks ps) (ok : PsOk ps) (la : a.length ≤ 2000) (lb : b.length ≤ 2000) (q : Q (.bl (!decide (a = b))) H) : rM2n R (spRoomEq C R) E (.ref r) (.ref r') H Q := by
  obtain ⟨dx, e1⟩ := h1.ex
  obtain ⟨dy, e2⟩ := h2.ex
  refine v_M2n e1 e2 ⟨_, _, _, _, _, _, _, rfl, rooms2 h1 h2 pl ok la lb, ?_⟩
  rw [Bool.true_and]
  exact ⟨_, rfl, q⟩
theorem v_rlen (h : RoomAt R H r x a) (l : a.length ≤ 100000) (q : Q (.int a.length) H) : rLenM R (spRoomLen R) E [.ref r] H Q := by
  obtain ⟨dx, e⟩ := h.ex
  exact v_lenM e ⟨_, _, _, rfl, h, l, a.length, rfl, by omega, q⟩
theorem v_reqT {z : Str} (h : RoomAt R H r x a) (q : Q (.bl false) H) : rMS R (spRoomEqS R) E (.ref r) (.str z) H Q := by
  obtain ⟨dx, e⟩ := h.ex
  exact v_MS e ⟨_, _, rfl, q⟩
theorem v_rlenG (q : ∃ x a, RoomAt R H r x a ∧ a.length ≤ 100000 ∧ Q (.int a.length) H) : rLenM R (spRoomLen R) E [.ref r] H Q := by
  obtain ⟨x, a, h, l, q⟩ := q
  exact v_rlen h l q
theorem v_reqG (q : ∃ x a b ks ps, RoomAt R H r x a ∧ RoomAt R H r' x b ∧ PlanAt C H x ks ps ∧ PsOk ps ∧ a.length ≤ 2000 ∧ b.length ≤ 2000 ∧ Q (.bl (decide (a = b))) H) : rM2 R (spRoomEq C R) E (.ref r) (.ref r') H Q := by
  obtain ⟨x, a, b, ks, ps, h1, h2, h3, h4, h5, h6, q⟩ := q
  exact v_req h1 h2 h3 h4 h5 h6 q
theorem v_rneG (q : ∃ x a b ks ps, RoomAt R H r x a ∧ RoomAt R H r' x b ∧ PlanAt C H x ks ps ∧ PsOk ps ∧ a.length ≤ 2000 ∧ b.length ≤ 2000 ∧ Q (.bl (!decide (a = b))) H) : rM2n R (spRoomEq C R) E (.ref r) (.ref r') H Q := by
  obtain ⟨x, a, b, ks, ps, h1, h2, h3, h4, h5, h6, q⟩ := q
  exact v_rne h1 h2 h3 h4 h5 h6 q
theorem v_reqTG {z : Str} (q : ∃ x a, RoomAt R H r x a ∧ Q (.bl false) H) : rMS R (spRoomEqS R) E (.ref r) (.str z) H Q := by
  obtain ⟨x, a, h, q⟩ := q
  exact v_reqT h q
theorem v_peqS {x : Addr} (pl : PlanAt C H x ks ps) (ok : PsOk ps) (q : Q (.bl true) H) : rM2 C (spPlanEq C) E (.ref x) (.ref x) H Q := by
  obtain ⟨dx, t, d, e, _⟩ := pl.ex
  refine v_M2 e e ⟨_, _, _, _, _, _, rfl, pl, pl, ok, ok, ?_⟩
  rw [decide_eq_true ⟨rfl, rfl⟩]
  exact q
theorem v_peqG {x : Addr} (q : ∃ ks ps, PlanAt C H x ks ps ∧ PsOk ps ∧ Q (.bl true) H) : rM2 C (spPlanEq C) E (.ref x) (.ref x) H Q := by
  obtain ⟨ks, ps, h1, h2, q⟩ := q
  exact v_peqS h1 h2 q
end
/-! ### rooms of a drawn floor -/
section
variable {K : PySem.W.Frag} {H : Hp} {Q : VK} {C R r x : Addr} {ls : List Nat} {fn : Nat → List Nat} {a b w : List Nat} {k : Nat} {E : XK}
end
theorem v_mdRG {R r : Addr} {H : Hp} {m : Str} {P : Prop} (q : ∃ x a, RoomAt R H r x a ∧ (¬ m = "name" ∧ ¬ m = "plan") ∧ P) : ∃ a dx fs, V.ref r = .ref a ∧ H a = some (.ins R dx fs) ∧ fs.lookup m = none ∧ P := by
  obtain ⟨x, a, h, ⟨h1, h2⟩, q⟩ := q
  obtain ⟨dx, e⟩ := h.ex
  exact ⟨r, dx, _, rfl, e, roomF_no h1 h2, q⟩
end
section
open PySem PySem.Spec L2
section
variable {P : Program} {w : World} {K : PySem.W.Frag} {mg : Str → Option Value} {base : Heap} {C : Addr}
end
end
section
open PySem PySem.Spec L2
section
variable {P : Program} {w : World} {K : PySem.W.Frag} {mg : Str → Option Value} {base : Heap} {C R O : Addr}
end
end
section
open PySem PySem.Spec L2
section
variable {P : Program} {w : World} {K : PySem.W.Frag} {mg : Str → Option Value} {base : Heap} {C R O : Addr}
end
/-! ### of a drawn floor -/
section
variable {K : PySem.W.Frag} {H : Hp} {Q : VK} {C R O r r' x : Addr} {ls : List Nat} {fn : Nat → List Nat} {a b : List Nat} {E : XK}
end
end
section
open PySem PySem.Spec L2
/-! ### walls -/
def wallF (x : Addr) (k : Nat) (r : Addr) : List (Str × V) := putF "room" (.ref r) (putF "kind" (.str (tx [k])) (putF "plan" (.ref x) []))
/-- a wall stands at a; its room, which has the name m, at r -/
structure WallAt (W R : Addr) (H : Hp) (a r x : Addr) (k : Nat) (m : List Nat) : Prop where
  ex : ∃ dx, H a = some (.ins W dx (wallF x k r))
  ro : RoomAt R H r x m
theorem WallAt.same {W R : Addr} {H H' : Hp} {a r x : Addr} {k : Nat} {m : List Nat} (h : WallAt W R H a r x k m) (s : Same H H') : WallAt W R H' a r x k m := by
  obtain ⟨⟨dx, e⟩, ro⟩ := h
  exact ⟨⟨dx, s _ _ e⟩, ro.same s⟩
structure TxtW (K : PySem.W.Frag) (mg : Str → Option Value) (C R O W : Addr) : Prop extends TxtR K mg C R O where
  Wall : ClsF K mg "Wall" W
  nWp : NoAttr K W "plan"
  nWk : NoAttr K W "kind"
  nWr : NoAttr K W "room"
section
variable {P : Program} {w : World} {K : PySem.W.Frag} {mg : Str → Option Value} {base : Heap} {C R O W : Addr}
end
/-! ### of a drawn floor -/
section
variable {K : PySem.W.Frag} {H : Hp} {Q : VK} {C R W r x : Addr} {ls : List Nat} {fn : Nat → List Nat} {a : List Nat} {k : Nat} {E : XK}
end
end
section
open PySem PySem.Spec L2
theorem Keep.free {p x : Addr} {H H' : Hp} (k : Keep p H H') (h : H' x = none) (n : x ≠ p) : H x = none := by
  cases z : H x with
  | none => rfl
  | some o =>
    have := k _ _ z n
    rw [h] at this
    cases this
section
variable {P : Program} {w : World} {K : PySem.W.Frag} {mg : Str → Option Value} {base : Heap} {C R O : Addr}
end
end
section
open PySem PySem.Spec L2
section
variable {P : Program} {w : World} {K : PySem.W.Frag} {mg : Str → Option Value} {base : Heap}
end
end
section
open PySem PySem.Spec L2
section
variable {P : Program} {w : World} {K : PySem.W.Frag} {mg : Str → Option Value} {base : Heap} {C R O W : Addr}
end
/-! ### vectors -/
theorem dp_vec {K : PySem.W.Frag} {H : Hp} (v : Nat → Int) : ∀ ls : List Nat, DpAll K H (vecV ls v) ((ls.map v).map PyData.int)
  | [] => .nil
  | n :: r => .cons (.int _) (dp_vec v r)
theorem shaped_intsT (ns : List Int) : SeqAt.shaped (.tuple (ns.map PyData.int)) = true := by
  have h := dep_ints ns
  have h2 : (PyData.tuple (ns.map PyData.int)).depth ≤ 64 := by simp only [PyData.depth]; omega
  have h3 : (PyData.tuple (ns.map PyData.int)).canLay0 = true := by simp only [PyData.canLay0]; exact lay_ints ns
  simp [SeqAt.shaped, h2, h3]
theorem eqvAll_ints : ∀ (a b : List Int), PyData.eqvAll (a.map PyData.int) (b.map PyData.int) = decide (a = b)
  | [], [] => by simp [PyData.eqvAll]
  | [], _ :: _ => by simp [PyData.eqvAll]
  | _ :: _, [] => by simp [PyData.eqvAll]
  | x :: a, y :: b => by
    simp only [List.map_cons, PyData.eqvAll, PyData.eqv, eqvAll_ints a b]
    by_cases e : x = y
    · subst e; simp
    · simp [e]
theorem map_eq {u v : Nat → Int} : ∀ {ls : List Nat}, ls.map u = ls.map v ↔ ∀ x ∈ ls, u x = v x
  | [] => ⟨fun _ _ h => (nomatch h), fun _ => rfl⟩
  | y :: r => by
    rw [List.map_cons, List.map_cons, List.cons.injEq, map_eq]
    exact ⟨fun h x hx => (List.mem_cons.mp hx).elim (fun z => z ▸ h.1) (h.2 x), fun h => ⟨h y (List.mem_cons_self ..), fun x hx => h x (List.mem_cons_of_mem _ hx)⟩⟩
section
variable {H : Hp} {Q : VK} {K : PySem.W.Frag} {p q : Addr} {ls : List Nat} {u v : Nat → Int}
end
end
section
open PySem PySem.Spec L2
structure VecsAt (H : Hp) (D : Addr) (ls : List Nat) (us : List (Nat → Int)) : Prop where
  ex : ∃ As : List Addr, H D = some (.lst (As.map V.ref)) ∧ Paired (fun a u => H a = some (.tup (vecV ls u))) As us
theorem paired_imp {α β : Type} {r r' : α → β → Prop} (h : ∀ a b, r a b → r' a b) : ∀ {as : List α} {bs : List β}, Paired r as bs → Paired r' as bs
  | _, _, .nil => .nil
  | _, _, .cons a t => .cons (h _ _ a) (paired_imp h t)
theorem paired_len {α β : Type} {r : α → β → Prop} : ∀ {as : List α} {bs : List β}, Paired r as bs → as.length = bs.length
  | _, _, .nil => rfl
  | _, _, .cons _ t => by rw [List.length_cons, List.length_cons, paired_len t]
theorem VecsAt.same {H H' : Hp} {D : Addr} {ls : List Nat} {us : List (Nat → Int)} (h : VecsAt H D ls us) (s : Same H H') : VecsAt H' D ls us := by
  obtain ⟨As, e, p⟩ := h.ex
  exact ⟨As, s _ _ e, paired_imp (fun _ _ z => s _ _ z) p⟩
theorem MarksAt.lst {H H' : Hp} {m q : Addr} {ls : List Nat} {M : Nat → Nat → Int} {l : List V} (h : MarksAt H m ls M) (e0 : H q = some (.lst l)) (k : Keep q H H') : MarksAt H' m ls M := by
  obtain ⟨A, a, b⟩ := h.ex
  exact ⟨A, k _ _ a (ne_of a e0 (by intro z; cases z)), fun c hc => k _ _ (b c hc) (ne_of (b c hc) e0 (by intro z; cases z))⟩
/-! ### a vector among vectors -/
theorem op_notInDK {X : Cx} {K : PySem.W.Frag} (h : X.K = K) (hu : X.A.units + 65 < cLine) : OpR X (compareOp .NotIn) (rNotInD K) := h ▸ op_notInD hu
abbrev vecD (ls : List Nat) (u : Nat → Int) : PyData := .tuple ((ls.map u).map PyData.int)
theorem dp_vecs {K : PySem.W.Frag} {H : Hp} {ls : List Nat} : ∀ {As : List Addr} {us : List (Nat → Int)}, Paired (fun a u => H a = some (.tup (vecV ls u))) As us → DpAll K H (As.map V.ref) (us.map (vecD ls))
  | _, _, .nil => .nil
  | _, _, .cons h t => .cons (.tup (SqT.of h) (dp_vec _ _)) (dp_vecs t)
theorem lay_vecs (ls : List Nat) : ∀ us : List (Nat → Int), PyData.canLayAll0 (us.map (vecD ls)) = true
  | [] => rfl
  | u :: r => by
    show (PyData.canLay0 (vecD ls u) && PyData.canLayAll0 (r.map (vecD ls))) = true
    rw [lay_vecs ls r]
    have : PyData.canLay0 (vecD ls u) = true := by simp only [PyData.canLay0]; exact lay_ints _
    rw [this]
    rfl
theorem dep_vecs (ls : List Nat) : ∀ us : List (Nat → Int), PyData.depthAll (us.map (vecD ls)) ≤ 2
  | [] => Nat.zero_le _
  | u :: r => Nat.max_le.mpr ⟨by
      have h := dep_ints (ls.map u)
      show PyData.depth (vecD ls u) ≤ 2
      simp only [PyData.depth]
      omega, dep_vecs ls r⟩
theorem shaped_vecs (ls : List Nat) (us : List (Nat → Int)) : SeqAt.shaped (.list (us.map (vecD ls))) = true := by
  have h := dep_vecs ls us
  have h2 : (PyData.list (us.map (vecD ls))).depth ≤ 64 := by simp only [PyData.depth]; omega
  have h3 : (PyData.list (us.map (vecD ls))).canLay0 = true := by simp only [PyData.canLay0]; exact lay_vecs ls us
  simp [SeqAt.shaped, h2, h3]
theorem eqv_vec {ls : List Nat} {u v : Nat → Int} : PyData.eqv (vecD ls u) (vecD ls v) = decide (∀ x ∈ ls, u x = v x) := by
  show PyData.eqvAll _ _ = _
  rw [eqvAll_ints]
  exact decide_eq_decide.mpr map_eq
section
variable {H : Hp} {Q : VK} {K : PySem.W.Frag} {p D : Addr} {ls : List Nat} {v : Nat → Int} {us : List (Nat → Int)}
end
/-! ### beyond, touches -/
section
variable {P : Program} {w : World} {K : PySem.W.Frag} {mg : Str → Option Value} {base : Heap} {C R O W : Addr}
end
/-! ### of a drawn floor -/
section
variable {K : PySem.W.Frag} {H : Hp} {Q : VK} {C R O W r x y : Addr} {a' b' : Addr} {ls : List Nat} {fn : Nat → List Nat} {a b : List Nat} {k : Nat} {E : XK} {m : List Nat}
end
end
section
open PySem PySem.Spec L2
/-! ### lists of vectors -/
section
variable {K : PySem.W.Frag} {H : Hp} {ls : List Nat} {us : List (Nat → Int)} {As : List Addr} {D0 : Addr} {σ : St} {i : Nat} {tt : TT} {te : TE} {P : Addr → Hp → Prop}
theorem VecsAt.cat {Q : VK} {D1 D2 : Addr} {vs : List (Nat → Int)} (h1 : VecsAt H D1 ls us) (h2 : VecsAt H D2 ls vs) (hl : us.length + vs.length ≤ 1000000) (q : ∀ D H', H D = none → Same H H' → VecsAt H' D ls (us ++ vs) → Q (.ref D) H') : rCat (.ref D1) (.ref D2) H Q := by
  obtain ⟨As, a1, a2⟩ := h1.ex
  obtain ⟨Bs, b1, b2⟩ := h2.ex
  have la := paired_len a2
  have lb := paired_len b2
  refine v_cat a1 b1 (by rw [List.length_map, List.length_map]; omega) fun D H' hD s' e' => q D H' hD s' ⟨As ++ Bs, by rw [e', List.map_append], ?_⟩
  have app : ∀ {A : List Addr} {U : List (Nat → Int)}, Paired (fun a u => H' a = some (.tup (vecV ls u))) A U → Paired (fun a u => H' a = some (.tup (vecV ls u))) (A ++ Bs) (U ++ vs) := fun {A U} p => by
    induction p with
    | nil => exact paired_imp (fun _ _ h => s' _ _ h) b2
    | cons h _ ih => exact .cons h ih
  exact app (paired_imp (fun _ _ h => s' _ _ h) a2)
theorem v_notInV {Q : VK} {p D : Addr} {v : Nat → Int} (h1 : H p = some (.tup (vecV ls v))) (h2 : VecsAt H D ls us) (k : Q (.bl (!decide (∃ u ∈ us, ∀ x ∈ ls, u x = v x))) H) : rNotInD K (.ref p) (.ref D) H Q := by
  obtain ⟨As, e, pr⟩ := h2.ex
  refine ⟨vecD ls v, us.map (vecD ls), .tup (SqT.of h1) (dp_vec _ _), .lst (SqL.of e) (dp_vecs pr), shaped_intsT _, shaped_vecs ls us, ?_⟩
  have e2 : ((us.map (vecD ls)).any fun z => PyData.eqv z (vecD ls v)) = decide (∃ u ∈ us, ∀ x ∈ ls, u x = v x) := by
    rw [List.any_map, Bool.eq_iff_iff, List.any_eq_true, decide_eq_true_iff]
    exact ⟨fun ⟨u, hu, h⟩ => ⟨u, hu, by simpa [eqv_vec] using h⟩, fun ⟨u, hu, h⟩ => ⟨u, hu, by simpa [eqv_vec] using h⟩⟩
  rw [e2]
  exact k
theorem VecsAt.pen {D : Addr} {g : Pen} {n : Nat} {H' : Hp} (h : VecsAt H D ls us) (p : PenAt g H n) (kp : Keep g.p H H') : VecsAt H' D ls us := by
  obtain ⟨As, e, pr⟩ := h.ex
  obtain ⟨_, _, h1, _⟩ := p.ex
  exact ⟨As, kp _ _ e (ne_of e h1 (by intro z; cases z)), paired_imp (fun a u z => kp _ _ z (ne_of z h1 (by intro z; cases z))) pr⟩
theorem VecsAt.keep {D p : Addr} {l : List V} {H' : Hp} (h : VecsAt H p ls us) (n : p ≠ D) (e0 : H D = some (.lst l)) (k : Keep D H H') : VecsAt H' p ls us := by
  obtain ⟨As, e, pr⟩ := h.ex
  exact ⟨As, k _ _ e n, paired_imp (fun a u z => k _ _ z (ne_of z e0 (by intro z; cases z))) pr⟩
end
end
section
open PySem PySem.Spec L2
section
variable {X : Cx} {o e : Expr} {to te : TE} {apos cpos : PySem.Pos}
theorem pe_indexD75 {K : PySem.W.Frag} (h : X.K = K) (hu : X.A.units + 65 < cLine) (ho : PE X o to) (he : PE X e te) (hbase : attributeBase o "index" X.env (eval o X.env) = eval o X.env := by rfl)
    (hfew : ((backTo cpos (starEach [e] X.env)).all (fun x => !x.1) && (backToKw cpos (keywordEach [] X.env)).all (fun x => x.1.isSome) && decide ([e].length + ([] : List Keyword).length + (if ([] : List Keyword).isEmpty then 0 else 1) < 30)) = true := by rfl)
    (hline : (apos.endLine == cpos.line) = true := by rfl) (hs : starEach [e] X.env = (false, eval e X.env) :: starEach [] X.env := by rfl) (hplain : (backTo cpos (starEach [] X.env)).any (·.1) = false := by rfl) :
    PE X (.Call (.Attribute o "index" apos) [e] [] cpos) (tBM K "list" (rIndexD K) to (tCons te tNil)) := h ▸ pe_bm PySem.F.plainAttrs_list PySem.F.slot_list_index PySem.F.type_list_index (mt_indexD hu) ho (pa_cons he pa_nil hs) hbase hfew hline hs hplain
end
/-- a pair as a vector of two -/
def pv2 (n2 z : Nat) : Nat → Int := fun i => if i = 0 then ((z / n2 : Nat) : Int) else ((z % n2 : Nat) : Int)
theorem pv2_eq {n2 a b : Nat} : (∀ x ∈ [0, 1], pv2 n2 a x = pv2 n2 b x) ↔ a = b := by
  constructor
  · intro h
    have h0 : ((a / n2 : Nat) : Int) = ((b / n2 : Nat) : Int) := h 0 (by simp)
    have h1 : ((a % n2 : Nat) : Int) = ((b % n2 : Nat) : Int) := h 1 (by simp)
    have e0 := Int.ofNat.inj h0
    have e1 := Int.ofNat.inj h1
    rw [← Nat.div_add_mod a n2, ← Nat.div_add_mod b n2, e0, e1]
  · rintro rfl _ _
    rfl
theorem pairs_vecs {n2 : Nat} {H : Hp} : ∀ {E : List (Nat × Addr)}, (∀ e ∈ E, PairAt n2 H e.2 e.1) → Paired (fun a u => H a = some (.tup (vecV [0, 1] u))) (E.map (·.2)) ((E.map (·.1)).map (pv2 n2))
  | [], _ => .nil
  | a :: r, h => .cons (h a (List.mem_cons_self ..)) (pairs_vecs fun e he => h e (List.mem_cons_of_mem _ he))
theorem RefsL.vecs75 {n2 : Nat} {H : Hp} {p : Addr} {l : List Nat} (h : PairsL n2 H p l) : VecsAt H p [0, 1] (l.map (pv2 n2)) := by
  obtain ⟨E, rfl, e2, e3⟩ := h.ex
  exact ⟨E.map (·.2), by rw [e2]; unfold refV; rw [List.map_map]; rfl, pairs_vecs e3⟩
theorem v_notInP {K : PySem.W.Frag} {H : Hp} {Q : VK} {n2 z : Nat} {a p : Addr} {l : List Nat} (h1 : PairAt n2 H a z) (h2 : PairsL n2 H p l) (k : Q (.bl (!decide (z ∈ l))) H) : rNotInD K (.ref a) (.ref p) H Q := by
  refine v_notInV (ls := [0, 1]) (v := pv2 n2 z) h1 h2.vecs75 ?_
  have e : (∃ u ∈ l.map (pv2 n2), ∀ x ∈ [0, 1], u x = pv2 n2 z x) ↔ z ∈ l := ⟨fun ⟨u, hu, hx⟩ => by
    obtain ⟨y, hy, rfl⟩ := List.mem_map.mp hu
    exact (pv2_eq.mp hx) ▸ hy, fun h => ⟨_, List.mem_map.mpr ⟨z, h, rfl⟩, fun _ _ => rfl⟩⟩
  refine (congrArg (fun b => Q (.bl (!b)) H) (decide_eq_decide.mpr e)).mpr k
theorem idx_le75 : ∀ {l : List Nat} {m : Nat} (h : m < l.length), l.idxOf l[m] ≤ m
  | a :: r, 0, _ => by rw [List.getElem_cons_zero, List.idxOf_cons_self]; exact Nat.le_refl _
  | a :: r, m + 1, h => by
    rw [List.getElem_cons_succ, List.idxOf_cons]
    have := idx_le75 (l := r) (m := m) (by simpa using h)
    cases h : (a == r[m]'(by simpa using h)) with
    | true => exact Nat.zero_le _
    | false => exact Nat.succ_le_succ this
theorem v_indexP {K : PySem.W.Frag} {H : Hp} {Q : VK} {n2 z : Nat} {a p : Addr} {l : List Nat} (h1 : PairAt n2 H a z) (h2 : PairsL n2 H p l) (hz : z ∈ l) (k : Q (.int ((ixOf l z : Nat) : Int)) H) : rIndexD K (.ref p) [.ref a] H Q := by
  obtain ⟨As, e, pr⟩ := h2.vecs75.ex
  obtain ⟨hi, hg⟩ := ixOf_get hz
  refine ⟨p, .ref a, vecD [0, 1] (pv2 n2 z), (l.map (pv2 n2)).map (vecD [0, 1]), ixOf l z, vecD [0, 1] (pv2 n2 z), rfl, rfl, .lst (SqL.of e) (dp_vecs pr), .tup (SqT.of (show H a = some (.tup (vecV [0, 1] (pv2 n2 z))) from h1)) (dp_vec _ _), shaped_vecs _ _, shaped_intsT _, ?_, ?_, fun m z' hm hz' => ?_, k⟩
  · rw [List.getElem?_map, List.getElem?_map, List.getElem?_eq_getElem hi]
    rw [List.getD_eq_getElem?_getD, List.getElem?_eq_getElem hi] at hg
    have hg : l[ixOf l z] = z := hg
    rw [hg]
    rfl
  · rw [eqv_vec]
    exact decide_eq_true fun _ _ => rfl
  · rw [List.getElem?_map, List.getElem?_map] at hz'
    have hml : m < l.length := by omega
    rw [List.getElem?_eq_getElem hml] at hz'
    have hz' : vecD [0, 1] (pv2 n2 l[m]) = z' := Option.some.inj hz'
    rw [← hz', eqv_vec]
    refine decide_eq_false fun h => ?_
    have e2 := pv2_eq.mp h
    have : ixOf l z ≤ m := by
      unfold ixOf
      rw [← e2]
      exact idx_le75 hml
    omega
end
section
open PySem PySem.Spec L2
theorem units65 {k : Nat} {A : Around} (r : L2.Room k A) : A.units + 65 < cLine := by have := r.un; omega
theorem fp_pre75 (T : List (List Nat)) : ∀ (m i : Nat) (fd : List Nat), ∃ q, fp T m i fd = fd ++ q
  | 0, _, fd => ⟨[], (List.append_nil _).symm⟩
  | m + 1, i, fd => by
    show ∃ q, (if i < fd.length then fp T m (i + 1) (addT T (fd.getD i 0) fd) else fd) = fd ++ q
    split
    · obtain ⟨q1, h1⟩ := addT_pre T (fd.getD i 0) fd
      obtain ⟨q2, h2⟩ := fp_pre75 T m (i + 1) (addT T (fd.getD i 0) fd)
      exact ⟨q1 ++ q2, by rw [h2, h1, List.append_assoc]⟩
    · exact ⟨[], (List.append_nil _).symm⟩
theorem ix_pre75 {l q : List Nat} {z : Nat} (h : z ∈ l) : ixOf (l ++ q) z = ixOf l z := by
  unfold ixOf
  rw [List.idxOf_append, if_pos h]
/-- rows told by letters, each in a list of its own that is new over H0 -/
structure RwM (H0 H : Hp) (d : Addr) (keys : List Nat) (r : Nat → List Nat) : Prop where
  ex : ∃ a : Nat → Addr, H d = some (.dK (keys.map fun c => ((Sum.inr (tx [c]) : Key), V.ref (a c)))) ∧ (∀ c ∈ keys, H (a c) = some (.lst (numV (r c))) ∧ H0 (a c) = none) ∧ ∀ c ∈ keys, ∀ c' ∈ keys, a c = a c' → c = c'
theorem RwM.dic {H0 H : Hp} {d : Addr} {keys : List Nat} {r : Nat → List Nat} (h : RwM H0 H d keys r) : DicT H d keys r := by
  obtain ⟨a, e1, e2, _⟩ := h.ex
  exact ⟨a, e1, fun c hc => (e2 c hc).1⟩
theorem RwM.same {H0 H H' : Hp} {d : Addr} {keys : List Nat} {r : Nat → List Nat} (h : RwM H0 H d keys r) (s : Same H H') : RwM H0 H' d keys r := by
  obtain ⟨a, e1, e2, e3⟩ := h.ex
  exact ⟨a, s _ _ e1, fun c hc => ⟨s _ _ (e2 c hc).1, (e2 c hc).2⟩, e3⟩
theorem RwM.keep {H0 H H' : Hp} {d p : Addr} {o : HO} {keys : List Nat} {r : Nat → List Nat} (h : RwM H0 H d keys r) (k : Keep p H H') (h0 : H0 p = some o) (hd : d ≠ p) : RwM H0 H' d keys r := by
  obtain ⟨a, e1, e2, e3⟩ := h.ex
  exact ⟨a, k _ _ e1 hd, fun c hc => ⟨k _ _ (e2 c hc).1 (ne_of_none h0 (e2 c hc).2).symm, (e2 c hc).2⟩, e3⟩
theorem RwM.congr {H0 H : Hp} {d : Addr} {keys : List Nat} {r r' : Nat → List Nat} (h : RwM H0 H d keys r) (e : ∀ c ∈ keys, r c = r' c) : RwM H0 H d keys r' := by
  obtain ⟨a, e1, e2, e3⟩ := h.ex
  exact ⟨a, e1, fun c hc => ⟨by rw [← e c hc]; exact (e2 c hc).1, (e2 c hc).2⟩, e3⟩
def spPairs75 (C : Addr) : Sp := fun vs H Q _ => ∃ (q d1 d2 x y : Addr) (ks : List Nat) (gs : List (List Nat)) (k1 k2 : List Nat) (r1 r2 : Nat → List Nat) (n1 n2 : Nat), vs = [.ref q, .ref d1, .ref d2] ∧ SceneAt C H q ks gs x y ∧ DicT H d1 k1 r1 ∧ DicT H d2 k2 r2 ∧ (∀ c ∈ ks, c ∈ k1 ∧ c ∈ k2) ∧ OkT n1 (ks.map r1) ∧ OkT n2 (ks.map r2) ∧ ks.Nodup ∧ ks.length ≤ 8 ∧ 0 < n1 ∧ 0 < n2 ∧ n1 * n2 ≤ 1000 ∧
  ∀ t f u H', H t = none → H f = none → H u = none → Same H H' → H' t = some (.tup [.ref f, .ref u]) → PairsL n2 H' f (bfs (prodT n2 (ks.map r1) (ks.map r2)) (n1 * n2) 0) → DicT H' u ks (fun c => (bfs (prodT n2 (ks.map r1) (ks.map r2)) (n1 * n2) 0).map fun z => ixOf (bfs (prodT n2 (ks.map r1) (ks.map r2)) (n1 * n2) 0) ((prodR n2 (r1 c) (r2 c)).getD z 0)) → Q (.ref t) H'
theorem prod_map75 {n2 : Nat} {r1 r2 : Nat → List Nat} : ∀ {ks : List Nat}, prodT n2 (ks.map r1) (ks.map r2) = ks.map fun c => prodR n2 (r1 c) (r2 c)
  | [] => rfl
  | c :: r => by
    have ih := prod_map75 (n2 := n2) (r1 := r1) (r2 := r2) (ks := r)
    unfold prodT at ih ⊢
    rw [List.map_cons, List.map_cons, List.zipWith_cons_cons, ih]
    rfl
section
variable {P : Program} {w : World} {K : PySem.W.Frag} {mg : Str → Option Value} {base : Heap} {C R O CL : Addr}
abbrev stpairs75 : Stmt := (top 48)
abbrev Npairs75 : List Str := ["_law_scene_here", "_law_one", "_law_other", "_law_found", "_law_at", "_law_rows", "_law_door", "_law_pair"]
theorem scpairs75 : FnScope Npairs75 ["_law_scene_here", "_law_one", "_law_other"] (defScope stpairs75) := ⟨rfl, rfl, rfl, by decide +kernel, rfl, by decide +kernel, by decide +kernel⟩

theorem ok_pairs75 (F : FnAt K mg "_law_pairs" stpairs75) (T : TxtSc K mg C R O CL) : Def P w K mg base CX0 1 "_law_pairs" ["_law_scene_here", "_law_one", "_law_other"] (spPairs75 C) := by
  refine F.ok scpairs75 (fun _ _ _ _ _ _ us hl => match us, hl with | [_, _, _], _ => rfl) (fun vs H Q E h => ?_) (fun f cdv A outer s H vs Q E hr h => ?_)
  · obtain ⟨q, d1, d2, x, y, ks, gs, k1, k2, r1, r2, n1, n2, rfl, _⟩ := h
    rfl
  obtain ⟨q, d1, d2, x, y, ks, gs, k1, k2, r1, r2, n1, n2, rfl, sc, dt1, dt2, hk, ok1, ok2, knd, k8, p1, p2, hN, k⟩ := h
  have hu := hu_of hr
  have nd := scpairs75.nd
  refine ⟨_, (pss_cons (ps_par (i := 3) (j := 4) (by rfl) nd rfl rfl (by decide) rfl rfl (pa_cons (pe_lst (pa_cons (pe_tup (pa_cons pe_int (pa_cons pe_int pa_nil))) pa_nil)) (pa_cons pe_int pa_nil)) (by rfl))
      (pss_cons (ps_set (i := 5) nd rfl (Or.inl rfl) pe_dnewK)
      (pss_cons (ps_for PassesOwn.never rfl (pi_str (pe_dget hu (pv 0) pe_str (fun _ _ => rfl))) (pg_name (i := 6) nd rfl (Or.inl rfl))
      (pss_one (ps_dput hu (pv 5) (pv 6) (pe_lst pa_nil) rfl)))
      (pss_cutS (ps_while PassesOwn.never (pt_cmpR op_lt (pv 4) (pe_callB (c_lenK (K := K) rfl) (by rfl) T.len PySem.boot_len (pa_cons (pv 3) pa_nil)) (nomark _))
      (pss_cons (ps_for PassesOwn.never rfl (pi_str (pe_dget hu (pv 0) pe_str (fun _ _ => rfl))) (pg_name (i := 6) nd rfl (Or.inl rfl))
        (pss_cons (ps_set (i := 7) nd rfl (Or.inl rfl) (pe_tup (pa_cons (pe_ix (ix_LK (K := K) rfl) (pe_dget hu (pv 1) (pv 6) (fun _ _ => rfl)) (pe_ix (ix_TK (K := K) rfl) (pe_ix (ix_LK (K := K) rfl) (pv 3) (pv 4) (fun _ _ => rfl)) pe_int (fun _ _ => rfl)) (fun _ _ => rfl)) (pa_cons (pe_ix (ix_LK (K := K) rfl) (pe_dget hu (pv 2) (pv 6) (fun _ _ => rfl)) (pe_ix (ix_TK (K := K) rfl) (pe_ix (ix_LK (K := K) rfl) (pv 3) (pv 4) (fun _ _ => rfl)) pe_int (fun _ _ => rfl)) (fun _ _ => rfl)) pa_nil))))
          (pss_cutS (ps_if (pt_cmpR (op_notInDK (K := K) rfl (units65 hr)) (pv 7) (pv 3) (by rfl))
          (pss_one (ps_expr (pe_appK (K := K) rfl (pv 3) (pv 7))))
          pss_nil)
          (pss_one (ps_expr (pe_appK (K := K) rfl (pe_dget hu (pv 5) (pv 6) (fun _ _ => rfl)) (pe_indexD75 (K := K) rfl (units65 hr) (pv 3) (pv 7))))))))
        (pss_one (ps_aug (i := 4) nd rfl (Or.inl rfl) pe_int ip_add))))
      (pss_one (ps_ret (pe_tup (pa_cons (pv 3) (pa_cons (pv 5) pa_nil))))))))), ?_⟩
  refine s_start [some _, some _, some _, none, none, none, none, none] rfl ?_
  obtain ⟨l0, a1, a2⟩ := sc.ex
  obtain ⟨b1, c1, c2⟩ := dt1.ex
  obtain ⟨b2, c3, c4⟩ := dt2.ex
  have okP := prod_ok77 (n1 := n1) (n2 := n2) ok1 ok2
  obtain ⟨PP, ePP⟩ : ∃ PP : Nat → List Nat, ∀ c, PP c = prodR n2 (r1 c) (r2 c) := ⟨fun c => prodR n2 (r1 c) (r2 c), fun _ => rfl⟩
  rw [prod_map75] at okP k
  simp only [← ePP] at okP k
  have hPN : 0 < n1 * n2 := Nat.mul_pos p1 p2
  have rT1 : ∀ c ∈ ks, r1 c ∈ ks.map r1 := fun c hc => List.mem_map.mpr ⟨c, hc, rfl⟩
  have rT2 : ∀ c ∈ ks, r2 c ∈ ks.map r2 := fun c hc => List.mem_map.mpr ⟨c, hc, rfl⟩
  have rT : ∀ c ∈ ks, PP c ∈ ks.map PP := fun c hc => List.mem_map.mpr ⟨c, hc, rfl⟩
  have gP : ∀ c ∈ ks, ∀ z, z < n1 * n2 → (PP c).getD z 0 = (r1 c).getD (z / n2) 0 * n2 + (r2 c).getD (z % n2) 0 ∧ (r2 c).getD (z % n2) 0 < n2 := fun c hc z hz => by
    have hd := dec_enc hz
    have e := prodR_get (n2 := n2) (r1 := r1 c) (r2 := r2 c) (a := z / n2) (b := z % n2) (ok1 _ (rT1 c hc)).1 hd.1 hd.2.1
    rw [hd.2.2] at e
    rw [ePP]
    exact ⟨e, ok2.get (rT2 c hc) hd.2.1⟩
  clear ePP
  replace okP : OkT (n1 * n2) (ks.map PP) := okP
  have Fok := bfs_ok okP hPN
  have Fcl := bfs_closed okP hPN
  generalize hF : bfs (ks.map PP) (n1 * n2) 0 = F at k Fok Fcl
  walk_at "go"
  intro t0 H1 ht0 s1 et0
  walk_at "go"
  intro fo H2 hfo s2 efo
  walk_at "go"
  have pl2 : PairsL n2 H2 fo [0] := by
    refine ⟨[(0, t0)], rfl, efo, fun e he => ?_⟩
    rw [List.mem_singleton.mp he]
    show H2 t0 = some (pairO n2 0)
    rw [s2 _ _ et0]
    unfold pairO
    rw [Nat.zero_div, Nat.zero_mod]
    rfl
  have s02 := s1.trans s2
  have hfoH : H fo = none := Same.free s1 hfo
  clear s1 et0 s2 hfo ht0
  intro rd H3 hrd s3 e3
  walk_at "go"
  have hrdH : H rd = none := Same.free s02 hrd
  have nfr : fo ≠ rd := ne_of_none efo hrd
  refine v_dget (sc_kinds (s3 _ _ (s02 _ _ a1))) ?_
  walk_at "go"
  refine for_it (walk_tx ks) (fun i σ H' => ∃ z6, σ = [some (.ref q), some (.ref d1), some (.ref d2), some (.ref fo), some (.int 0), some (.ref rd), z6, none] ∧ Same H2 H' ∧ RwM H2 H' rd (ks.take i) (fun _ => [])) ⟨_, rfl, s3, ⟨fun _ => 0, e3, (fun _ z => nomatch z), (fun _ z => nomatch z)⟩⟩ (fun _ _ _ _ _ => trivial) ?_ ?_
  · rintro i v σ H4 H5 hi ⟨z6, rfl, s4, rm⟩ ⟨rfl, hv⟩
    obtain rfl : v = V.str (tx [ks.getD i 0]) := hv
    have htk : ks.take (i + 1) = ks.take i ++ [ks.getD i 0] := take_getD hi
    have hnk : ¬ ks.getD i 0 ∈ ks.take i := take_notin knd hi
    have lk : (ks.take i).length ≤ 8 := by rw [List.length_take]; omega
    generalize ks.getD i 0 = c at *
    generalize ks.take i = keys at *
    obtain ⟨a, z1, z2, z3⟩ := rm.ex
    walk_at "go"
    intro p H6 hp s6 ep
    walk_at "go"
    refine v_put (let_new71 (s6 _ _ z1) hnk (by omega)) fun H7 k7 e7 => ?_
    have hp2 : H2 p = none := Same.free s4 hp
    have npr : p ≠ rd := (ne_of_none z1 hp).symm
    refine ⟨_, rfl, fun b o hb => k7 _ _ (s6 _ _ (s4 _ _ hb)) (ne_of_none hb hrd), ?_⟩
    rw [htk]
    refine ⟨fun c' => if c' = c then p else a c', ?_, fun c' hc' => ?_, fun c1' h1 c2' h2 e => ?_⟩
    · rw [e7]
      congr 2
      refine List.map_congr_left fun c' _ => ?_
      by_cases e : c' = c
      · simp only [if_pos e]
      · simp only [if_neg e]
    · by_cases e : c' = c
      · simp only [if_pos e]
        exact ⟨k7 _ _ ep npr, hp2⟩
      · simp only [if_neg e]
        have m' : c' ∈ keys := (List.mem_append.mp hc').resolve_right fun z => e (List.mem_singleton.mp z)
        exact ⟨k7 _ _ (s6 _ _ (z2 c' m').1) (ne_of (z2 c' m').1 z1 (by intro z; cases z)), (z2 c' m').2⟩
    · have mm : ∀ c' ∈ keys ++ [c], c' ≠ c → c' ∈ keys := fun c' hc' e => (List.mem_append.mp hc').resolve_right fun z => e (List.mem_singleton.mp z)
      have pn : ∀ c' ∈ keys, a c' ≠ p := fun c' hc' => ne_of_none (z2 c' hc').1 hp
      simp only at e
      by_cases q1 : c1' = c
      · by_cases q2 : c2' = c
        · rw [q1, q2]
        · rw [if_pos q1, if_neg q2] at e
          exact absurd e.symm (pn _ (mm _ h2 q2))
      · by_cases q2 : c2' = c
        · rw [if_neg q1, if_pos q2] at e
          exact absurd e (pn _ (mm _ h1 q1))
        · rw [if_neg q1, if_neg q2] at e
          exact z3 _ (mm _ h1 q1) _ (mm _ h2 q2) e
  rintro σ H4 ⟨z6, rfl, s4, rm⟩
  rw [List.take_length] at rm
  have pl4 : PairsL n2 H4 fo [0] := pl2.same s4
  walk_at "go"
  refine s_cut (fun σ H' => ∃ x4 x6 x7, σ = [some (.ref q), some (.ref d1), some (.ref d2), some (.ref fo), x4, some (.ref rd), x6, x7] ∧ Same H H' ∧ PairsL n2 H' fo F ∧ RwM H2 H' rd ks (fun c => F.map fun z => ixOf F ((PP c).getD z 0))) ?_ ?_
  · refine s_while (fun m σ H' => ∃ i fd x6 x7, m + i = n1 * n2 + 1 ∧ σ = [some (.ref q), some (.ref d1), some (.ref d2), some (.ref fo), some (.int ((i : Nat) : Int)), some (.ref rd), x6, x7] ∧ FdOk (n1 * n2) fd ∧ i ≤ fd.length ∧ fp (ks.map PP) m i fd = F ∧ Same H H' ∧ PairsL n2 H' fo fd ∧ RwM H2 H' rd ks (fun c => (F.take i).map fun z => ixOf F ((PP c).getD z 0))) (n1 * n2 + 1) ⟨0, [0], _, _, rfl, rfl, .one hPN, Nat.zero_le _, hF, s02.trans s4, pl4, rm⟩ ?_
    rintro m σ H5 ⟨i, fd, x6, x7, hm, rfl, fok, li, efp, s5, pl5, rm5⟩
    have lfd := fok.len
    obtain ⟨E5, g1, g2, g3⟩ := pl5.ex
    have lE5 : (refV E5).length = fd.length := by unfold refV; rw [List.length_map, ← g1, List.length_map]
    walk_at "go"
    rw [lE5]
    refine if_dec (fun cc => ?_) (fun cc => ?_)
    · have ci : i < fd.length := by omega
      obtain ⟨m', rfl⟩ : ∃ m', m = m' + 1 := ⟨m - 1, by omega⟩
      have hx : fd.getD i 0 < n1 * n2 := fok.lt _ (getD_mem ci)
      have efp2 : fp (ks.map PP) m' (i + 1) (addT (ks.map PP) (fd.getD i 0) fd) = F := by
        rw [← efp]
        show _ = if i < fd.length then _ else _
        rw [if_pos ci]
      obtain ⟨q9, h9⟩ := fp_pre75 (ks.map PP) m' (i + 1) (addT (ks.map PP) (fd.getD i 0) fd)
      rw [efp2] at h9
      have hFi : F.take (i + 1) = F.take i ++ [fd.getD i 0] := by
        obtain ⟨q8, h8⟩ := addT_pre (ks.map PP) (fd.getD i 0) fd
        have e8 : F = fd ++ (q8 ++ q9) := by rw [h9, h8, List.append_assoc]
        have hiF : i < F.length := by rw [e8, List.length_append]; omega
        have e7 : F.getD i 0 = fd.getD i 0 := by
          rw [e8, List.getD_eq_getElem?_getD, List.getElem?_append_left ci, ← List.getD_eq_getElem?_getD]
        rw [take_getD hiF, e7]
      refine v_turn ?_
      generalize hxd : fd.getD i 0 = z at hx efp2 h9 hFi
      walk_at "go"
      refine v_dget (sc_kinds (s5 _ _ a1)) ?_
      walk_at "go"
      refine for_it (walk_tx ks) (fun j σ H' => ∃ x6 x7, σ = [some (.ref q), some (.ref d1), some (.ref d2), some (.ref fo), some (.int ((i : Nat) : Int)), some (.ref rd), x6, x7] ∧ FdOk (n1 * n2) (addT ((ks.take j).map PP) z fd) ∧ PairsL n2 H' fo (addT ((ks.take j).map PP) z fd) ∧ Same H H' ∧ RwM H2 H' rd ks (fun c => (F.take i).map (fun z => ixOf F ((PP c).getD z 0)) ++ if c ∈ ks.take j then [ixOf F ((PP c).getD z 0)] else [])) ⟨_, _, rfl, fok, pl5, s5, rm5.congr fun c _ => by rw [List.take_zero, if_neg (fun z => nomatch z), List.append_nil]⟩ (fun _ _ _ _ _ => trivial) ?_ ?_
      · rintro j v σ H6 H7 hj ⟨x6, x7, rfl, fok6, pl6, s6, rm6⟩ ⟨rfl, hv⟩
        obtain rfl : v = V.str (tx [ks.getD j 0]) := hv
        have hc : ks.getD j 0 ∈ ks := getD_mem hj
        have htk : ks.take (j + 1) = ks.take j ++ [ks.getD j 0] := take_getD hj
        have hnk : ¬ ks.getD j 0 ∈ ks.take j := take_notin knd hj
        have hqq : ∃ qq, F = addT ((ks.take (j + 1)).map PP) z fd ++ qq := by
          have e1 : addT (ks.map PP) z fd = addT ((ks.drop (j + 1)).map PP) z (addT ((ks.take (j + 1)).map PP) z fd) := by
            conv => lhs; rw [← List.take_append_drop (j + 1) ks, List.map_append]
            unfold addT
            rw [List.foldl_append]
          obtain ⟨q1, e2⟩ := addT_pre ((ks.drop (j + 1)).map PP) z (addT ((ks.take (j + 1)).map PP) z fd)
          exact ⟨q1 ++ q9, by rw [h9, e1, e2, List.append_assoc]⟩
        generalize ks.getD j 0 = c at hc htk hnk
        have nx : addT ((ks.take (j + 1)).map PP) z fd = if (PP c).getD z 0 ∈ addT ((ks.take j).map PP) z fd then addT ((ks.take j).map PP) z fd else addT ((ks.take j).map PP) z fd ++ [(PP c).getD z 0] := by rw [htk, List.map_append, List.map_cons, List.map_nil, addT_snoc]
        obtain ⟨q7, h7⟩ := addT_pre ((ks.take j).map PP) z fd
        have gi : (addT ((ks.take j).map PP) z fd)[i]? = some z := by
          rw [h7, List.getElem?_append_left ci, ← hxd, List.getD_eq_getElem?_getD, List.getElem?_eq_getElem ci]
          rfl
        generalize addT ((ks.take j).map PP) z fd = fd6 at fok6 pl6 nx gi
        generalize addT ((ks.take (j + 1)).map PP) z fd = fd7 at nx hqq ⊢
        have lfd6 := fok6.len
        obtain ⟨E6, u1, u2, u3⟩ := pl6.ex
        obtain ⟨e0, he0, ez⟩ : ∃ e0, E6[i]? = some e0 ∧ e0.1 = z := by
          rw [← u1, List.getElem?_map] at gi
          exact Option.map_eq_some_iff.mp gi
        have hpr := u3 e0 (List.mem_of_getElem? he0)
        rw [ez] at hpr
        unfold PairAt at hpr
        have ge : (refV E6)[i]? = some (V.ref e0.2) := by unfold refV; rw [List.getElem?_map, he0]; rfl
        have hz := dec_enc hx
        have l1 := (ok1 _ (rT1 c hc)).1
        have l2 := (ok2 _ (rT2 c hc)).1
        have er1 := s6 _ _ (c2 c (hk c hc).1)
        have er2 := s6 _ _ (c4 c (hk c hc).2)
        have gd1 : DGet H7 d1 (.str (tx [c])) (some (.ref (b1 c))) := dget_let (g := fun c => V.ref (b1 c)) (s6 _ _ c1) (hk c hc).1
        have gd2 : DGet H7 d2 (.str (tx [c])) (some (.ref (b2 c))) := dget_let (g := fun c => V.ref (b2 c)) (s6 _ _ c3) (hk c hc).2
        walk_at "go"
        refine v_ixL u2 (at_of (j := i) rfl ge) ?_
        walk_at "go"
        refine v_ixT hpr (at_of (j := 0) rfl rfl) ?_
        refine v_ixL er1 (at_of (j := z / n2) rfl (num_at (by omega))) ?_
        walk_at "go"
        refine v_ixL u2 (at_of (j := i) rfl ge) ?_
        walk_at "go"
        refine v_ixT hpr (at_of (j := 1) rfl rfl) ?_
        refine v_ixL er2 (at_of (j := z % n2) rfl (num_at (by omega))) ?_
        walk_at "go"
        intro pr H8 hpr8 s8 epr
        have hP := gP c hc z hx
        have pa8 : PairAt n2 H8 pr ((PP c).getD z 0) := by
          show H8 pr = some (pairO n2 _)
          rw [hP.1, epr]
          unfold pairO
          rw [enc_div hP.2, enc_mod hP.2]
        have lt8 : (PP c).getD z 0 < n1 * n2 := okP.get (rT c hc) hx
        generalize hPPc : (PP c).getD z 0 = e8 at nx pa8 lt8
        walk_at "go"
        have np2 : pr ≠ rd := by
          obtain ⟨a, z1, _⟩ := rm6.ex
          exact (ne_of_none z1 hpr8).symm
        have pl8 : PairsL n2 H8 fo fd6 := pl6.same s8
        have rm8 := rm6.same s8
        have s68 := s6.trans s8
        have u28 := s8 _ _ u2
        clear u3 hpr er1 er2 gd1 gd2 epr s8
        refine s_cut (fun σ H' => σ = [some (.ref q), some (.ref d1), some (.ref d2), some (.ref fo), some (.int ((i : Nat) : Int)), some (.ref rd), some (.str (tx [c])), some (.ref pr)] ∧ Same H H' ∧ PairsL n2 H' fo fd7 ∧ FdOk (n1 * n2) fd7 ∧ e8 ∈ fd7 ∧ PairAt n2 H' pr e8 ∧ RwM H2 H' rd ks (fun c => (F.take i).map (fun z => ixOf F ((PP c).getD z 0)) ++ if c ∈ ks.take j then [ixOf F ((PP c).getD z 0)] else [])) ?_ ?_
        · walk_at "go"
          refine v_notInP pa8 pl8 ?_
          by_cases c8 : e8 ∈ fd6
          · rw [decide_eq_true c8]
            rw [if_pos c8] at nx
            refine ⟨_, rfl, ?_⟩
            rw [if_neg (by decide)]
            walk_at "go"
            exact ⟨rfl, s68, nx ▸ pl8, nx ▸ fok6, by rw [nx]; exact c8, pa8, rm8⟩
          · rw [decide_eq_false c8]
            rw [if_neg c8] at nx
            refine ⟨_, rfl, ?_⟩
            rw [if_pos (by decide)]
            walk_at "go"
            have lE6 : (refV E6).length = fd6.length := by unfold refV; rw [List.length_map, ← u1, List.length_map]
            refine v_app u28 (by omega) fun H9 k9 e9 => ?_
            have hne : ∀ {b : Addr} {o : HO}, H8 b = some o → (∀ xs, o ≠ .lst xs) → b ≠ fo := fun hb hn => ne_of hb u28 (hn _)
            refine ⟨rfl, fun b o hb => k9 _ _ (s68 _ _ hb) (ne_of_none hb hfoH), ?_, by rw [nx]; exact fok6.snoc lt8 c8, by rw [nx]; exact List.mem_append_right _ (List.mem_singleton.mpr rfl), k9 _ _ pa8 (hne pa8 fun _ z => nomatch z), rm8.keep k9 efo nfr.symm⟩
            obtain ⟨E8, w1, w2, w3⟩ := pl8.ex
            have eE : refV E8 = refV E6 := by
              rw [u28] at w2
              injection w2 with w2
              injection w2 with w2
              exact w2.symm
            refine ⟨E8 ++ [(e8, pr)], by rw [List.map_append, w1, nx]; rfl, ?_, fun e he => ?_⟩
            · rw [e9, ← eE]
              unfold refV
              rw [List.map_append]
              rfl
            · rcases List.mem_append.mp he with z | z
              · exact k9 _ _ (w3 e z) (hne (w3 e z) fun _ z => nomatch z)
              · rw [List.mem_singleton.mp z]
                exact k9 _ _ pa8 (hne pa8 fun _ z => nomatch z)
        · rintro σ H9 ⟨rfl, s9, pl9, fok9, m9, pa9, rm9⟩
          walk_at "go"
          obtain ⟨a, z1, z2, z3⟩ := rm9.ex
          have za := (z2 c hc).1
          obtain ⟨E9, w1, w2, w3⟩ := pl9.ex
          refine v_dget (dget_let (g := fun c => V.ref (a c)) z1 hc) ?_
          walk_at "go"
          refine v_indexP pa9 pl9 m9 ?_
          walk_at "go"
          have lFi : (F.take i).length ≤ 1000 := by
            rw [List.length_take]
            have := Fok.len
            omega
          have eix : ixOf fd7 e8 = ixOf F e8 := by
            obtain ⟨qq, hq⟩ := hqq
            rw [hq, ix_pre75 m9]
          refine v_app za (by unfold numV; rw [List.length_map, List.length_append, List.length_map, if_neg hnk]; simp; omega) fun H10 k10 e10 => ?_
          rw [if_neg hnk, List.append_nil] at e10
          have hne : ∀ c' ∈ ks, c' ≠ c → a c' ≠ a c := fun c' hc' ne e => ne (z3 c' hc' c hc e)
          have nea : ∀ {b : Addr} {o : HO}, H9 b = some o → (∀ xs, o ≠ .lst xs) → b ≠ a c := fun hb hn => ne_of hb za (hn _)
          have nfa : fo ≠ a c := ne_of_none efo (z2 c hc).2
          refine ⟨_, _, rfl, fok9, ⟨E9, w1, k10 _ _ w2 nfa, fun e he => k10 _ _ (w3 e he) (nea (w3 e he) fun _ z => nomatch z)⟩, fun b o hb => k10 _ _ (s9 _ _ hb) ?_, ⟨a, k10 _ _ z1 (nea z1 fun _ z => nomatch z), fun c' hc' => ⟨?_, (z2 c' hc').2⟩, z3⟩⟩
          · intro z
            have h2 := s02 _ _ hb
            rw [z, (z2 c hc).2] at h2
            cases h2
          · rw [htk]
            by_cases e : c' = c
            · rw [e, e10, if_pos (List.mem_append_right _ (List.mem_singleton.mpr rfl))]
              rw [eix]
              unfold numV
              rw [List.map_append, hPPc]
              rfl
            · have m1 : (c' ∈ ks.take j ++ [c]) ↔ c' ∈ ks.take j := by rw [List.mem_append, List.mem_singleton]; exact ⟨fun z => z.resolve_right e, .inl⟩
              have m2 := (z2 c' hc').1
              rw [k10 _ _ m2 (hne c' hc' e)]
              by_cases m3 : c' ∈ ks.take j
              · rw [if_pos m3, if_pos (m1.mpr m3)]
              · rw [if_neg m3, if_neg fun z => m3 (m1.mp z)]
      · rintro σ H6 ⟨x6, x7, rfl, fok6, pl6, s6, rm6⟩
        rw [List.take_length] at fok6 pl6
        refine ⟨_, rfl, _, _, rfl, rfl, ?_⟩
        obtain ⟨qq, hqq⟩ := addT_pre (ks.map PP) z fd
        exact ⟨m', Nat.lt_succ_self _, i + 1, addT (ks.map PP) z fd, _, _, by omega, rfl, fok6, by rw [hqq, List.length_append]; omega, efp2, s6, pl6, rm6.congr fun c hc => by rw [if_pos (by rw [List.take_length]; exact hc), hFi, List.map_append]; rfl⟩
    · walk_at "go"
      have e : i = fd.length := by omega
      have e2 : fp (ks.map PP) m i fd = fd := by
        cases m with
        | zero => rfl
        | succ m =>
          show (if i < fd.length then _ else fd) = fd
          rw [if_neg (by omega)]
      have e3 : fd = F := by rw [← efp, e2]
      refine ⟨_, _, _, rfl, s5, e3 ▸ pl5, rm5.congr fun c _ => ?_⟩
      rw [List.take_of_length_le (by rw [← e3]; omega)]
  rintro σ H5 ⟨x4, x6, x7, rfl, s5, pl5, rm5⟩
  walk_at "go"
  intro t H6 ht s6 et
  exact k t fo rd H6 (Same.free s5 ht) hfoH hrdH (s5.trans s6) et (pl5.same s6) (rm5.same s6).dic
end
end
section
open PySem PySem.Spec L2
/-- chains of t steps at most -/
inductive Ch75 (sh : Nat → Nat → Prop) : Nat → Nat → Nat → Prop
  | re (i : Nat) : Ch75 sh 0 i i
  | up {t i j : Nat} : Ch75 sh t i j → Ch75 sh (t + 1) i j
  | st {t i b j : Nat} : sh i b → Ch75 sh t b j → Ch75 sh (t + 1) i j
section
variable {sh : Nat → Nat → Prop} {n : Nat}
/-- a path with no place twice -/
inductive Pa75 (sh : Nat → Nat → Prop) : List Nat → Nat → Prop
  | one (j : Nat) : Pa75 sh [j] j
  | cons {i b j : Nat} {l : List Nat} : sh i b → Pa75 sh (b :: l) j → Pa75 sh (i :: b :: l) j
theorem Pa75.ch : ∀ {l : List Nat} {i j : Nat}, Pa75 sh (i :: l) j → Ch75 sh l.length i j
  | [], _, _, .one _ => .re _
  | _ :: _, _, _, .cons s p => .st s p.ch
theorem Pa75.from {j : Nat} : ∀ {l : List Nat}, Pa75 sh l j → l.Nodup → ∀ i ∈ l, ∃ l', Pa75 sh (i :: l') j ∧ (i :: l').Nodup ∧ ∀ x ∈ i :: l', x ∈ l
  | _, .one _, nd, i, hi => by
    obtain rfl := List.mem_singleton.mp hi
    exact ⟨[], .one _, nd, fun x hx => hx⟩
  | a :: b :: l, .cons s p, nd, i, hi => by
    rcases List.mem_cons.mp hi with e | hi
    · subst e
      exact ⟨b :: l, .cons s p, nd, fun x hx => hx⟩
    · obtain ⟨l', h1, h2, h3⟩ := p.from (List.nodup_cons.mp nd).2 i hi
      exact ⟨l', h1, h2, fun x hx => List.mem_cons_of_mem _ (h3 x hx)⟩
theorem con_pa75 (hs : ∀ i j, sh i j → i < n ∧ j < n) {i j : Nat} (h : Con sh i j) (hj : j < n) : ∃ l, Pa75 sh (i :: l) j ∧ (i :: l).Nodup ∧ ∀ x ∈ i :: l, x < n := by
  induction h with
  | re a => exact ⟨[], .one _, by simp, fun x hx => by rw [List.mem_singleton.mp hx]; exact hj⟩
  | @st a b c s _ ih =>
    obtain ⟨l, h1, h2, h3⟩ := ih hj
    by_cases m : a ∈ b :: l
    · obtain ⟨l', q1, q2, q3⟩ := h1.from h2 a m
      exact ⟨l', q1, q2, fun x hx => h3 x (q3 x hx)⟩
    · exact ⟨b :: l, .cons s h1, List.nodup_cons.mpr ⟨m, h2⟩, fun x hx => by
        rcases List.mem_cons.mp hx with e | hx
        · rw [e]; exact (hs _ _ s).1
        · exact h3 x hx⟩
theorem Ch75.mono {t u i j : Nat} (h : Ch75 sh t i j) (l : t ≤ u) : Ch75 sh u i j := by
  induction l with
  | refl => exact h
  | step _ ih => exact .up ih
theorem con_ch75 (hs : ∀ i j, sh i j → i < n ∧ j < n) {i j : Nat} (h : Con sh i j) (hj : j < n) : Ch75 sh n i j := by
  obtain ⟨l, h1, h2, h3⟩ := con_pa75 hs h hj
  refine h1.ch.mono ?_
  have := (FdOk.mk h2 h3).len
  simp at this
  omega
/-- marks are as low as chains of t steps tell -/
structure Low75 (sh : Nat → Nat → Prop) (n t : Nat) (mk : List Nat) : Prop extends MInv sh n mk where
  low : ∀ i j, i < n → Ch75 sh t i j → mk.getD i 0 ≤ j
/-- within a turn: what was seen of old -/
structure Mid75 (sh : Nat → Nat → Prop) (n : Nat) (old mk : List Nat) (j k : Nat) : Prop extends MInv sh n mk where
  le : ∀ i, i < n → mk.getD i 0 ≤ old.getD i 0
  seen : ∀ a b, (a < j ∨ (a = j ∧ b < k)) → a < n → b < n → sh a b → mk.getD a 0 ≤ old.getD b 0
theorem Mid75.begin {mk : List Nat} (h : MInv sh n mk) : Mid75 sh n mk mk 0 0 := ⟨h, fun _ _ => Nat.le_refl _, fun a b z => by omega⟩
theorem Mid75.skip {old mk : List Nat} {j k : Nat} (h : Mid75 sh n old mk j k) (no : ¬ sh j k) : Mid75 sh n old mk j (k + 1) := ⟨h.toMInv, h.le, fun a b z ha hb s => by
  by_cases e : a = j ∧ b = k
  · rw [e.1, e.2] at s
    exact absurd s no
  · exact h.seen a b (by omega) ha hb s⟩
theorem getD_set75 {l : List Nat} {j i v : Nat} (hj : j < l.length) : (l.set j v).getD i 0 = if i = j then v else l.getD i 0 := by
  rw [List.getD_eq_getElem?_getD, List.getElem?_set, List.getD_eq_getElem?_getD]
  by_cases e : j = i
  · subst e
    rw [if_pos rfl, if_pos rfl, if_pos hj]
    rfl
  · rw [if_neg e, if_neg fun z => e z.symm]
theorem Mid75.step {old mk : List Nat} {j k : Nat} (h : Mid75 sh n old mk j k) (hj : j < n) (hk : k < n) (s : sh j k) : Mid75 sh n old (mk.set j (min (mk.getD j 0) (mk.getD k 0))) j (k + 1) := by
  have hl := h.len
  have g : ∀ i, (mk.set j (min (mk.getD j 0) (mk.getD k 0))).getD i 0 = if i = j then min (mk.getD j 0) (mk.getD k 0) else mk.getD i 0 := fun i => getD_set75 (by omega)
  refine ⟨⟨by rw [List.length_set]; exact hl, fun i hi => ?_, fun i hi => ?_⟩, fun i hi => ?_, fun a b z ha hb sab => ?_⟩
  · rw [g]
    split
    · have := h.lt j hj
      omega
    · exact h.lt i hi
  · rw [g]
    split
    · rename_i e
      subst e
      rcases Nat.le_total (mk.getD i 0) (mk.getD k 0) with l | l
      · rw [Nat.min_eq_left l]
        exact h.con i hi
      · rw [Nat.min_eq_right l]
        exact .st s (h.con k hk)
    · exact h.con i hi
  · rw [g]
    have := h.le i hi
    split
    · rename_i e
      subst e
      omega
    · exact this
  · rw [g]
    by_cases e : a = j ∧ b = k
    · rw [if_pos e.1, e.2]
      have := h.le k hk
      omega
    · have := h.seen a b (by omega) ha hb sab
      split
      · rename_i e2
        rw [e2] at this
        omega
      · exact this
theorem Mid75.turn {old mk : List Nat} {j : Nat} (h : Mid75 sh n old mk j n) : Mid75 sh n old mk (j + 1) 0 := ⟨h.toMInv, h.le, fun a b z ha hb s => h.seen a b (by omega) ha hb s⟩
theorem Mid75.end {old mk : List Nat} {t : Nat} (hs : ∀ i j, sh i j → i < n ∧ j < n) (o : Low75 sh n t old) (h : Mid75 sh n old mk n 0) : Low75 sh n (t + 1) mk := ⟨h.toMInv, fun i j hi c => by
  cases c with
  | up c => exact Nat.le_trans (h.le i hi) (o.low i j hi c)
  | @st t i b j s c =>
    have hb := (hs _ _ s).2
    exact Nat.le_trans (h.seen i b (.inl hi) hi hb s) (o.low b j hb c)⟩
theorem Low75.zero : Low75 sh n 0 (List.range n) := by
  have rg : ∀ j, j < n → (List.range n).getD j 0 = j := fun j hj => by rw [List.getD_eq_getElem?_getD, List.getElem?_range hj]; rfl
  refine ⟨⟨List.length_range, fun j hj => by rw [rg j hj]; exact hj, fun j hj => by rw [rg j hj]; exact .re _⟩, fun i j hi c => ?_⟩
  cases c
  rw [rg i hi]
  exact Nat.le_refl _
theorem Low75.iff {mk : List Nat} (h : Low75 sh n n mk) (hs : ∀ i j, sh i j → i < n ∧ j < n) (sy : ∀ a b, sh a b → sh b a) {i j : Nat} (hi : i < n) (hj : j < n) : mk.getD i 0 = mk.getD j 0 ↔ Con sh i j := by
  have le : ∀ {i j}, i < n → j < n → Con sh i j → mk.getD i 0 ≤ mk.getD j 0 := fun {i j} hi hj c => h.low _ _ hi (con_ch75 hs (c.trans (h.con j hj)) (h.lt j hj))
  constructor
  · intro e
    have a := h.con i hi
    rw [e] at a
    exact a.trans ((h.con j hj).symm sy)
  · intro c
    exact Nat.le_antisymm (le hi hj c) (le hj hi (c.symm sy))
theorem Low75.nought {mk : List Nat} (h : Low75 sh n n mk) (hs : ∀ i j, sh i j → i < n ∧ j < n) (h0 : 0 < n) : mk.getD 0 0 = 0 := Nat.le_zero.mp (h.low 0 0 h0 (con_ch75 hs (.re 0) h0))
end
theorem e_lstRg75 {te : TE} {σ : L2.St} {H : Hp} {Q : VK} (q : te σ H fun x H1 => ∃ n, x = .int n ∧ RgOk 0 n ∧ ∀ q, H1 q = none → Q (.ref q) (upd H1 q (.lst (rgV 0 n)))) : tLstRg (tRg1 te) σ H Q := q
theorem rg_at75 {H : Hp} {p : Addr} {n : Nat} : upd H p (.lst (rgV 0 ((n : Nat) : Int))) p = some (.lst (numV (List.range n))) := by
  rw [upd_same]
  unfold rgV numV
  rw [show (((n : Nat) : Int) - 0).toNat = n by omega]
  refine congrArg (fun z => some (HO.lst z)) (List.map_congr_left fun i _ => ?_)
  rw [Int.zero_add]
theorem s_asgSub75 {te to ti : TE} {D : Ends} {σ : L2.St} {H : Hp} (q : te σ H fun v H1 => to σ H1 fun o H2 => ti σ H2 fun i H3 => rSetL o i v H3 fun H4 => D.nx σ H4) : tAsg te (gSub to ti rSetL) D σ H := q
theorem v_setLs75 {H : Hp} {Q : Hp → Prop} {p : Addr} {xs : List V} {j : Nat} {v : V} (h : H p = some (.lst xs)) (hj : j < xs.length) (q : ∀ H', Keep p H H' → H' p = some (.lst (xs.set j v)) → Q H') : rSetL (.ref p) (.int (j : Nat)) v H Q := by
  refine ⟨p, xs, j, j, rfl, rfl, h, ?_, q _ (fun b o hb nb => by rw [upd_ne nb]; exact hb) upd_same⟩
  unfold ixN
  rw [if_pos (by omega), if_pos (by omega)]
  rfl
def spJointL75 : Sp := fun vs H Q _ => ∃ (pl : Addr) (n2 : Nat) (fd : List Nat), vs = [.ref pl] ∧ PairsL n2 H pl fd ∧ fd.length ≤ 1000 ∧
  ∀ p H' mk, H p = none → Same H H' → H' p = some (.lst (numV mk)) → Low75 (shL n2 fd) fd.length fd.length mk → Q (.ref p) H'
section
variable {P : Program} {w : World} {K : PySem.W.Frag} {mg : Str → Option Value} {base : Heap} {C R O CL : Addr}
abbrev stjoint75 : Stmt := (top 49)
abbrev Njoint75 : List Str := ["_law_pairs_here", "_law_marks", "_law_turn", "_law_j", "_law_k"]
theorem scjoint75 : FnScope Njoint75 ["_law_pairs_here"] (defScope stjoint75) := ⟨rfl, rfl, rfl, by decide +kernel, rfl, by decide +kernel, by decide +kernel⟩

theorem ok_joint75 (F : FnAt K mg "_law_joint" stjoint75) (T : TxtSc K mg C R O CL) : Def P w K mg base CX0 1 "_law_joint" ["_law_pairs_here"] spJointL75 := by
  refine F.ok scjoint75 (fun _ _ _ _ _ _ us hl => match us, hl with | [_], _ => rfl) (fun vs H Q E h => ?_) (fun f cdv A outer s H vs Q E hr h => ?_)
  · obtain ⟨pl, n2, fd, rfl, _⟩ := h
    rfl
  obtain ⟨pl, n2, fd, rfl, pls, l1000, k⟩ := h
  have hu := hu_of hr
  have nd := scjoint75.nd
  refine ⟨_, (pss_cons (ps_set (i := 1) nd rfl (Or.inl rfl) (pe_listRg rfl (by rfl) T.list (prg_1 (by rfl) T.range (pe_callB (c_lenK (K := K) rfl) (by rfl) T.len PySem.boot_len (pa_cons (pv 0) pa_nil)))))
      (pss_cons (ps_for PassesOwn.never rfl (pi_listK (K := K) rfl (pv 0)) (pg_name (i := 2) nd rfl (Or.inl rfl))
      (pss_one (ps_for PassesOwn.never rfl (pi_range1 (by rfl) T.range (pa_cons (pe_callB (c_lenK (K := K) rfl) (by rfl) T.len PySem.boot_len (pa_cons (pv 0) pa_nil)) pa_nil)) (pg_name (i := 3) nd rfl (Or.inl rfl))
        (pss_one (ps_for PassesOwn.never rfl (pi_range1 (by rfl) T.range (pa_cons (pe_callB (c_lenK (K := K) rfl) (by rfl) T.len PySem.boot_len (pa_cons (pv 0) pa_nil)) pa_nil)) (pg_name (i := 4) nd rfl (Or.inl rfl))
          (pss_one (ps_if (pt_cut (PW.pt (pw_or (pt_cmpR op_eq (pe_ix (ix_TK (K := K) rfl) (pe_ix (ix_LK (K := K) rfl) (pv 0) (pv 3) (fun _ _ => rfl)) pe_int (fun _ _ => rfl)) (pe_ix (ix_TK (K := K) rfl) (pe_ix (ix_LK (K := K) rfl) (pv 0) (pv 4) (fun _ _ => rfl)) pe_int (fun _ _ => rfl)) (nomark _)) (pw_or1 (pt_cmpR op_eq (pe_ix (ix_TK (K := K) rfl) (pe_ix (ix_LK (K := K) rfl) (pv 0) (pv 3) (fun _ _ => rfl)) pe_int (fun _ _ => rfl)) (pe_ix (ix_TK (K := K) rfl) (pe_ix (ix_LK (K := K) rfl) (pv 0) (pv 4) (fun _ _ => rfl)) pe_int (fun _ _ => rfl)) (nomark _))))))
            (pss_one (ps_asg (pe_callB (call_min2 rfl) (by rfl) T.min (by decide +kernel) (pa_cons (pe_callTy c_int (by rfl) T.int (by decide +kernel) (pa_cons (pe_ix (ix_LK (K := K) rfl) (pv 1) (pv 3) (fun _ _ => rfl)) pa_nil)) (pa_cons (pe_callTy c_int (by rfl) T.int (by decide +kernel) (pa_cons (pe_ix (ix_LK (K := K) rfl) (pv 1) (pv 4) (fun _ _ => rfl)) pa_nil)) pa_nil))) (pg_sub (pv 1) (pv 3) set_list)))
            pss_nil)))))))
      (pss_one (ps_ret (pv 1))))), ?_⟩
  refine s_start [some _, none, none, none, none] rfl ?_
  obtain ⟨E, a1, a2, a3⟩ := pls.ex
  have lE : E.length = fd.length := by rw [← a1, List.length_map]
  have lR : (refV E).length = fd.length := by rw [← lE]; exact List.length_map _
  walk_at "go"
  refine e_lstRg75 ?_
  walk_at "go"
  rw [lR]
  refine ⟨RgOk.of_le (by omega) (by omega) (by omega) (by omega), fun mp hmp => ?_⟩
  have s1 : Same H (upd H mp (.lst (rgV 0 ((fd.length : Nat) : Int)))) := Same.new hmp
  have emp := rg_at75 (H := H) (p := mp) (n := fd.length)
  generalize upd H mp (.lst (rgV 0 ((fd.length : Nat) : Int))) = H1 at s1 emp ⊢
  have i0 : Low75 (shL n2 fd) fd.length 0 (List.range fd.length) := .zero
  have hs : ∀ i j, shL n2 fd i j → i < fd.length ∧ j < fd.length := fun i j z => ⟨z.1, z.2.1⟩
  have w1 := walk_refE (K := K) (t := pl) (E := E)
  rw [lE] at w1
  have a21 := s1 _ _ a2
  walk_at "go"
  refine for_it w1 (fun t σ H' => ∃ y2 y3 y4 mk, σ = [some (.ref pl), some (.ref mp), y2, y3, y4] ∧ Same H H' ∧ H' mp = some (.lst (numV mk)) ∧ Low75 (shL n2 fd) fd.length t mk) ⟨_, _, _, _, rfl, s1, emp, i0⟩ ?_ ?_ ?_
  · rintro t σ H' _ ⟨_, _, _, _, _, s, _⟩
    exact SqL.of (s _ _ a2)
  · rintro t v σ H2 H3 ht ⟨y2, y3, y4, mk, rfl, s3, e3, low⟩ ⟨rfl, e0, he0, rfl⟩
    walk_at "go"
    rw [lR, Int.toNat_natCast]
    refine for_it (walk_rI (fun k => ((k : Nat) : Int)) (fun k => Int.zero_add _)) (fun j σ H' => ∃ y3 y4 mk', σ = [some (.ref pl), some (.ref mp), some (.ref e0.2), y3, y4] ∧ Same H H' ∧ H' mp = some (.lst (numV mk')) ∧ Mid75 (shL n2 fd) fd.length mk mk' j 0) ⟨_, _, _, rfl, s3, e3, .begin low.toMInv⟩ (fun _ _ _ _ _ => trivial) ?_ ?_
    · rintro j v σ H4 H5 hj ⟨y3, y4, mk', rfl, s5, e5, mid⟩ ⟨rfl, rfl⟩
      walk_at "go"
      rw [lR, Int.toNat_natCast]
      refine for_it (walk_rI (fun k => ((k : Nat) : Int)) (fun k => Int.zero_add _)) (fun i σ H' => ∃ y4 mk', σ = [some (.ref pl), some (.ref mp), some (.ref e0.2), some (.int ((j : Nat) : Int)), y4] ∧ Same H H' ∧ H' mp = some (.lst (numV mk')) ∧ Mid75 (shL n2 fd) fd.length mk mk' j i) ⟨_, _, rfl, s5, e5, mid⟩ (fun _ _ _ _ _ => trivial) ?_ ?_
      · rintro i v σ H6 H7 hi ⟨y4, mk', rfl, s7, e7, mid7⟩ ⟨rfl, rfl⟩
        have lk := mid7.len
        have a27 := s7 _ _ a2
        obtain ⟨ej, hej⟩ : ∃ ej, E[j]? = some ej := ⟨_, List.getElem?_eq_getElem (by omega)⟩
        obtain ⟨ei, hei⟩ : ∃ ei, E[i]? = some ei := ⟨_, List.getElem?_eq_getElem (by omega)⟩
        have gj : (refV E)[j]? = some (V.ref ej.2) := by unfold refV; rw [List.getElem?_map, hej]; rfl
        have gi : (refV E)[i]? = some (V.ref ei.2) := by unfold refV; rw [List.getElem?_map, hei]; rfl
        have fj : fd.getD j 0 = ej.1 := by rw [List.getD_eq_getElem?_getD, ← a1, List.getElem?_map, hej]; rfl
        have fi : fd.getD i 0 = ei.1 := by rw [List.getD_eq_getElem?_getD, ← a1, List.getElem?_map, hei]; rfl
        have pj : H7 ej.2 = some (pairO n2 ej.1) := s7 _ _ (a3 _ (List.mem_of_getElem? hej))
        have pi : H7 ei.2 = some (pairO n2 ei.1) := s7 _ _ (a3 _ (List.mem_of_getElem? hei))
        have lkn : (numV mk').length = fd.length := by unfold numV; rw [List.length_map]; exact lk
        have mj : (numV mk')[j]? = some (.int ((mk'.getD j 0 : Nat) : Int)) := num_at (by omega)
        have mi : (numV mk')[i]? = some (.int ((mk'.getD i 0 : Nat) : Int)) := num_at (by omega)
        have shd : shL n2 fd j i ↔ (ej.1 / n2 = ei.1 / n2 ∨ ej.1 % n2 = ei.1 % n2) := by
          unfold shL
          rw [fj, fi]
          exact ⟨fun z => z.2.2, fun z => ⟨hj, hi, z⟩⟩
        walk_at "go"
        refine t_cut (fun b H' => (b = true ↔ shL n2 fd j i) ∧ H' = H7) ?_ ?_
        · walk_at "go"
          refine v_ixL a27 (at_of (j := j) rfl gj) ?_
          walk_at "go"
          refine v_ixT pj (at_of (j := 0) rfl rfl) ?_
          walk_at "go"
          refine v_ixL a27 (at_of (j := i) rfl gi) ?_
          walk_at "go"
          refine v_ixT pi (at_of (j := 0) rfl rfl) ?_
          walk_at "go"
          refine if_dec (fun c => ?_) (fun c => ?_)
          · refine ⟨?_, rfl⟩
            rw [shd]
            exact ⟨fun _ => .inl (Int.ofNat.inj (V.int.inj c)), fun _ => rfl⟩
          · walk_at "go"
            refine v_ixL a27 (at_of (j := j) rfl gj) ?_
            walk_at "go"
            refine v_ixT pj (at_of (j := 1) rfl rfl) ?_
            walk_at "go"
            refine v_ixL a27 (at_of (j := i) rfl gi) ?_
            walk_at "go"
            refine v_ixT pi (at_of (j := 1) rfl rfl) ?_
            walk_at "go"
            refine ⟨?_, rfl⟩
            rw [shd, decide_eq_true_iff]
            exact ⟨fun z => .inr (Int.ofNat.inj (V.int.inj z)), fun z => (z.resolve_left fun z => c (by rw [z])) ▸ rfl⟩
        · rintro b H8 ⟨hb, rfl⟩
          walk_at "go"
          refine if_bool (fun c => ?_) (fun c => ?_)
          · subst c
            have hsh := hb.mp rfl
            walk_at "go"
            refine s_asgSub75 ?_
            walk_at "go"
            refine v_ixL e7 (at_of (j := j) rfl mj) ?_
            walk_at "go"
            refine v_ixL e7 (at_of (j := i) rfl mi) ?_
            walk_at "go"
            refine ⟨_, _, rfl, ?_⟩
            walk_at "go"
            refine v_setLs75 e7 (by omega) fun H9 k9 e9 => ?_
            refine ⟨_, mk'.set j (min (mk'.getD j 0) (mk'.getD i 0)), rfl, fun b o hb => k9 _ _ (s7 _ _ hb) (ne_of_none hb hmp), ?_, mid7.step hj hi hsh⟩
            rw [e9]
            unfold numV
            rw [List.map_set]
            refine congrArg (fun z => some (HO.lst (List.set _ j z))) ?_
            refine congrArg V.int ?_
            rw [Nat.min_def]
            split <;> split <;> omega
          · subst c
            walk_at "go"
            exact ⟨_, _, rfl, s7, e7, mid7.skip fun z => nomatch hb.mpr z⟩
      · rintro σ H6 ⟨y4, mk', rfl, s6, e6, mid6⟩
        walk_at "go"
        exact ⟨_, _, _, rfl, s6, e6, mid6.turn⟩
    · rintro σ H4 ⟨y3, y4, mk', rfl, s4, e4, mid4⟩
      walk_at "go"
      exact ⟨_, _, _, _, rfl, s4, e4, mid4.end hs low⟩
  · rintro σ H2 ⟨y2, y3, y4, mk, rfl, s2, e2, low⟩
    walk_at "go"
    exact k mp H2 mk hmp s2 e2 low
end
end
section
open PySem PySem.Spec L2
section
variable {σ : L2.St} {H : Hp} {i : Nat} {tt : TT} {P : Addr → Hp → Prop}
theorem lc_newD75 {te : TE} {J : It} {n : Nat} {G : Hp → Prop} {it : Nat → V} (RR : Addr → Nat → Hp → Addr → Prop) (m1 : ∀ D k p H1 H2, RR D k H1 p → Same H1 H2 → RR D k H2 p) (m2 : ∀ D k p H1 H2 l, RR D k H1 p → p ≠ D → H1 D = some (.lst l) → Keep D H1 H2 → RR D k H2 p) (w : Walk J n G (fun k H x H' => H' = H ∧ x = it k)) (hG : ∀ H', Same H H' → G H') (hn : n ≤ 1000000)
    (ht : ∀ k, k < n → ∀ H1, Same H H1 → ∀ R : Bool → Hp → Prop, (∀ H2, Same H1 H2 → R true H2) → tt ((wipe σ [i]).set i (some (it k))) H1 R)
    (he : ∀ (D : Addr) (l : List V), H D = none → ∀ k, k < n → ∀ H1, Same H H1 → H1 D = some (.lst l) → ∀ R : VK, (∀ p H2, H1 p = none → Same H1 H2 → RR D k H2 p → R (.ref p) H2) → te ((wipe σ [i]).set i (some (it k))) H1 R)
    (q : ∀ D H' vs, H D = none → Same H H' → H' D = some (.lst vs) → vs.length = n → (∀ (k : Nat) (v : V), vs[k]? = some v → ∃ p, v = .ref p ∧ H p = none ∧ RR D k H' p) → P D H') :
    ∀ D, H D = none → ∃ W : Nat → Nat → Hp → Prop, (∃ m, W 0 m (upd H D (.lst []))) ∧ ∀ k m H, W k m H →
      (J.stop k H ∧ P D H) ∨ (J.go k H ∧ ∃ Nx : Hp → Prop, (∀ H', Nx H' → ∃ m', m' < m ∧ W (k + 1) m' H') ∧ ∀ x H', J.yld k H x H' → (gName i) x (wipe σ [i]) H' fun s2 H2 => wipe s2 [i] = wipe σ [i] ∧ tt s2 H2 fun c H3 =>
        if c = true then te s2 H3 fun y H4 => ∃ acc, H4 D = some (.lst acc) ∧ acc.length < sizeLine ∧ Nx (upd H4 D (.lst (acc ++ [y]))) else Nx H3) := by
  intro D hD
  refine lc_it w (vs := [i]) (σ := σ) (g := gName i) (tt := tt) (te := te) (Qd := fun H' => P D H') (fun k H' => Same H H' ∧ ∃ vs, H' D = some (.lst vs) ∧ vs.length = k ∧ ∀ (j : Nat) v, vs[j]? = some v → ∃ p, v = .ref p ∧ p ≠ D ∧ H p = none ∧ RR D j H' p)
    ⟨Same.new hD, [], upd_same, rfl, fun j v z => by simp at z⟩ (fun k H' _ p => hG H' p.1) (fun k x H1 H2 hk p y => ?_) (fun H' p => ?_)
  · obtain ⟨p1, vs, p2, p3, p4⟩ := p
    obtain ⟨rfl, rfl⟩ := y
    refine ⟨wipe1, ht k hk _ p1 _ fun H3 s3 => ?_⟩
    rw [if_pos rfl]
    refine he D vs hD k hk _ (p1.trans s3) (s3 _ _ p2) _ fun v H4 hv s4 r4 => ?_
    have e4 := s4 _ _ (s3 _ _ p2)
    have nv : v ≠ D := (ne_of_none (s3 _ _ p2) hv).symm
    have kp : ∀ l, Keep D H4 (upd H4 D l) := fun _ => Keep.put
    refine ⟨vs, e4, szlt (by omega), fun a o ha => ?_, vs ++ [.ref v], upd_same, by rw [List.length_append, p3]; rfl, fun j u hj => ?_⟩
    · rw [upd_ne (ne_of_none ha hD)]
      exact s4 _ _ (s3 _ _ (p1 _ _ ha))
    · by_cases c : j < vs.length
      · rw [List.getElem?_append_left c] at hj
        obtain ⟨p, e, np, h0, hp⟩ := p4 j u hj
        exact ⟨p, e, np, h0, m2 _ _ _ _ _ _ (m1 _ _ _ _ _ hp (s3.trans s4)) np e4 (kp _)⟩
      · have e : j = vs.length := by
          have := (List.getElem?_eq_some_iff.mp hj).1
          rw [List.length_append, List.length_singleton] at this
          omega
        subst e
        rw [List.getElem?_append_right (Nat.le_refl _), Nat.sub_self] at hj
        refine ⟨v, (Option.some.inj hj).symm, nv, Same.free (p1.trans s3) hv, ?_⟩
        rw [p3]
        exact m2 _ _ _ _ _ _ r4 nv e4 (kp _)
  · obtain ⟨p1, vs, p2, p3, p4⟩ := p
    exact q D H' vs hD p1 p2 p3 fun k v h => let ⟨p, e, _, h0, hp⟩ := p4 k v h; ⟨p, e, h0, hp⟩
end
def spTog75 (C : Addr) : Sp := fun vs H Q _ => ∃ (q pl rd x y : Addr) (ks : List Nat) (gs : List (List Nat)) (n2 : Nat) (fd : List Nat) (r : Nat → List Nat), vs = [.ref q, .ref pl, .ref rd] ∧ SceneAt C H q ks gs x y ∧ ks.Nodup ∧ ks.length ≤ 8 ∧ PairsL n2 H pl fd ∧ DicT H rd ks r ∧ (∀ c ∈ ks, (r c).length = fd.length ∧ ∀ z ∈ r c, z < fd.length) ∧ 0 < fd.length ∧ fd.length ≤ 1000 ∧
  ∀ u H' mk, Same H H' → Low75 (shL n2 fd) fd.length fd.length mk → TabT H' u (numT (ks.map fun c => (r c).map fun p => mk.getD p 0) (bfs (ks.map fun c => (r c).map fun p => mk.getD p 0) fd.length 0)) → Q (.ref u) H'
def spOver75 (C : Addr) : Sp := fun vs H Q _ => ∃ (q x y : Addr) (ks : List Nat) (gs : List (List Nat)), vs = [.ref q] ∧ SceneAt C H q ks gs x y ∧ ks.Nodup ∧ ks.length ≤ 8 ∧ ∀ d H', H d = none → Same H H' → DicT H' d ks (fun _ => [0]) → Q (.ref d) H'
section
variable {P : Program} {w : World} {K : PySem.W.Frag} {mg : Str → Option Value} {base : Heap} {C R O CL : Addr}
abbrev sttog75 : Stmt := (top 50)
abbrev Ntog75 : List Str := ["_law_scene_here", "_law_pairs_here", "_law_rows", "_law_marks", "_law_found", "_law_door", "_law_place"]
theorem sctog75 : FnScope Ntog75 ["_law_scene_here", "_law_pairs_here", "_law_rows"] (defScope sttog75) := ⟨rfl, rfl, rfl, by decide +kernel, rfl, by decide +kernel, by decide +kernel⟩

theorem ok_tog75 (F : FnAt K mg "_law_together" sttog75) (T : TxtSc K mg C R O CL) (D_joint : Def P w K mg base CX0 1 "_law_joint" ["_law_pairs_here"] spJointL75) (D_numbered : Def P w K mg base CX0 1 "_law_numbered" ["_law_scene_here", "_law_tables", "_law_first"] (spNumL71 C)) : Def P w K mg base CX0 2 "_law_together" ["_law_scene_here", "_law_pairs_here", "_law_rows"] (spTog75 C) := by
  refine F.ok sctog75 (fun _ _ _ _ _ _ us hl => match us, hl with | [_, _, _], _ => rfl) (fun vs H Q E h => ?_) (fun f cdv A outer s H vs Q E hr h => ?_)
  · obtain ⟨q, pl, rd, x, y, ks, gs, n2, fd, r, rfl, _⟩ := h
    rfl
  obtain ⟨q, pl, rd, x, y, ks, gs, n2, fd, r, rfl, sc, knd, k8, pls, dt, hr1, f0, f1, k⟩ := h
  have hu := hu_of hr
  have nd := sctog75.nd
  refine ⟨_, (pss_cons (ps_set (i := 3) nd rfl (Or.inr rfl) (pe_cd D_joint hr pass0 (pa_cons (pv 1) pa_nil)))
      (pss_cons (ps_set (i := 4) nd rfl (Or.inl rfl) pe_dnewK)
      (pss_cons (ps_for PassesOwn.never rfl (pi_str (pe_dget hu (pv 0) pe_str (fun _ _ => rfl))) (pg_name (i := 5) nd rfl (Or.inl rfl))
      (pss_one (ps_dput hu (pv 4) (pv 5) (pe_lc (own := [("_law_place", 6)]) (g := gName 6) (by rfl) nd (pi_listK (K := K) rfl (pe_dget hu (pv 2) (pv 5) (fun _ _ => rfl))) (blkOk_by (own := [("_law_place", 6)]) (N := Ntog75) (sc := defScope sttog75) (by decide +kernel)) (fun _ _ _ _ _ => (pg_name (i := 6) nd rfl (Or.inl rfl))) (fun _ _ _ _ _ => pts_nil) (fun _ _ _ _ _ => (pe_ix (ix_LK (K := K) rfl) (pv 3) (pv 6) (fun _ _ => rfl)))) rfl)))
      (pss_one (ps_ret (pe_ix (ix_TK (K := K) rfl) (pe_cd D_numbered hr pass0 (pa_cons (pv 0) (pa_cons (pv 4) (pa_cons pe_int pa_nil)))) pe_int (fun _ _ => rfl))))))), ?_⟩
  refine s_start [some _, some _, some _, none, none, none, none] rfl ?_
  walk_at "go"
  refine ⟨pl, n2, fd, rfl, pls, f1, fun mp H1 mk hmp s1 emp low => ?_⟩
  have sc1 := sc.same s1
  have dt1 := dt.same s1
  walk_at "go"
  intro d H2 hd s2 ed
  have sc2 := sc1.same s2
  have dt2 := dt1.same s2
  have s02 := s1.trans s2
  have hdH : H d = none := Same.free s1 hd
  have emp2 := s2 _ _ emp
  have nmd : mp ≠ d := ne_of_none emp hd
  obtain ⟨l0, a1, a2⟩ := sc2.ex
  obtain ⟨b, c1, c2⟩ := dt2.ex
  walk_at "go"
  refine v_dget (sc_kinds a1) ?_
  walk_at "go"
  refine for_it (walk_tx ks) (fun i σ H' => ∃ x5, σ = [some (.ref q), some (.ref pl), some (.ref rd), some (.ref mp), some (.ref d), x5, none] ∧ Same H H' ∧ Keep d H2 H' ∧ DicT H' d (ks.take i) (fun c => (r c).map fun p => mk.getD p 0)) ⟨_, rfl, s02, (fun _ _ h _ => h), ⟨fun _ => 0, ed, fun _ z => nomatch z⟩⟩ (fun _ _ _ _ _ => trivial) ?_ ?_
  · rintro i v σ H3 H4 hi ⟨x5, rfl, s4, k4, dt4⟩ ⟨rfl, hv⟩
    obtain rfl : v = V.str (tx [ks.getD i 0]) := hv
    have hc : ks.getD i 0 ∈ ks := getD_mem hi
    have htk : ks.take (i + 1) = ks.take i ++ [ks.getD i 0] := take_getD hi
    have hnk : ¬ ks.getD i 0 ∈ ks.take i := take_notin knd hi
    have lk : (ks.take i).length ≤ 8 := by rw [List.length_take]; omega
    generalize ks.getD i 0 = c at *
    generalize ks.take i = keys at *
    have nrd : rd ≠ d := by
      obtain ⟨b0, z1, _⟩ := dt1.ex
      exact ne_of_none z1 hd
    have er := k4 _ _ (c2 c hc) (ne_of (c2 c hc) ed (by intro z; cases z))
    have em4 := k4 _ _ emp2 nmd
    obtain ⟨hlr, hrz⟩ := hr1 c hc
    walk_at "go"
    refine v_dget (dget_let (g := fun c => V.ref (b c)) (k4 _ _ c1 nrd) hc) ?_
    walk_at "go"
    refine lc_gen (n := (r c).length) (b := fun _ => true) (it := fun j => .int (((r c).getD j 0 : Nat) : Int)) (f := fun j => .int ((mk.getD ((r c).getD j 0) 0 : Nat) : Int)) walk_numL (fun H' s' => SqL.of (s' _ _ er)) (by omega) (fun j hj H7 s7 R' rr => ?_) (fun j hj _ H7 s7 R' rr => ?_) (fun D H7 hD s7 e7 => ?_)
    · walk_at "go"
      exact rr _ (Same.refl _)
    · have mj := hrz _ (getD_mem hj)
      have lm := low.len
      walk_at "go"
      refine v_ixL (s7 _ _ em4) (at_of (j := (r c).getD j 0) rfl (num_at (by omega))) ?_
      exact rr _ (Same.refl _)
    rw [range_num (r c) fun p => mk.getD p 0] at e7
    obtain ⟨a, z1, z2⟩ := dt4.ex
    walk_at "go"
    refine v_put (let_new71 (s7 _ _ z1) hnk (by omega)) fun H9 k9 e9 => ?_
    have nDd : D ≠ d := ne_of e7 (s7 _ _ z1) (by intro z; cases z)
    refine ⟨_, rfl, fun b o hb => k9 _ _ (s7 _ _ (s4 _ _ hb)) (ne_of_none hb hdH), fun b o hb nb => k9 _ _ (s7 _ _ (k4 _ _ hb nb)) nb, ?_⟩
    rw [htk]
    refine ⟨fun c' => if c' = c then D else a c', ?_, fun c' hc' => ?_⟩
    · rw [e9]
      congr 2
      refine List.map_congr_left fun c' _ => ?_
      by_cases e : c' = c
      · simp only [if_pos e]
      · simp only [if_neg e]
    · by_cases e : c' = c
      · simp only [if_pos e]
        rw [e]
        exact k9 _ _ e7 nDd
      · simp only [if_neg e]
        have m' : c' ∈ keys := (List.mem_append.mp hc').resolve_right fun z => e (List.mem_singleton.mp z)
        exact k9 _ _ (s7 _ _ (z2 c' m')) (ne_of (z2 c' m') z1 (by intro z; cases z))
  · rintro σ H3 ⟨x5, rfl, s3, k3, dt3⟩
    rw [List.take_length] at dt3
    have lm := low.len
    walk_at "go"
    refine ⟨q, d, x, y, ks, gs, ks, (fun c => (r c).map fun p => mk.getD p 0), fd.length, 0, rfl, sc.same s3, dt3, fun _ h => h, fun row hrow => ?_, k8, f0, f1, fun t f u H4 ht hf s4 et ef tu => ?_⟩
    · obtain ⟨c, hc, rfl⟩ := List.mem_map.mp hrow
      refine ⟨by rw [List.length_map]; exact (hr1 c hc).1, fun z hz => ?_⟩
      obtain ⟨p, hp, rfl⟩ := List.mem_map.mp hz
      exact low.lt _ ((hr1 c hc).2 p hp)
    walk_at "go"
    refine v_ixT et (at_of (j := 1) rfl rfl) ?_
    exact k u H4 mk (s3.trans s4) low tu
abbrev stover75 : Stmt := (top 51)
abbrev Nover75 : List Str := ["_law_scene_here", "_law_door"]
theorem scover75 : FnScope Nover75 ["_law_scene_here"] (defScope stover75) := ⟨rfl, rfl, rfl, by decide +kernel, rfl, by decide +kernel, by decide +kernel⟩

theorem ok_over75 (F : FnAt K mg "_law_over" stover75) (T : TxtSc K mg C R O CL) : Def P w K mg base CX0 1 "_law_over" ["_law_scene_here"] (spOver75 C) := by
  refine F.ok scover75 (fun _ _ _ _ _ _ us hl => match us, hl with | [_], _ => rfl) (fun vs H Q E h => ?_) (fun f cdv A outer s H vs Q E hr h => ?_)
  · obtain ⟨q, x, y, ks, gs, rfl, _⟩ := h
    rfl
  obtain ⟨q, x, y, ks, gs, rfl, sc, knd, k8, k⟩ := h
  have hu := hu_of hr
  have nd := scover75.nd
  refine ⟨_, (pss_one (ps_ret (pe_callTy (c_dictPK (K := K) rfl rfl) (by rfl) T.dict (by decide +kernel) (pa_cons (pe_lc (own := [("_law_door", 1)]) (g := gName 1) (by rfl) nd (pi_str (pe_dget hu (pv 0) pe_str (fun _ _ => rfl))) (blkOk_by (own := [("_law_door", 1)]) (N := Nover75) (sc := defScope stover75) (by decide +kernel)) (fun _ _ _ _ _ => (pg_name (i := 1) nd rfl (Or.inl rfl))) (fun _ _ _ _ _ => pts_nil) (fun _ _ _ _ _ => (pe_tup (pa_cons (pv 1) (pa_cons (pe_lst (pa_cons pe_int pa_nil)) pa_nil))))) pa_nil)))), ?_⟩
  refine s_start [some _, none] rfl ?_
  obtain ⟨l0, a1, a2⟩ := sc.ex
  walk_at "go"
  refine v_dget (sc_kinds a1) ?_
  walk_at "go"
  refine lc_newD75 (RR := fun D k H p => ∃ a, a ≠ D ∧ H p = some (.tup [.str (tx [ks.getD k 0]), .ref a]) ∧ H a = some (.lst (numV [0]))) (n := ks.length) (it := fun j => V.str (tx [ks.getD j 0])) (fun D k p H1 H2 ⟨a, n1, h1, h2⟩ s => ⟨a, n1, s _ _ h1, s _ _ h2⟩) (fun D k p H1 H2 l ⟨a, n1, h1, h2⟩ np hD kp => ⟨a, n1, kp _ _ h1 np, kp _ _ h2 n1⟩) (walk_tx ks) (fun _ _ => trivial) (by omega) (fun j hj H1 s1 R rr => ?_) (fun D l hD j hj H1 s1 eD R rr => ?_) (fun D H1 vs hD s1 eD lv rv => ?_)
  · walk_at "go"
    exact rr H1 (Same.refl _)
  · walk_at "go"
    intro a H2 ha s2 ea
    walk_at "go"
    intro p H3 hp s3 ep
    exact rr p H3 (Same.free s2 hp) (s2.trans s3) ⟨a, (ne_of_none eD ha).symm, ep, s3 _ _ ea⟩
  walk_at "go"
  refine v_dictE (p := fun z => ∃ a, z = .ref a ∧ H1 a = some (.lst (numV [0]))) .non eD lv (fun k v hk => ?_) knd fun d H2 val hv hd s2 ed => ?_
  · obtain ⟨p, rfl, _, a, _, e1, e2⟩ := rv k v hk
    exact ⟨p, _, rfl, e1, a, rfl, e2⟩
  have key : ∀ c, ∃ a, c ∈ ks → val c = .ref a ∧ H1 a = some (.lst (numV [0])) := fun c => by
    by_cases hc : c ∈ ks
    · obtain ⟨a, h⟩ := hv c hc
      exact ⟨a, fun _ => h⟩
    · exact ⟨0, fun z => absurd z hc⟩
  obtain ⟨a, ha⟩ := Classical.axiomOfChoice key
  refine k d H2 (Same.free s1 hd) (s1.trans s2) ⟨a, ?_, fun c hc => s2 _ _ (ha c hc).2⟩
  rw [ed]
  refine congrArg (fun z => some (HO.dK z)) (List.map_congr_left fun c hc => ?_)
  rw [(ha c hc).1]
end
end
section
open PySem PySem.Spec L2
structure TxtSq (K : PySem.W.Frag) (mg : Str → Option Value) (C R O CL : Addr) : Prop extends TxtSc K mg C R O CL where
  Closed_sf : PySem.W.selfFirst K CL = true
section
variable {K : PySem.W.Frag} {C CL : Addr} {E : XK} {H : Hp} {Q : VK} {a b x y : Addr} {ks : List Nat} {ps T U : List (List Nat)} {n m : Nat}
theorem mul77 {n m : Nat} (hn : n ≤ 9) (hm : m ≤ 9) : n * m ≤ 1000 := Nat.le_trans (Nat.mul_le_mul hn hm) (by decide)
theorem FlAt.ins (h : FlAt C CL H a x ks ps T n) : ∃ dx fs, H a = some (.ins CL dx fs) := by
  obtain ⟨dx, fs, t, q, e, _⟩ := h.cl.ex
  exact ⟨dx, fs, e⟩
theorem v_and77 (fa : FlAt C CL H a x ks ps T n) (fb : FlAt C CL H b y ks ps U m) (psk : PsOk ps) (knd : ks.Nodup) (k8 : ks.length ≤ 8) (hn : n ≤ 9) (hm : m ≤ 9) (q : ∀ c H' R l, H c = none → Same H H' → FlAt C CL H' c x ks ps R l → AndF ks T U R → (n ≤ 3 → m ≤ 3 → l ≤ 9) → Q (.ref c) H') : rMP CL (spAnd77 C CL) E (.ref a) (.ref b) H Q := by
  obtain ⟨dx, fs, e⟩ := fa.ins
  obtain ⟨dy, gs, e'⟩ := fb.ins
  exact v_MP e e' ⟨a, b, x, y, ks, ps, T, U, n, m, rfl, fa, fb, psk, knd, k8, mul77 hn hm, fun c H' R l hc s f o hl => q c H' R l hc s f o fun h1 h2 => Nat.le_trans hl (Nat.mul_le_mul h1 h2)⟩
theorem v_or77 (fa : FlAt C CL H a x ks ps T n) (fb : FlAt C CL H b y ks ps U m) (psk : PsOk ps) (knd : ks.Nodup) (k8 : ks.length ≤ 8) (hn : n ≤ 9) (hm : m ≤ 9) (q : ∀ c H' R l, H c = none → Same H H' → FlAt C CL H' c x ks ps R l → OrF ks T U R → l ≤ n → Q (.ref c) H') : rMP CL (spOr77 C CL) E (.ref a) (.ref b) H Q := by
  obtain ⟨dx, fs, e⟩ := fa.ins
  obtain ⟨dy, gs, e'⟩ := fb.ins
  exact v_MP e e' ⟨a, b, x, y, ks, ps, T, U, n, m, rfl, fa, fb, psk, knd, k8, mul77 hn hm, fun c H' R l hc s f o => q c H' R l hc s f o (ker_len knd fa.fl f.fl o.l)⟩
theorem v_le77 (fa : FlAt C CL H a x ks ps T n) (fb : FlAt C CL H b y ks ps U m) (psk : PsOk ps) (knd : ks.Nodup) (k8 : ks.length ≤ 8) (hN : n * m ≤ 1000) (q : ∀ c H', Same H H' → (c = true ↔ leF ks T U) → Q (.bl c) H') : rM2 CL (spLe77 C CL) E (.ref a) (.ref b) H Q := by
  obtain ⟨dx, fs, e⟩ := fa.ins
  obtain ⟨dy, gs, e'⟩ := fb.ins
  exact v_M2 e e' ⟨a, b, x, y, ks, ps, T, U, n, m, rfl, fa, fb, psk, knd, k8, hN, q⟩
theorem v_eq77 (fa : FlAt C CL H a x ks ps T n) (fb : FlAt C CL H b y ks ps U m) (psk : PsOk ps) (knd : ks.Nodup) (q : ∀ c, (c = true ↔ (leF ks T U ∧ leF ks U T)) → Q (.bl c) H) : rM2 CL (spClEq C CL) E (.ref a) (.ref b) H Q := by
  obtain ⟨dx, fs, e⟩ := fa.ins
  obtain ⟨dy, gs, e'⟩ := fb.ins
  refine v_M2 e e' ⟨a, x, b, y, T, U, n, m, true, rfl, fa.cl, fb.cl, ⟨_, _, _, _, fa.pl, fb.pl, psk, psk, (decide_eq_true ⟨rfl, rfl⟩).symm⟩, ?_⟩
  refine q _ ?_
  rw [Bool.true_and, decide_eq_true_iff]
  exact ⟨fun e => by rw [e]; exact ⟨leF.refl, leF.refl⟩, fun h => leF.eq knd fa.fl fb.fl h.1 h.2⟩
end
section
variable {P : Program} {w : World} {K : PySem.W.Frag} {mg : Str → Option Value} {base : Heap} {C R O CL : Addr}
end
end
section
open PySem PySem.Spec L2
section
variable {C CL c x c1 x1 c2 x2 : Addr} {H H' : Hp} {TT U : List (List Nat)} {m n1 n2 : Nat} {e : Bool} {ks : List Nat} {ps : List (List Nat)}
theorem ClosedAt.ext75 (h : ClosedAt CL H c x TT m) (k : LamX.ExtN H H') : ClosedAt CL H' c x TT m := by
  obtain ⟨dx, fs, t, q, e1, e2, e3, e4, e5, e6⟩ := h.ex
  obtain ⟨dy, gs, n1, n2⟩ := h.no
  obtain ⟨E, b1, b2, b3⟩ := e5.ex
  exact ⟨h.ml, ⟨dx, fs, t, q, k _ _ e1 (fun _ z => nomatch z), e2, e3, e4, ⟨E, b1, k _ _ b2 (fun _ z => nomatch z), fun e he => k _ _ (b3 e he) (fun _ z => nomatch z)⟩, k _ _ e6 (fun _ z => nomatch z)⟩, dy, gs, k _ _ n1 (fun _ z => nomatch z), n2⟩
theorem PlanAt.ext75 (h : PlanAt C H x ks ps) (k : LamX.ExtN H H') : PlanAt C H' x ks ps := by
  obtain ⟨dx, t, d, a1, a2, a3⟩ := h.ex
  exact ⟨dx, t, d, k _ _ a1 (fun _ z => nomatch z), k _ _ a2 (fun _ z => nomatch z), k _ _ a3 (fun _ z => nomatch z)⟩
structure Two75 (C CL c1 x1 c2 x2 : Addr) (TT U : List (List Nat)) (n1 n2 : Nat) (e : Bool) (H : Hp) : Prop where
  a : ClosedAt CL H c1 x1 TT n1
  b : ClosedAt CL H c2 x2 U n2
  pp : Plans2 C H x1 x2 e
  calm : e = true → ∃ (ks : List Nat) (ps : List (List Nat)), FlAt C CL H c1 x1 ks ps TT n1 ∧ FlAt C CL H c2 x2 ks ps U n2 ∧ PsOk ps ∧ ks.Nodup ∧ ks.length ≤ 8 ∧ 0 < n1 ∧ 0 < n2 ∧ n1 * n2 ≤ 1000
theorem Two75.ext (h : Two75 C CL c1 x1 c2 x2 TT U n1 n2 e H) (k : LamX.ExtN H H') : Two75 C CL c1 x1 c2 x2 TT U n1 n2 e H' := by
  obtain ⟨k1, k2, p1, p2, a1, a2, a3, a4, a5⟩ := h.pp
  refine ⟨h.a.ext75 k, h.b.ext75 k, ⟨k1, k2, p1, p2, a1.ext75 k, a2.ext75 k, a3, a4, a5⟩, fun z => ?_⟩
  obtain ⟨ks, ps, f1, f2, r⟩ := h.calm z
  exact ⟨ks, ps, ⟨f1.cl.ext75 k, f1.pl.ext75 k, f1.fl⟩, ⟨f2.cl.ext75 k, f2.pl.ext75 k, f2.fl⟩, r⟩
end
structure Txt75 (K : PySem.W.Frag) (mg : Str → Option Value) (C R O CL : Addr) : Prop extends TxtSq K mg C R O CL where
  oo : PySem.W.subIn K (.ref O) (.ref O) = some true
def spOthP75 (C CL : Addr) (Ts : List (Addr × Str)) : Sp := fun vs H Q _ => ∃ (c1 c2 x1 x2 : Addr) (TT U : List (List Nat)) (n1 n2 : Nat) (e : Bool), vs = [.ref c1, .ref c2] ∧ LamX.Tabs Ts H ∧ Two75 C CL c1 x1 c2 x2 TT U n1 n2 e H ∧
  ∀ H', LamX.ExtN H H' → LamX.Tabs Ts H' → Q (.bl (!e)) H'
section
variable {P : Program} {w : World} {K : PySem.W.Frag} {mg : Str → Option Value} {base : Heap} {C R O CL : Addr} {Ts : List (Addr × Str)} {c Pt : Addr}
abbrev stothp75 : Stmt := (top 52)
abbrev Nothp75 : List Str := ["_law_floor", "_law_other", "_law_found", "_law_asks", "_law_ask"]
theorem scothp75 : FnScope Nothp75 ["_law_floor", "_law_other"] (defScope stothp75) := ⟨rfl, rfl, rfl, by decide +kernel, rfl, by decide +kernel, by decide +kernel⟩

theorem ok_othp75 (F : FnAtC K mg "_law_other_plan" stothp75 c) (T : Txt75 K mg C R O CL) (TB : LamX.TabB base mg c Pt) (hmT : (Pt, ("_law_other_plan" : Str) ++ ".<locals>." ++ "<lambda>") ∈ Ts) (huT : ∀ p ∈ Ts, p.1 = Pt → p.2 = ("_law_other_plan" : Str) ++ ".<locals>." ++ "<lambda>")
    (M_le : MDef P w K mg base CX0 4 CL "__le__" ["self", "other"] (spLe77 C CL)) (M_and : MDef P w K mg base CX0 7 CL "__and__" ["self", "other"] (spAnd77 C CL)) (M_or : MDef P w K mg base CX0 7 CL "__or__" ["self", "other"] (spOr77 C CL))
    (M_leX : MDef P w K mg base (L2.CX P w) 4 CL "__le__" ["self", "other"] (spApart75 C CL O)) (M_andX : MDef P w K mg base (L2.CX P w) 7 CL "__and__" ["self", "other"] (spApart75 C CL O)) (M_orX : MDef P w K mg base (L2.CX P w) 7 CL "__or__" ["self", "other"] (spApart75 C CL O)) :
    Def P w K mg base CX0 9 "_law_other_plan" ["_law_floor", "_law_other"] (spOthP75 C CL Ts) := by
  refine F.ok scothp75 (fun _ _ _ _ _ _ us hl => match us, hl with | [_, _], _ => rfl) (fun vs H Q E h => ?_) (fun f A outer s H vs Q E hr h => ?_)
  · obtain ⟨c1, c2, x1, x2, TT, U, n1, n2, e, rfl, _⟩ := h
    rfl
  obtain ⟨c1, c2, x1, x2, TT, U, n1, n2, e, rfl, t0, tw, q0⟩ := h
  have hu := hu_of hr
  have nd := scothp75.nd
  refine ⟨_, (pss_cons (ps_set (i := 2) nd rfl (Or.inl rfl) (pe_lst pa_nil))
      (pss_cons (ps_set (i := 3) nd rfl (Or.inl rfl) (pe_lst (pa_cons (pe_lamW TB hmT huT (LamX.lamS_by (show LamX.lamSB (defScope stothp75) _ = true by decide +kernel))) pa_nil)))
      (pss_cons (ps_expr (pe_appK (K := K) rfl (pv 3) (pe_lamW TB hmT huT (LamX.lamS_by (show LamX.lamSB (defScope stothp75) _ = true by decide +kernel)))))
      (pss_cons (ps_expr (pe_appK (K := K) rfl (pv 3) (pe_lamW TB hmT huT (LamX.lamS_by (show LamX.lamSB (defScope stothp75) _ = true by decide +kernel)))))
      (pss_cons (ps_for PassesOwn.never rfl (pi_listK (K := K) rfl (pv 3)) (pg_name (i := 4) nd rfl (Or.inl rfl))
      (pss_one (ps_tryO (Wout := fun _ _ _ _ => False) rfl rfl ⟨rfl, by decide, Or.inl T.OtherPlan.at⟩ takes0
        (fun W pn xe tk _ => (pss_one (ps_expr (pe_lamO (k := 7) (a := "_law_ask") (i := 4) tk hr rfl (Or.inl rfl)))))
        (fun a oe cls d pn hz hf => (pss_one (ps_expr (pe_appK (K := K) rfl (pv 2) pe_bl)))))))
      (pss_one (ps_ret (pe_cmpR op_eq (pe_callB (c_lenK (K := K) rfl) (by rfl) T.len PySem.boot_len (pa_cons (pv 2) pa_nil)) pe_int (nomark _))))))))), ?_⟩
  refine s_start [some _, some _, none, none, none] rfl ?_
  replace M_le := M_le.mono (show 4 ≤ 7 by decide)
  replace M_leX := M_leX.mono (show 4 ≤ 7 by decide)
  have hx : PySem.W.exmOne K (.ref O) (.ref O) = some true := PySem.W.exm_ref T.OtherPlan.ec.hs T.OtherPlan.ec.hd T.OtherPlan.ty T.oo
  let XX := (cxOf CX0 P w K mg base Nothp75 (Str.ofString "_law_other_plan") (defScope stothp75) f (Value.ref c) A outer s H E).nox
  let Lam : Addr → Hp → Prop := fun g Hx => ∃ k d t, LamOk XX 7 d t ∧ Hx k = some (LamX.CodeO k (XX.env.qual ++ "<lambda>")) ∧ Hx g = some (FunL XX.env d g k) ∧ ∀ (E' : XK) (Hy : Hp) (Q' : VK) (z2 z3 z4 : Option V), LamX.ExtN H Hy → (e = false → E' (.ref O) none Hy) → (e = true → ∀ v H9, Same Hy H9 → Q' v H9) → t E' [some (.ref c1), some (.ref c2), z2, z3, z4] Hy Q'
  have lext : ∀ {g Hx Hy}, Lam g Hx → LamX.ExtN Hx Hy → Lam g Hy := fun {g Hx Hy} ⟨k, d, t, h1, h2, h3, h4⟩ z => ⟨k, d, t, h1, z _ _ h2 (fun ps => LamX.codeO_ne ps), z _ _ h3 (fun ps => funL_ne ps), h4⟩
  walk_at "go"
  intro fo H1 hfo s1 efo
  have t1 := tabs_same t0 s1
  walk_at "go"
  refine ⟨t1, fun f2 k2 H2 x2 t2 e2 g2 => ?_⟩
  have l2 : Lam f2 H2 := by
    cases e with
    | false =>
      refine ⟨k2, _, _, ⟨LamX.lamS_by (show LamX.lamSB (defScope stothp75) _ = true by decide +kernel), (by intro _ _ _ _ _; rfl), fun A outer s H E f c1 hr => (pe_op (op_andM2 M_andX T.Closed_sf hr (passes_call (takes_of rfl rfl rfl rfl) (fun _ _ _ _ h => h))) (pv 0) (pv 1))⟩, e2, g2, fun E' Hy Q' z2 z3 z4 ex r1 _ => ?_⟩
      have ty := tw.ext ex
      obtain ⟨dx, fs, u1, u2, a1, _⟩ := ty.a.ex
      obtain ⟨dy, gs, v1, v2, b1, _⟩ := ty.b.ex
      walk_at "go"
      exact v_MP a1 b1 ⟨_, _, _, _, _, _, _, _, rfl, ty.a, ty.b, ty.pp, r1 rfl⟩
    | true =>
      refine ⟨k2, _, _, ⟨LamX.lamS_by (show LamX.lamSB (defScope stothp75) _ = true by decide +kernel), (by intro _ _ _ _ _; rfl), fun A outer s H E f c1 hr => (pe_op (op_andM2 M_and T.Closed_sf hr pass0) (pv 0) (pv 1))⟩, e2, g2, fun E' Hy Q' z2 z3 z4 ex _ r2 => ?_⟩
      have ty := tw.ext ex
      obtain ⟨dx, fs, u1, u2, a1, _⟩ := ty.a.ex
      obtain ⟨dy, gs, v1, v2, b1, _⟩ := ty.b.ex
      obtain ⟨ks, ps, fa, fb, psk, knd, k8, p1, p2, hN⟩ := ty.calm rfl
      walk_at "go"
      exact v_MP a1 b1 ⟨_, _, _, _, _, _, _, _, _, _, rfl, fa, fb, psk, knd, k8, hN, fun c' H9 _ _ _ s9 _ _ _ => r2 rfl _ _ s9⟩
  walk_at "go"
  intro qa H3 hqa s3 eqa
  walk_at "go"
  refine ⟨tabs_same t2 s3, fun f3 k3 H4 y4 t4 e3 g3 => ?_⟩
  have l3 : Lam f3 H4 := by
    cases e with
    | false =>
      refine ⟨k3, _, _, ⟨LamX.lamS_by (show LamX.lamSB (defScope stothp75) _ = true by decide +kernel), (by intro _ _ _ _ _; rfl), fun A outer s H E f c1 hr => (pe_op (op_orM2 M_orX T.Closed_sf hr (passes_call (takes_of rfl rfl rfl rfl) (fun _ _ _ _ h => h))) (pv 0) (pv 1))⟩, e3, g3, fun E' Hy Q' z2 z3 z4 ex r1 _ => ?_⟩
      have ty := tw.ext ex
      obtain ⟨dx, fs, u1, u2, a1, _⟩ := ty.a.ex
      obtain ⟨dy, gs, v1, v2, b1, _⟩ := ty.b.ex
      walk_at "go"
      exact v_MP a1 b1 ⟨_, _, _, _, _, _, _, _, rfl, ty.a, ty.b, ty.pp, r1 rfl⟩
    | true =>
      refine ⟨k3, _, _, ⟨LamX.lamS_by (show LamX.lamSB (defScope stothp75) _ = true by decide +kernel), (by intro _ _ _ _ _; rfl), fun A outer s H E f c1 hr => (pe_op (op_orM2 M_or T.Closed_sf hr pass0) (pv 0) (pv 1))⟩, e3, g3, fun E' Hy Q' z2 z3 z4 ex _ r2 => ?_⟩
      have ty := tw.ext ex
      obtain ⟨dx, fs, u1, u2, a1, _⟩ := ty.a.ex
      obtain ⟨dy, gs, v1, v2, b1, _⟩ := ty.b.ex
      obtain ⟨ks, ps, fa, fb, psk, knd, k8, p1, p2, hN⟩ := ty.calm rfl
      walk_at "go"
      exact v_MP a1 b1 ⟨_, _, _, _, _, _, _, _, _, _, rfl, fa, fb, psk, knd, k8, hN, fun c' H9 _ _ _ s9 _ _ => r2 rfl _ _ s9⟩
  have q4 := y4 _ _ eqa fun _ z => nomatch z
  walk_at "go"
  refine v_app q4 (by simp) fun H5 k5 e5 => ?_
  have pre2 : LamX.ExtN H H2 := (ext_of s1).trans x2
  have exq : ∀ {Hx Hy : Hp}, LamX.ExtN H Hx → Keep qa Hx Hy → LamX.ExtN H Hy := fun {Hx Hy} z kp b o hb n => kp _ _ (z b o hb n) (ne_of_none (pre2 b o hb n) hqa)
  have exf : ∀ {Hx Hy : Hp}, LamX.ExtN H Hx → Keep fo Hx Hy → LamX.ExtN H Hy := fun {Hx Hy} z kp b o hb n => kp _ _ (z b o hb n) (ne_of_none hb hfo)
  have lkeep : ∀ {g p Hx Hy l}, Lam g Hx → Hx p = some (.lst l) → Keep p Hx Hy → Lam g Hy := fun {g p Hx Hy l} ⟨k, d, t, h1, h2, h3, h4⟩ hp z => ⟨k, d, t, h1, z _ _ h2 (ne_of h2 hp fun q => codeO_lst q.symm), z _ _ h3 (ne_of h3 hp fun q => by unfold FunL at q; cases q), h4⟩
  have pre4 : LamX.ExtN H H4 := (pre2.trans (ext_of s3)).trans y4
  have pre5 := exq pre4 k5
  have t5 := tabs_keep t4 k5 q4 (fun _ z => nomatch z) (fun _ _ => codeO_lst)
  have l25 : Lam f2 H5 := lkeep (lext l2 ((ext_of s3).trans y4)) q4 k5
  have l35 : Lam f3 H5 := lkeep l3 q4 k5
  have nfq : fo ≠ qa := ne_of_none (x2 _ _ efo fun _ z => nomatch z) hqa
  have ef5 : H5 fo = some (.lst []) := k5 _ _ (y4 _ _ (s3 _ _ (x2 _ _ efo fun _ z => nomatch z)) fun _ z => nomatch z) nfq
  walk_at "go"
  refine ⟨t5, fun f4 k4 H6 y6 t6 e4 g4 => ?_⟩
  have l4 : Lam f4 H6 := by
    cases e with
    | false =>
      refine ⟨k4, _, _, ⟨LamX.lamS_by (show LamX.lamSB (defScope stothp75) _ = true by decide +kernel), (by intro _ _ _ _ _; rfl), fun A outer s H E f c1 hr => (pe_cmpR (op_cmpM (op := .LtE) (fun _ _ => rfl) M_leX hr (passes_call (takes_of rfl rfl rfl rfl) (fun _ _ _ _ h => h))) (pv 0) (pv 1) (nomark _))⟩, e4, g4, fun E' Hy Q' z2 z3 z4 ex r1 _ => ?_⟩
      have ty := tw.ext ex
      obtain ⟨dx, fs, u1, u2, a1, _⟩ := ty.a.ex
      obtain ⟨dy, gs, v1, v2, b1, _⟩ := ty.b.ex
      walk_at "go"
      exact v_M2 a1 b1 ⟨_, _, _, _, _, _, _, _, rfl, ty.a, ty.b, ty.pp, r1 rfl⟩
    | true =>
      refine ⟨k4, _, _, ⟨LamX.lamS_by (show LamX.lamSB (defScope stothp75) _ = true by decide +kernel), (by intro _ _ _ _ _; rfl), fun A outer s H E f c1 hr => (pe_cmpR (op_cmpM (op := .LtE) (fun _ _ => rfl) M_le hr pass0) (pv 0) (pv 1) (nomark _))⟩, e4, g4, fun E' Hy Q' z2 z3 z4 ex _ r2 => ?_⟩
      have ty := tw.ext ex
      obtain ⟨dx, fs, u1, u2, a1, _⟩ := ty.a.ex
      obtain ⟨dy, gs, v1, v2, b1, _⟩ := ty.b.ex
      obtain ⟨ks, ps, fa, fb, psk, knd, k8, p1, p2, hN⟩ := ty.calm rfl
      walk_at "go"
      exact v_M2 a1 b1 ⟨_, _, _, _, _, _, _, _, _, _, rfl, fa, fb, psk, knd, k8, hN, fun b H9 s9 _ => r2 rfl _ _ s9⟩
  have q6 := y6 _ _ e5 fun _ z => nomatch z
  walk_at "go"
  refine v_app q6 (by simp) fun H7 k7 e7 => ?_
  have pre7 := exq (pre5.trans y6) k7
  have t7 := tabs_keep t6 k7 q6 (fun _ z => nomatch z) (fun _ _ => codeO_lst)
  have l27 : Lam f2 H7 := lkeep (lext l25 y6) q6 k7
  have l37 : Lam f3 H7 := lkeep (lext l35 y6) q6 k7
  have l47 : Lam f4 H7 := lkeep l4 q6 k7
  have ef7 : H7 fo = some (.lst []) := k7 _ _ (y6 _ _ ef5 fun _ z => nomatch z) nfq
  have e7 : H7 qa = some (.lst [.ref f2, .ref f3, .ref f4]) := e7
  clear l2 l3 l4 l25 l35 t5 t6 k7 q6 y6 k5 e5 q4 y4 t4 s3 eqa t2 x2 e2 g2 e3 g3 e4 g4 pre4 pre5 ef5 efo t1 s1 pre2
  walk_at "go"
  refine for_it (walk_list (K := K) (a := qa) (xs := [.ref f2, .ref f3, .ref f4])) (fun i σ H' => ∃ z4 l, σ = [some (.ref c1), some (.ref c2), some (.ref fo), some (.ref qa), z4] ∧ LamX.ExtN H H' ∧ LamX.Tabs Ts H' ∧ H' fo = some (.lst l) ∧ l.length = (if e = true then 0 else i) ∧ H' qa = some (.lst [.ref f2, .ref f3, .ref f4]) ∧ Lam f2 H' ∧ Lam f3 H' ∧ Lam f4 H') ⟨_, [], rfl, pre7, t7, ef7, by cases e <;> rfl, e7, l27, l37, l47⟩ ?_ ?_ ?_
  · rintro i σ H' _ ⟨_, _, _, _, _, _, _, h, _⟩
    exact SqL.of h
  · rintro i v σ H8 H9 hi ⟨z4, l, rfl, ex, t8, ef8, ll, eq8, a2, a3, a4⟩ ⟨rfl, hv⟩
    have lam : ∃ g, v = .ref g ∧ Lam g H9 := by
      match i, hi, hv with
      | 0, _, hv => exact ⟨f2, (Option.some.inj hv).symm, a2⟩
      | 1, _, hv => exact ⟨f3, (Option.some.inj hv).symm, a3⟩
      | 2, _, hv => exact ⟨f4, (Option.some.inj hv).symm, a4⟩
    obtain ⟨g, rfl, k, d, t, h1, h2, h3, h4⟩ := lam
    walk_at "go"
    refine e_tryO ?_
    refine ⟨g, k, d, t, (fun cls dd H' => e = false ∧ cls = .ref O ∧ dd = none ∧ H' = H9), h1, rfl, h2, h3, fun cls dd H' hE => ?_, h4 _ _ _ _ _ _ ex (fun z => ⟨z, rfl, rfl, rfl⟩) fun ce v H10 s10 => ?_⟩
    · obtain ⟨ez, rfl, rfl, rfl⟩ := hE
      subst ez
      refine ⟨true, hx, fun _ a0 ha0 => ?_, fun q => nomatch q⟩
      walk_at "go"
      have hi3 : i < 3 := hi
      rw [if_neg (by decide)] at ll
      refine v_app ef8 (by omega) fun H10 k10 e10 => ?_
      refine ⟨_, _, rfl, exf ex k10, tabs_keep t8 k10 ef8 (fun _ z => nomatch z) (fun _ _ => codeO_lst), e10, ?_, k10 _ _ eq8 nfq.symm, lkeep a2 ef8 k10, lkeep a3 ef8 k10, lkeep a4 ef8 k10⟩
      rw [List.length_append, ll, if_neg (by decide)]
      rfl
    · subst ce
      refine ⟨_, l, rfl, ex.trans (ext_of s10), tabs_same t8 s10, s10 _ _ ef8, ?_, s10 _ _ eq8, lext a2 (ext_of s10), lext a3 (ext_of s10), lext a4 (ext_of s10)⟩
      rw [ll, if_pos rfl, if_pos rfl]
  · rintro σ H8 ⟨z4, l, rfl, ex, t8, ef8, ll, _⟩
    walk_at "go"
    have l3 : l.length = if e = true then 0 else 3 := ll
    have q0 := q0 H8 ex t8
    rw [l3]
    cases e with
    | true => exact q0
    | false => exact q0
end
end
section
open PySem PySem.Spec L2
theorem rowK_map {ks : List Nat} {r : Nat → List Nat} {c : Nat} (h : c ∈ ks) : rowK ks (ks.map r) c = r c := by
  obtain ⟨h1, h2⟩ := ixOf_get h
  unfold rowK
  rw [List.getD_eq_getElem?_getD, List.getElem?_map, List.getElem?_eq_getElem h1]
  show r ks[ixOf ks c] = r c
  rw [List.getD_eq_getElem?_getD, List.getElem?_eq_getElem h1] at h2
  exact congrArg r h2
section
variable {n : Nat} {ks w : List Nat} {gs : List (List Nat)} {r : Nat → List Nat}
theorem ScOk.mem_cr (ok : ScOk ks gs) {a b : Nat} (h : crB gs a b = true) : a ∈ ks ∧ b ∈ ks ∧ a ≠ b := by
  unfold crB at h
  rcases Bool.or_eq_true_iff.mp h with z | z
  · obtain ⟨u, v, e, n, hu, hv⟩ := ok.prs _ (of_decide_eq_true z)
    obtain ⟨rfl, rfl⟩ := pair_inj e
    exact ⟨hu, hv, n⟩
  · obtain ⟨u, v, e, n, hu, hv⟩ := ok.prs _ (of_decide_eq_true z)
    obtain ⟨rfl, rfl⟩ := pair_inj e
    exact ⟨hv, hu, fun e => n e.symm⟩
theorem ScOk.cross (ok : ScOk ks gs) {a b : Nat} : b ∈ crossOf ks (prsOf gs) a ↔ crB gs a b = true := by
  unfold crossOf
  rw [List.mem_filter, Bool.or_eq_true_iff, decide_eq_true_iff, decide_eq_true_iff, prs_crB ok, prs_crB ok, crB_sym b a]
  constructor
  · rintro ⟨_, z | z⟩
    · exact z.2
    · exact z.2
  · intro h
    obtain ⟨h1, h2, h3⟩ := ok.mem_cr h
    exact ⟨h2, (Nat.lt_or_gt_of_ne h3).imp (fun z => ⟨z, h⟩) fun z => ⟨z, h⟩⟩
theorem ScOk.few' (gs : List (List Nat)) : (prsOf gs).length ≤ 1000 := Nat.le_trans (pairsOf_len _) (by decide)
theorem ScOk.small (gs : List (List Nat)) : PsOk (prsOf gs) := pairsOf_small _
theorem RowsOk.good (ok : ScOk ks gs) (h : RowsOk n (crB gs) ks r) (n0 : 0 < n) (ln : n ≤ 1000) : Good n ks (prsOf gs) (ks.map r) := by
  refine ⟨List.length_map _, by have := ok.len; omega, ScOk.few' gs, fun s hs => ?_, n0, ln, fun s hs p hp => ?_, fun p hp => ?_⟩
  · obtain ⟨c, hc, rfl⟩ := List.mem_map.mp hs
    exact h.len c hc
  · obtain ⟨c, hc, rfl⟩ := List.mem_map.mp hs
    exact h.back c hc p hp
  · obtain ⟨a, b, rfl, _⟩ := pairsOf_mem.mp hp
    obtain ⟨_, cr⟩ := (prs_crB ok).mp hp
    obtain ⟨ha, hb, _⟩ := ok.mem_cr cr
    refine ⟨a, b, rfl, ha, hb, fun x hx => ?_⟩
    rw [rowK_map ha, rowK_map hb]
    exact h.com b hb a ha (by rw [crB_sym]; exact cr) x hx
/-! ### renamings -/
theorem Pres.len (p : Pres gs ks w) : w.length = ks.length := p.pm.length_eq
theorem Pres.all (p : Pres gs ks w) (ok : ScOk ks gs) {i j : Nat} (hi : i < ks.length) (hj : j < ks.length) : crB gs (ks.getD i 0) (ks.getD j 0) = crB gs (w.getD i 0) (w.getD j 0) := by
  rcases Nat.lt_trichotomy i j with l | l | l
  · rw [crB_sym, p.cr j i hj l, crB_sym]
  · subst l
    have f : ∀ a, crB gs a a = false := fun a => by
      cases e : crB gs a a with
      | false => rfl
      | true => exact absurd rfl (ok.mem_cr e).2.2
    rw [f, f]
  · exact p.cr i j hi l
theorem Pres.mem (p : Pres gs ks w) {c : Nat} (hc : c ∈ ks) : ks.getD (ixOf w c) 0 ∈ ks ∧ ixOf w c < ks.length ∧ w.getD (ixOf w c) 0 = c := by
  obtain ⟨h1, h2⟩ := ixOf_get (p.pm.mem_iff.mpr hc)
  have := p.len
  exact ⟨getD_mem (by omega), by omega, h2⟩
/-- the renaming back -/
def invR (ks w : List Nat) : List Nat := ks.map fun c => ks.getD (ixOf w c) 0
theorem invR_get {i : Nat} (hi : i < ks.length) : (invR ks w).getD i 0 = ks.getD (ixOf w (ks.getD i 0)) 0 := by
  unfold invR
  rw [List.getD_eq_getElem?_getD, List.getElem?_map, List.getD_eq_getElem?_getD (l := ks) (i := i), List.getElem?_eq_getElem hi]
  rfl
theorem Pres.inv (p : Pres gs ks w) (ok : ScOk ks gs) : Pres gs ks (invR ks w) := by
  have wl := p.len
  have wn : w.Nodup := p.pm.symm.nodup ok.nd
  refine ⟨?_, fun i j hi hj => ?_⟩
  · have nd : (invR ks w).Nodup := by
      unfold invR
      refine List.pairwise_map.mpr (ok.nd.imp_of_mem fun {a b} ha hb ne e => ne ?_)
      obtain ⟨m1, l1, g1⟩ := p.mem ha
      obtain ⟨m2, l2, g2⟩ := p.mem hb
      have := getD_inj71 ok.nd l1 l2 e
      rw [← g1, ← g2, this]
    refine (List.perm_ext_iff_of_nodup nd ok.nd).mpr fun c => ⟨fun hc => ?_, fun hc => ?_⟩
    · obtain ⟨a, ha, rfl⟩ := List.mem_map.mp hc
      exact (p.mem ha).1
    · have hi := (ixOf_get hc).1
      refine List.mem_map.mpr ⟨w.getD (ixOf ks c) 0, p.pm.mem_iff.mp (getD_mem (by omega)), ?_⟩
      rw [ixOf_getD wn (by omega)]
      exact (ixOf_get hc).2
  · have hj' : j < ks.length := by omega
    rw [invR_get hi, invR_get hj']
    obtain ⟨m1, l1, g1⟩ := p.mem (getD_mem hi)
    obtain ⟨m2, l2, g2⟩ := p.mem (getD_mem hj')
    rw [p.all ok l1 l2, g1, g2]
/-! ### ways -/
end
end
section
open PySem PySem.Spec L2
open PyProof.Rows (firstMet firstMet_succ firstMet_any firstMet_length_le)
/-- as many as len(set(..)) tells -/
def many75 (ns : List Int) : Nat := (firstMet (fun i => ns.getD i 0) ns.length).length
theorem many_iff75 (ns : List Int) : many75 ns = ns.length ↔ ns.Nodup := by
  have key : ∀ i, i ≤ ns.length → ((firstMet (fun i => ns.getD i 0) i).length = i ↔ (ns.take i).Nodup) := by
    intro i
    induction i with
    | zero => exact fun _ => ⟨fun _ => by simp, fun _ => rfl⟩
    | succ i ih =>
      intro hi
      have ih := ih (by omega)
      have hx : ns.getD i 0 = ns[i]'(by omega) := by rw [List.getD_eq_getElem?_getD, List.getElem?_eq_getElem (show i < ns.length by omega)]; rfl
      have tk : ns.take (i + 1) = ns.take i ++ [ns.getD i 0] := by
        rw [hx, List.take_succ, List.getElem?_eq_getElem (show i < ns.length by omega)]
        rfl
      have rg : (List.range i).map (fun i => ns.getD i 0) = ns.take i := by
        refine List.ext_getElem (by rw [List.length_map, List.length_range, List.length_take]; omega) fun j h1 h2 => ?_
        rw [List.length_map, List.length_range] at h1
        rw [List.getElem_map, List.getElem_range, List.getElem_take, List.getD_eq_getElem?_getD, List.getElem?_eq_getElem (show j < ns.length by omega)]
        rfl
      have le := firstMet_length_le (fun i => ns.getD i 0) i
      have an := firstMet_any (fun i => ns.getD i 0) i (ns.getD i 0)
      rw [rg] at an
      rw [firstMet_succ, tk]
      show (if (firstMet (fun i => ns.getD i 0) i).any (· == ns.getD i 0) then firstMet (fun i => ns.getD i 0) i else firstMet (fun i => ns.getD i 0) i ++ [ns.getD i 0]).length = i + 1 ↔ _
      rw [an]
      have mem : (ns.take i).any (· == ns.getD i 0) = true ↔ ns.getD i 0 ∈ ns.take i := by
        rw [List.any_eq_true]
        exact ⟨fun ⟨y, hy, e⟩ => (eq_of_beq e) ▸ hy, fun h => ⟨_, h, beq_self_eq_true _⟩⟩
      cases hb : (ns.take i).any (· == ns.getD i 0) with
      | true =>
        rw [if_pos rfl]
        refine ⟨fun z => by omega, fun z => ?_⟩
        exact absurd rfl ((List.nodup_append.mp z).2.2 _ (mem.mp hb) _ (List.mem_singleton.mpr rfl))
      | false =>
        have no : ¬ ns.getD i 0 ∈ ns.take i := fun z => by rw [mem.mpr z] at hb; cases hb
        rw [if_neg (by decide), List.length_append, List.length_singleton]
        rw [List.nodup_append]
        constructor
        · intro z
          exact ⟨ih.mp (by omega), by simp, fun a ha b hb' e => no (by rw [List.mem_singleton.mp hb'] at e; exact e ▸ ha)⟩
        · intro z
          have := ih.mpr z.1
          omega
  have := key ns.length (Nat.le_refl _)
  rw [List.take_length] at this
  exact this
def tMany75 (K : PySem.W.Frag) (te : TE) : TE := fun σ H Q => te σ H fun v H1 => ∃ (p : Addr) (ns : List Int), v = .ref p ∧ SqL K H1 p (ns.map V.int) ∧ ns.length ≤ 1000 ∧ Q (.int ((many75 ns : Nat) : Int)) H1
theorem pe_many75 {X : Cx} {K : PySem.W.Frag} {b : Expr} {te : TE} {u1 u2 u3 u4 : PySem.Pos} (hK : X.K = K) (gl : Gl X "len") (ml : X.mg "len" = none) (gs : Gl X "set") (ms : X.mg "set" = none) (hb : PE X b te) (calm : X.calm = true := by rfl)
    (one : starEach [b] X.env = (false, eval b X.env) :: starEach [] X.env := by rfl) : PE X (.Call (.Name "len" u1) [.Call (.Name "set" u2) [b] [] u3] [] u4) (tMany75 K te) := by
  subst hK
  constructor
  intro pp s0 σ0 H0 Q0 I0 told
  refine PyProof.Rows.Call_ (ld_blt I0 gl ml boot_len ?_)
  refine PyProof.Rows.callWith_builtin1 ?_ rfl rfl
  refine PyProof.Rows.args_cons ?_ rfl
  refine PyProof.Rows.Call_ (ld_blt I0 gs ms (show bootBuiltins "set" = some (.type "set") by decide +kernel) ?_)
  refine PyProof.Rows.callWith_type1 ?_ one rfl
  refine PyProof.Rows.args_cons ?_ one
  refine thn (hb.run pp s0 σ0 H0 _ I0 told) ?_
  rintro raw s1 ⟨v, H1, I1, rel, p, ns, rfl, isL, few, go⟩
  apply PyProof.Rows.args_nil
  cases rel
  obtain ⟨items, vals, plain, _⟩ := I1.list isL
  have size : items.toArray.size = ns.length := by
    have := vals.length
    rw [List.length_map] at this
    simpa using this.symm
  have room : items.toArray.size + 1 < scanBound := by
    rw [size]
    unfold scanBound
    omega
  apply call_set_list (I1.ok.hd calm) plain.isList (by simpa using RZ.intsAre_vals vals) room
  intro h2 k2 made kept
  rw [size] at made
  apply PyProof.Rows.args_nil
  obtain ⟨ob, es, ep, tt, at_, exact_, data, _, _, bound, fits, num⟩ := made
  have I2 : Inv X pp σ0 H1 { s1 with heap := h2, toks := k2 } := I1.kept fun c o e => kept c o (Heap.lt_size e) e
  have le := firstMet_length_le (fun i => ns.getD i 0) ns.length
  exact call_len_set at_ exact_ data fits (by rw [num]; omega) ⟨.int ((many75 ns : Nat) : Int), H1, I2.tok _, ⟨_, by rw [num]; rfl⟩, go⟩
/-! ### the plain law -/
section
variable {ks : List Nat} {ps T U R : List (List Nat)} {r1 r2 : Nat → List Nat} {n1 n2 m n : Nat}
theorem leF_num1 (g : Good n ks ps T) : leF ks T (numT T (bfs T n 0)) := fun u v hu hv h => (ker_num g hu hv).mpr h
theorem leF_num2 (g : Good n ks ps T) : leF ks (numT T (bfs T n 0)) T := fun u v hu hv h => (ker_num g hu hv).mp h
/-- the law's rows of pairs -/
def rowsP75 (n2 : Nat) (r1 r2 : Nat → List Nat) (F : List Nat) (c : Nat) : List Nat := F.map fun z => ixOf F ((prodR n2 (r1 c) (r2 c)).getD z 0)
theorem rowsP_pair : ks.map (rowsP75 n2 r1 r2 (bfs (prodT n2 (ks.map r1) (ks.map r2)) (n1 * n2) 0)) = pairT n1 n2 (ks.map r1) (ks.map r2) := by
  unfold pairT numT
  generalize bfs (prodT n2 (ks.map r1) (ks.map r2)) (n1 * n2) 0 = F
  rw [prod_map75, List.map_map]
  rfl
theorem and_law75 (knd : ks.Nodup) (g1 : Good n1 ks ps (ks.map r1)) (g2 : Good n2 ks ps (ks.map r2)) (hN : n1 * n2 ≤ 1000) (f : Flo ks ps R m)
    (a : AndF ks (numT (ks.map r1) (bfs (ks.map r1) n1 0)) (numT (ks.map r2) (bfs (ks.map r2) n2 0)) R) :
    R = numT (ks.map (rowsP75 n2 r1 r2 (bfs (prodT n2 (ks.map r1) (ks.map r2)) (n1 * n2) 0))) (bfs (ks.map (rowsP75 n2 r1 r2 (bfs (prodT n2 (ks.map r1) (ks.map r2)) (n1 * n2) 0))) (bfs (prodT n2 (ks.map r1) (ks.map r2)) (n1 * n2) 0).length 0) := by
  obtain ⟨fp, af⟩ := and_isG knd g1 g2 hN
  rw [rowsP_pair]
  rw [show (bfs (prodT n2 (ks.map r1) (ks.map r2)) (n1 * n2) 0).length = pairM n1 n2 (ks.map r1) (ks.map r2) from rfl, fp.num]
  refine leF.eq knd f fp ?_ ?_
  · exact af.g _ (a.l.trans (leF_num2 g1)) (a.r.trans (leF_num2 g2))
  · exact a.g _ (af.l.trans (leF_num1 g1)) (af.r.trans (leF_num1 g2))
end
end
section
open PySem PySem.Spec L2
section
variable {ks : List Nat} {ps T U R : List (List Nat)} {r1 r2 : Nat → List Nat} {n1 n2 m n : Nat} {mk : List Nat}
/-- the law's rows of marks -/
def rowsM75 (rw : Nat → List Nat) (mk : List Nat) (c : Nat) : List Nat := (rw c).map fun p => mk.getD p 0
theorem getD_map75 {f : Nat → Nat} {l : List Nat} {i : Nat} (h : i < l.length) : (l.map f).getD i 0 = f (l.getD i 0) := by
  rw [List.getD_eq_getElem?_getD, List.getElem?_map, List.getElem?_eq_getElem h, List.getD_eq_getElem?_getD, List.getElem?_eq_getElem h]
  rfl
theorem or_law75 (knd : ks.Nodup) (g1 : Good n1 ks ps (ks.map r1)) (g2 : Good n2 ks ps (ks.map r2)) (hN : n1 * n2 ≤ 1000) (f : Flo ks ps R m) {F : List Nat} (hF : bfs (prodT n2 (ks.map r1) (ks.map r2)) (n1 * n2) 0 = F) (low : Low75 (shL n2 F) F.length F.length mk)
    (a : OrF ks (numT (ks.map r1) (bfs (ks.map r1) n1 0)) (numT (ks.map r2) (bfs (ks.map r2) n2 0)) R) :
    R = numT (ks.map (rowsM75 (rowsP75 n2 r1 r2 F) mk)) (bfs (ks.map (rowsM75 (rowsP75 n2 r1 r2 F) mk)) F.length 0) := by
  obtain ⟨fp, af⟩ := and_isG knd g1 g2 hN
  have eM : pairM n1 n2 (ks.map r1) (ks.map r2) = F.length := by rw [← hF]
  have eP : pairT n1 n2 (ks.map r1) (ks.map r2) = ks.map (rowsP75 n2 r1 r2 F) := by rw [← hF]; exact rowsP_pair.symm
  rw [eP, eM] at fp
  have pg := prod_good knd g1 g2 hN
  have okF := bfs_ok pg.ok pg.n0
  have hF0 := bfs_closed pg.ok pg.n0
  rw [hF] at okF hF0
  have hs : ∀ i j, shL n2 F i j → i < F.length ∧ j < F.length := fun i j z => ⟨z.1, z.2.1⟩
  have sy : ∀ i j, shL n2 F i j → shL n2 F j i := fun _ _ z => shL_sym z
  have F0 : 0 < F.length := fp.good.n0
  have lmk := low.len
  have lrow : ∀ c, (rowsP75 n2 r1 r2 F c).length = F.length := fun c => List.length_map _
  have rlt : ∀ c ∈ ks, ∀ p, p < F.length → (rowsP75 n2 r1 r2 F c).getD p 0 < F.length := fun c hc p hp => fp.good.ok.get (List.mem_map.mpr ⟨c, hc, rfl⟩) hp
  have mget : ∀ c p, p < F.length → (rowsM75 (rowsP75 n2 r1 r2 F) mk c).getD p 0 = mk.getD ((rowsP75 n2 r1 r2 F c).getD p 0) 0 := fun c p hp => getD_map75 (by rw [lrow]; exact hp)
  have okM : OkT F.length (ks.map (rowsM75 (rowsP75 n2 r1 r2 F) mk)) := fun r hr => by
    obtain ⟨c, hc, rfl⟩ := List.mem_map.mp hr
    refine ⟨by unfold rowsM75; rw [List.length_map, lrow], fun z hz => ?_⟩
    obtain ⟨p, hp, rfl⟩ := List.mem_map.mp hz
    obtain ⟨i, hi, rfl⟩ := mem_getD hp
    rw [lrow] at hi
    exact low.lt _ (rlt c hc i hi)
  -- rows keep what is shared
  have keepS : ∀ c ∈ ks, ∀ i j, shL n2 F i j → shL n2 F ((rowsP75 n2 r1 r2 F c).getD i 0) ((rowsP75 n2 r1 r2 F c).getD j 0) := fun c hc i j s => by
    obtain ⟨hi, hj, e⟩ := s
    refine ⟨rlt c hc i hi, rlt c hc j hj, ?_⟩
    have at_ : ∀ p, p < F.length → F.getD ((rowsP75 n2 r1 r2 F c).getD p 0) 0 = (r1 c).getD (F.getD p 0 / n2) 0 * n2 + (r2 c).getD (F.getD p 0 % n2) 0 ∧ (r2 c).getD (F.getD p 0 % n2) 0 < n2 := fun p hp => by
      have hm := getD_mem hp
      have hd := dec_enc (okF.lt _ hm)
      have l1 := (g1.ok _ (List.mem_map.mpr ⟨c, hc, rfl⟩)).1
      have e1 := prodR_get (n2 := n2) (r1 := r1 c) (r2 := r2 c) (a := F.getD p 0 / n2) (b := F.getD p 0 % n2) l1 hd.1 hd.2.1
      rw [hd.2.2] at e1
      refine ⟨?_, g2.ok.get (List.mem_map.mpr ⟨c, hc, rfl⟩) hd.2.1⟩
      unfold rowsP75
      rw [getD_map75 hp, (ixOf_get (hF0 _ hm _ (by rw [prod_map75]; exact List.mem_map.mpr ⟨c, hc, rfl⟩))).2, e1]
    obtain ⟨a1, a2⟩ := at_ i hi
    obtain ⟨b1, b2⟩ := at_ j hj
    rw [a1, b1, enc_div a2, enc_div b2, enc_mod a2, enc_mod b2]
    exact e.imp (fun z => by rw [z]) fun z => by rw [z]
  have keepC : ∀ c ∈ ks, ∀ i j, Con (shL n2 F) i j → Con (shL n2 F) ((rowsP75 n2 r1 r2 F c).getD i 0) ((rowsP75 n2 r1 r2 F c).getD j 0) := fun c hc i j h => by
    induction h with
    | re _ => exact .re _
    | st s _ ih => exact .st (keepS c hc _ _ s) ih
  have iff := fun i j (hi : i < F.length) (hj : j < F.length) => low.iff hs sy hi hj
  have hom : ∀ c ∈ ks, ∀ p, p < F.length → mk.getD ((rowsP75 n2 r1 r2 F c).getD (mk.getD p 0) 0) 0 = mk.getD ((rowsP75 n2 r1 r2 F c).getD p 0) 0 := fun c hc p hp =>
    (iff _ _ (rlt c hc _ (low.lt p hp)) (rlt c hc p hp)).mpr (keepC c hc _ _ ((low.con p hp).symm sy))
  -- the marks, each once
  have fdm : ∀ p, p < F.length → mk.getD p 0 ∈ uniq77 [] mk := fun p hp => uniq_mem.mpr (.inr (getD_mem (by omega)))
  have cl : Cl F.length (ks.map (rowsM75 (rowsP75 n2 r1 r2 F) mk)) (uniq77 [] mk) := by
    refine ⟨uniq_nodup .nil, fun y hy => ?_, fun y hy r hr => ?_⟩
    · have hm := (uniq_mem.mp hy).resolve_left (fun z => nomatch z)
      obtain ⟨i, hi, rfl⟩ := mem_getD hm
      exact low.lt i (by omega)
    · obtain ⟨c, hc, rfl⟩ := List.mem_map.mp hr
      have hm := (uniq_mem.mp hy).resolve_left (fun z => nomatch z)
      obtain ⟨i, hi, rfl⟩ := mem_getD hm
      have hl := low.lt i (by omega)
      rw [mget c _ hl]
      exact fdm _ (rlt c hc _ hl)
  have z0 : (uniq77 [] mk).getD 0 0 = 0 := by
    have h := (ixOf_get (fdm 0 F0)).2
    have h2 : ixOf (uniq77 [] mk) (mk.getD 0 0) = 0 := cls_z (by omega)
    rw [h2, low.nought hs F0] at h
    exact h
  have up : 0 < (uniq77 [] mk).length := Nat.lt_of_le_of_lt (Nat.zero_le _) (cls_lt (p := 0) (mk := mk) (by omega))
  obtain ⟨q1, _⟩ := num_bfs (S := ks.map (rowsM75 (rowsP75 n2 r1 r2 F) mk)) okM cl (fun _ h => h) up
  rw [z0] at q1
  have mg : Merge F.length (uniq77 [] mk).length (cls77 mk) (ks.map (rowsP75 n2 r1 r2 F)) (numT (ks.map (rowsM75 (rowsP75 n2 r1 r2 F) mk)) (uniq77 [] mk)) ks := by
    refine ⟨by unfold numT; rw [List.length_map, List.length_map], cl.numT, fun p hp => cls_lt (by omega), fun b hb => ?_, cls_z (by omega), fun c hc p hp => ?_⟩
    · obtain ⟨p, hp, e⟩ := cls_on hb
      exact ⟨p, by omega, e⟩
    · rw [rowK_num (by rw [List.length_map]) hc, rowK_map hc, rowK_map hc, rowN_get (cls_lt (by omega))]
      have e : (uniq77 [] mk).getD (cls77 mk p) 0 = mk.getD p 0 := (ixOf_get (fdm p hp)).2
      rw [e, mget c _ (low.lt p hp), hom c hc p hp]
      rfl
  rw [← eM, ← eP] at mg
  obtain ⟨gR, of⟩ := or_isG knd g1 g2 hN (fun i j hi hj => by
    rw [eM] at hi hj
    rw [cls_eq (by omega) (by omega), iff i j hi hj]
    have : shP n1 n2 (ks.map r1) (ks.map r2) = shL n2 F := by
      funext i j
      unfold shP shL
      rw [hF, eM]
    rw [this]) mg
  rw [q1] at of
  have fl := canon_of gR
  rw [q1] at fl
  exact leF.eq knd f fl (a.g _ ((leF_num2 g1).trans of.l) ((leF_num2 g2).trans of.r)) (of.g _ ((leF_num1 g1).trans a.l) ((leF_num1 g2).trans a.r))
theorem met_wayG (knd : ks.Nodup) (f : Good n1 ks ps T) (g : Good n2 ks ps U) (hN : n1 * n2 ≤ 1000) {z : Nat} (hz : z ∈ bfs (prodT n2 T U) (n1 * n2) 0) : ∃ w, Wd ks w ∧ walkT ks T 0 w = z / n2 ∧ walkT ks U 0 w = z % n2 := by
  obtain ⟨w, hw, e⟩ := reach knd (prod_good knd f g hN) z hz
  have e2 := walk_prod (a := 0) (b := 0) f g hw f.n0 g.n0
  rw [Nat.zero_mul, Nat.add_zero, e] at e2
  have l2 := walkT_lt g.ok g.lT g.n0 hw
  exact ⟨w, hw, by rw [e2, enc_div l2], by rw [e2, enc_mod l2]⟩
theorem way_metG (knd : ks.Nodup) (f : Good n1 ks ps T) (g : Good n2 ks ps U) (hN : n1 * n2 ≤ 1000) {w : List Nat} (hw : Wd ks w) : ∃ z ∈ bfs (prodT n2 T U) (n1 * n2) 0, z / n2 = walkT ks T 0 w ∧ z % n2 = walkT ks U 0 w := by
  obtain ⟨h1, h2, h3⟩ := pair_walkG knd f g hN hw
  exact ⟨_, getD_mem h1, h2, h3⟩
theorem nodup_inj75 {f : Nat → Nat} : ∀ {l : List Nat}, l.Nodup → ((l.map f).Nodup ↔ ∀ z ∈ l, ∀ y ∈ l, f z = f y → z = y)
  | [], _ => ⟨fun _ _ h => (nomatch h), fun _ => List.nodup_nil⟩
  | a :: l, nd => by
    obtain ⟨n1, n2⟩ := List.nodup_cons.mp nd
    rw [List.map_cons, List.nodup_cons, nodup_inj75 n2]
    constructor
    · rintro ⟨h1, h2⟩ z hz y hy e
      rcases List.mem_cons.mp hz with ez | hz2
      · rcases List.mem_cons.mp hy with ey | hy2
        · rw [ez, ey]
        · exact absurd (List.mem_map.mpr ⟨y, hy2, by rw [← e, ez]⟩) h1
      · rcases List.mem_cons.mp hy with ey | hy2
        · exact absurd (List.mem_map.mpr ⟨z, hz2, by rw [e, ey]⟩) h1
        · exact h2 z hz2 y hy2 e
    · intro h
      refine ⟨fun hm => ?_, fun z hz y hy e => h z (List.mem_cons_of_mem _ hz) y (List.mem_cons_of_mem _ hy) e⟩
      obtain ⟨y, hy, e⟩ := List.mem_map.mp hm
      exact n1 ((h y (List.mem_cons_of_mem _ hy) a (List.mem_cons_self ..) e) ▸ hy)
theorem le_law75 (knd : ks.Nodup) (f : Good n1 ks ps T) (g : Good n2 ks ps U) (hN : n1 * n2 ≤ 1000) :
    (((bfs (prodT n2 T U) (n1 * n2) 0).map fun z => z / n2).Nodup ↔ leF ks (numT T (bfs T n1 0)) (numT U (bfs U n2 0))) ∧
    (((bfs (prodT n2 T U) (n1 * n2) 0).map fun z => z % n2).Nodup ↔ leF ks (numT U (bfs U n2 0)) (numT T (bfs T n1 0))) := by
  have pg := prod_good knd f g hN
  have ok := bfs_ok pg.ok pg.n0
  have e1 : leF ks (numT T (bfs T n1 0)) (numT U (bfs U n2 0)) ↔ leF ks T U := ⟨fun z => ((leF_num1 f).trans z).trans (leF_num2 g), fun z => ((leF_num2 f).trans z).trans (leF_num1 g)⟩
  have e2 : leF ks (numT U (bfs U n2 0)) (numT T (bfs T n1 0)) ↔ leF ks U T := ⟨fun z => ((leF_num1 g).trans z).trans (leF_num2 f), fun z => ((leF_num2 g).trans z).trans (leF_num1 f)⟩
  have eq : ∀ z y, z / n2 = y / n2 → z % n2 = y % n2 → z = y := fun z y h1 h2 => by rw [← Nat.div_add_mod z n2, ← Nat.div_add_mod y n2, h1, h2]
  rw [e1, e2, nodup_inj75 ok.nd, nodup_inj75 ok.nd]
  refine ⟨⟨fun h u v hu hv k => ?_, fun h z hz y hy e => ?_⟩, ⟨fun h u v hu hv k => ?_, fun h z hz y hy e => ?_⟩⟩
  · obtain ⟨z, hz, z1, z2⟩ := way_metG knd f g hN hu
    obtain ⟨y, hy, y1, y2⟩ := way_metG knd f g hN hv
    have := h z hz y hy (by show z / n2 = y / n2; rw [z1, y1]; exact k)
    show walkT ks U 0 u = walkT ks U 0 v
    rw [← z2, ← y2, this]
  · obtain ⟨u, hu, u1, u2⟩ := met_wayG knd f g hN hz
    obtain ⟨v, hv, v1, v2⟩ := met_wayG knd f g hN hy
    refine eq z y e ?_
    rw [← u2, ← v2]
    exact h u v hu hv (show walkT ks T 0 u = walkT ks T 0 v by rw [u1, v1]; exact e)
  · obtain ⟨z, hz, z1, z2⟩ := way_metG knd f g hN hu
    obtain ⟨y, hy, y1, y2⟩ := way_metG knd f g hN hv
    have := h z hz y hy (by show z % n2 = y % n2; rw [z2, y2]; exact k)
    show walkT ks T 0 u = walkT ks T 0 v
    rw [← z1, ← y1, this]
  · obtain ⟨u, hu, u1, u2⟩ := met_wayG knd f g hN hz
    obtain ⟨v, hv, v1, v2⟩ := met_wayG knd f g hN hy
    refine eq z y ?_ e
    rw [← u1, ← v1]
    exact h u v hu hv (show walkT ks U 0 u = walkT ks U 0 v by rw [u2, v2]; exact e)
theorem many_map75 {f : Nat → Nat} {l : List Nat} : many75 (l.map fun z => ((f z : Nat) : Int)) = l.length ↔ (l.map f).Nodup := by
  have h := many_iff75 (l.map fun z => ((f z : Nat) : Int))
  rw [List.length_map] at h
  rw [h]
  have e : (l.map fun z => ((f z : Nat) : Int)) = (l.map f).map fun (n : Nat) => ((n : Nat) : Int) := by rw [List.map_map]; rfl
  rw [e]
  constructor
  · intro z
    exact (List.pairwise_map.mp z).imp fun {a b} q e => q (by rw [e])
  · intro z
    exact List.pairwise_map.mpr (z.imp fun {a b} q e => q (Int.ofNat.inj e))
end
end
section
open PySem PySem.Spec L2
theorem ClosedAt.pen {CL : Addr} {H H' : Hp} {c x : Addr} {T : List (List Nat)} {m : Nat} {g : Pen} {n : Nat} (h : ClosedAt CL H c x T m) (p : PenAt g H n) (k : Keep g.p H H') : ClosedAt CL H' c x T m := by
  obtain ⟨a, b, h1, _⟩ := p.ex
  obtain ⟨dx, fs, t, q, e1, e2, e3, e4, e5, e6⟩ := h.ex
  obtain ⟨dy, gs, n1, n2⟩ := h.no
  obtain ⟨E, b1, b2, b3⟩ := e5.ex
  exact ⟨h.ml, ⟨dx, fs, t, q, k _ _ e1 (ne_of e1 h1 (by intro z; cases z)), e2, e3, e4, ⟨E, b1, k _ _ b2 (ne_of b2 h1 (by intro z; cases z)), fun e he => k _ _ (b3 e he) (ne_of (b3 e he) h1 (by intro z; cases z))⟩, k _ _ e6 (ne_of e6 h1 (by intro z; cases z))⟩, dy, gs, k _ _ n1 (ne_of n1 h1 (by intro z; cases z)), n2⟩
theorem TabT.pen {H H' : Hp} {t : Addr} {T : List (List Nat)} {g : Pen} {n : Nat} (h : TabT H t T) (p : PenAt g H n) (k : Keep g.p H H') : TabT H' t T := by
  obtain ⟨a, b, h1, _⟩ := p.ex
  obtain ⟨E, b1, b2, b3⟩ := h.ex
  exact ⟨E, b1, k _ _ b2 (ne_of b2 h1 (by intro z; cases z)), fun e he => k _ _ (b3 e he) (ne_of (b3 e he) h1 (by intro z; cases z))⟩
/-- the tables of a floor's places -/
abbrev flT (ks : List Nat) (r : Nat → List Nat) (m : Nat) : List (List Nat) := numT (ks.map r) (bfs (ks.map r) m 0)
abbrev flM (ks : List Nat) (r : Nat → List Nat) (m : Nat) : Nat := (bfs (ks.map r) m 0).length
/-- what stands in the law's loop -/
structure B71 (C CL : Addr) (H : Hp) (g : Pen) (n : Nat) (q d c x y : Addr) (ks : List Nat) (gs : List (List Nat)) (r : Nat → List Nat) (m : Nat) : Prop where
  p : PenAt g H n
  sc : SceneAt C H q ks gs x y
  dt : DicT H d ks r
  cl : ClosedAt CL H c x (flT ks r m) (flM ks r m)
section
variable {C CL : Addr} {H H' : Hp} {g : Pen} {n n' : Nat} {q d c x y : Addr} {ks : List Nat} {gs : List (List Nat)} {r : Nat → List Nat} {m : Nat}
theorem B71.same (b : B71 C CL H g n q d c x y ks gs r m) (s : Same H H') : B71 C CL H' g n q d c x y ks gs r m := ⟨b.p.same s, b.sc.same s, b.dt.same s, b.cl.same s⟩
theorem B71.pen (b : B71 C CL H g n q d c x y ks gs r m) (p : PenAt g H' n') (k : Keep g.p H H') : B71 C CL H' g n' q d c x y ks gs r m := ⟨p, b.sc.pen b.p k, b.dt.pen b.p k, b.cl.pen b.p k⟩
end
theorem v_neTab {K : PySem.W.Frag} {H : Hp} {Q : VK} {t t' : Addr} {T T' : List (List Nat)} (h : TabT H t T) (h' : TabT H t' T') (q : Q (.bl (!decide (T = T'))) H) : rNeD K (.ref t) (.ref t') H Q :=
  ⟨_, _, dp_tabT h, dp_tabT h', tabD_shaped T, tabD_shaped T', by
    rw [show PyData.eqv (tabD T) (tabD T') = decide (T = T') from by
      unfold tabD
      simp only [PyData.eqv, tab71_eqv]]
    exact q⟩
section
variable {P : Program} {w : World} {K : PySem.W.Frag} {mg : Str → Option Value} {base : Heap} {C R O CL : Addr}
end
end
section
open PySem PySem.Spec L2
theorem tabs_pen75 {Ts : List (Addr × Str)} {g : Pen} {H H' : Hp} {n : Nat} (t : LamX.Tabs Ts H) (p : PenAt g H n) (k : Keep g.p H H') : LamX.Tabs Ts H' := by
  obtain ⟨a, b, hp, _⟩ := p.ex
  exact tabs_keep t k hp (fun _ z => nomatch z) (fun _ _ => codeO_dK)
/-- what stands in a turn once the floors are made -/
structure B75 (C CL : Addr) (g : Pen) (Ts : List (Addr × Str)) (n : Nat) (q : Addr) (ks : List Nat) (gs : List (List Nat)) (x y fo : Addr) (n2 : Nat) (F : List Nat) (rd : Addr) (rw : Nat → List Nat) (c1 : Addr) (T1 : List (List Nat)) (m1 : Nat) (c2 : Addr) (T2 : List (List Nat)) (m2 : Nat) (H : Hp) : Prop where
  pen : PenAt g H n
  tabs : LamX.Tabs Ts H
  sc : SceneAt C H q ks gs x y
  pl : PairsL n2 H fo F
  rows : DicT H rd ks rw
  f1 : FlAt C CL H c1 x ks (prsOf gs) T1 m1
  f2 : FlAt C CL H c2 x ks (prsOf gs) T2 m2
theorem B75.same {C CL : Addr} {g : Pen} {Ts : List (Addr × Str)} {n : Nat} {q : Addr} {ks : List Nat} {gs : List (List Nat)} {x y fo : Addr} {n2 : Nat} {F : List Nat} {rd : Addr} {rw : Nat → List Nat} {c1 : Addr} {T1 : List (List Nat)} {m1 : Nat} {c2 : Addr} {T2 : List (List Nat)} {m2 : Nat} {H H' : Hp}
    (h : B75 C CL g Ts n q ks gs x y fo n2 F rd rw c1 T1 m1 c2 T2 m2 H) (s : Same H H') : B75 C CL g Ts n q ks gs x y fo n2 F rd rw c1 T1 m1 c2 T2 m2 H' :=
  ⟨h.pen.same s, tabs_same h.tabs s, h.sc.same s, h.pl.same s, h.rows.same s, h.f1.same s, h.f2.same s⟩
theorem v_eqVecs75 {K : PySem.W.Frag} {H : Hp} {Q : VK} {D D' : Addr} {ls : List Nat} {us vs : List (Nat → Int)} (h : VecsAt H D ls us) (h' : VecsAt H D' ls vs) (k : ∀ b, Q (.bl b) H) : rEqD K (.ref D) (.ref D') H Q := by
  obtain ⟨As, e, pr⟩ := h.ex
  obtain ⟨Bs, e', pr'⟩ := h'.ex
  exact ⟨.list (us.map (vecD ls)), .list (vs.map (vecD ls)), .lst (SqL.of e) (dp_vecs pr), .lst (SqL.of e') (dp_vecs pr'), shaped_vecs ls us, shaped_vecs ls vs, k _⟩
theorem leF_nil75 {T U : List (List Nat)} : leF [] T U := fun u v hu hv _ => by
  have e : ∀ {w : List Nat}, Wd [] w → w = [] := fun {w} h => by
    cases w with
    | nil => rfl
    | cons a r => exact nomatch h a (List.mem_cons_self ..)
  rw [e hu, e hv]
  rfl
theorem e_many75 {K : PySem.W.Frag} {te : TE} {σ : L2.St} {H : Hp} {Q : VK} (q : te σ H fun v H1 => ∃ (p : Addr) (ns : List Int), v = .ref p ∧ SqL K H1 p (ns.map V.int) ∧ ns.length ≤ 1000 ∧ Q (.int ((many75 ns : Nat) : Int)) H1) : tMany75 K te σ H Q := q
theorem walk_pairs75 {K : PySem.W.Frag} {t : Addr} {E : List (Nat × Addr)} {n : Nat} (l : E.length = n) : Walk (Itl K t) n (fun H => SqL K H t (refV E)) (fun k H x H' => H' = H ∧ x = V.ref (E.getD k (0, 0)).2) := by
  have w := walk_refE (K := K) (t := t) (E := E)
  rw [l] at w
  refine w.mono (fun _ z => z) fun i H x H' hi _ y => ⟨y.1, ?_⟩
  obtain ⟨e, he, hx⟩ := y.2
  rw [hx, List.getD_eq_getElem?_getD, he]
  rfl
theorem range_many75 (l : List Nat) (g : Nat → Nat) : (((List.range l.length).filter fun _ => true).map fun k => V.int ((g (l.getD k 0) : Nat) : Int)) = (l.map fun z => ((g z : Nat) : Int)).map V.int := by
  rw [range_num]
  unfold numV
  rw [List.map_map, List.map_map]
  rfl
def spLaw75 (K : PySem.W.Frag) (Ts : List (Addr × Str)) : Sp := fun vs H Q _ => ∃ (a : Addr) (ns : List Int), vs = [.ref a] ∧ SqL K H a (ns.map V.int) ∧ ns.length ≤ 63 ∧ LamX.Tabs Ts H ∧ ∀ H', Q (.bl true) H'
section
variable {P : Program} {w : World} {K : PySem.W.Frag} {mg : Str → Option Value} {base : Heap} {C R O CL e0 : Addr} {Ts : List (Addr × Str)}
abbrev stlaw : Stmt := (top 53)
abbrev Nlaw : List Str := ["_law_script", "_law_pen", "_law_turn", "_law_scene_here", "_law_many", "_law_one", "_law_other", "_law_pairs_here", "_law_rows", "_law_floor", "_law_second", "_law_within", "_law_pair"]
theorem sclaw : FnScope Nlaw ["_law_script"] (defScope stlaw) := ⟨rfl, rfl, rfl, by decide +kernel, rfl, by decide +kernel, by decide +kernel⟩

theorem ok_law75 {f : Addr} {fd : FuncData} (F : Fun K "law" "law" stlaw f fd) (T : Txt75 K mg C R O CL) (kt : ∀ H : Hp, SeqO K H e0 [])
    (D_begin : Def P w K mg base CX0 1 "_law_begin" ["_law_script"] (spPen K)) (D_draw : Def P w K mg base CX0 1 "_law_draw" ["_law_pen", "_law_span"] spDraw) (D_pick : Def P w K mg base CX0 2 "_law_pick" ["_law_pen", "_law_some"] spPick2) (D_scene : Def P w K mg base CX0 5 "_law_scene" ["_law_pen", "_law_least", "_law_most"] (spScene C)) (D_doors : Def P w K mg base CX0 3 "_law_doors" ["_law_pen", "_law_scene_here", "_law_many"] (spDoors71 C)) (D_lists : Def P w K mg base CX0 1 "_law_lists" ["_law_scene_here", "_law_tables"] (spLists71 C)) (D_numbered : Def P w K mg base CX0 1 "_law_numbered" ["_law_scene_here", "_law_tables", "_law_first"] (spNumL71 C))
    (D_pairs : Def P w K mg base CX0 1 "_law_pairs" ["_law_scene_here", "_law_one", "_law_other"] (spPairs75 C)) (D_together : Def P w K mg base CX0 2 "_law_together" ["_law_scene_here", "_law_pairs_here", "_law_rows"] (spTog75 C)) (D_over : Def P w K mg base CX0 1 "_law_over" ["_law_scene_here"] (spOver75 C)) (D_other_plan : Def P w K mg base CX0 9 "_law_other_plan" ["_law_floor", "_law_other"] (spOthP75 C CL Ts))
    (C_Plan_1 : CDefN P w K mg base CX0 3 "Plan" C (spPlan K C) 1 [] [.pos 0, .dfl 0] [.ref e0]) (C_Closed : CDef P w K mg base CX0 4 "Closed" CL (spClosed K C CL)) (M_Closed_eq : MDef P w K mg base CX0 3 CL "__eq__" ["self", "other"] (spClEq C CL)) (M_Closed_le : MDef P w K mg base CX0 4 CL "__le__" ["self", "other"] (spLe77 C CL)) (M_Closed_and : MDef P w K mg base CX0 7 CL "__and__" ["self", "other"] (spAnd77 C CL)) (M_Closed_or : MDef P w K mg base CX0 7 CL "__or__" ["self", "other"] (spOr77 C CL)) : FnOk P w K mg base CX0 10 f fd ["_law_script"] (spLaw75 K Ts) := by
  refine F.ok sclaw (fun vs H Q E h => ?_) (fun cdv A outer s H vs Q E hr h => ?_)
  · obtain ⟨a, ns, rfl, _⟩ := h
    rfl
  obtain ⟨sc, ns, rfl, hsc, hn, t0, k⟩ := h
  have hu := hu_of hr
  have nd := sclaw.nd
  replace D_begin := D_begin.mono (show 1 ≤ 9 by decide)
  replace D_draw := D_draw.mono (show 1 ≤ 9 by decide)
  replace D_pick := D_pick.mono (show 2 ≤ 9 by decide)
  replace D_scene := D_scene.mono (show 5 ≤ 9 by decide)
  replace D_doors := D_doors.mono (show 3 ≤ 9 by decide)
  replace D_lists := D_lists.mono (show 1 ≤ 9 by decide)
  replace D_numbered := D_numbered.mono (show 1 ≤ 9 by decide)
  replace D_pairs := D_pairs.mono (show 1 ≤ 9 by decide)
  replace D_together := D_together.mono (show 2 ≤ 9 by decide)
  replace D_over := D_over.mono (show 1 ≤ 9 by decide)
  replace C_Plan_1 := C_Plan_1.mono (show 3 ≤ 8 by decide)
  replace C_Closed := C_Closed.mono (show 4 ≤ 8 by decide)
  replace M_Closed_eq := M_Closed_eq.mono (show 3 ≤ 9 by decide)
  replace M_Closed_le := M_Closed_le.mono (show 4 ≤ 9 by decide)
  replace M_Closed_and := M_Closed_and.mono (show 7 ≤ 9 by decide)
  replace M_Closed_or := M_Closed_or.mono (show 7 ≤ 9 by decide)
  refine ⟨_, (pss_cons (ps_set (i := 1) nd rfl (Or.inl rfl) (pe_cd D_begin hr pass0 (pa_cons (pv 0) pa_nil)))
      (pss_cons (ps_for PassesOwn.never rfl (pi_range1 (by rfl) T.range (pa_cons (pe_op op_add pe_int (pe_callB (call_min2 rfl) (by rfl) T.min (by decide +kernel) (pa_cons pe_int (pa_cons (pe_callB (c_lenK (K := K) rfl) (by rfl) T.len PySem.boot_len (pa_cons (pv 0) pa_nil)) pa_nil)))) pa_nil)) (pg_name (i := 2) nd rfl (Or.inl rfl))
      (pss_cons (ps_set (i := 3) nd rfl (Or.inl rfl) (pe_cd D_scene hr pass0 (pa_cons (pv 1) (pa_cons pe_int (pa_cons pe_int pa_nil)))))
        (pss_cons (ps_set (i := 4) nd rfl (Or.inl rfl) (pe_cut (pe_ifExp (pt_cmpR op_ne (pe_dget hu (pv 3) pe_str (fun _ _ => rfl)) (pe_tx [] (by decide +kernel)) (nomark _)) pe_int pe_int)))
        (pss_cons (ps_par (i := 5) (j := 6) (by rfl) nd rfl rfl (by decide) rfl rfl (pa_cons (pe_cd D_doors hr pass0 (pa_cons (pv 1) (pa_cons (pv 3) (pa_cons (pe_op op_add pe_int (pe_cd D_draw hr pass0 (pa_cons (pv 1) (pa_cons (pv 4) pa_nil)))) pa_nil)))) (pa_cons (pe_cd D_doors hr pass0 (pa_cons (pv 1) (pa_cons (pv 3) (pa_cons (pe_op op_add pe_int (pe_cd D_draw hr pass0 (pa_cons (pv 1) (pa_cons (pv 4) pa_nil)))) pa_nil)))) pa_nil)) (by rfl))
        (pss_cutS (ps_if (pt_cmpR op_eq (pe_cd D_draw hr pass0 (pa_cons (pv 1) (pa_cons pe_int pa_nil))) pe_int (nomark _))
        (pss_one (ps_set (i := 6) nd rfl (Or.inl rfl) (pe_cd D_pick hr pass0 (pa_cons (pv 1) (pa_cons (pe_lst (pa_cons (pv 5) (pa_cons (pe_cd D_over hr pass0 (pa_cons (pv 3) pa_nil)) pa_nil))) pa_nil)))))
        pss_nil)
        (pss_cons (ps_asg (pe_cd D_pairs hr pass0 (pa_cons (pv 3) (pa_cons (pv 5) (pa_cons (pv 6) pa_nil)))) (pg_tup rfl (pgs_cons (pg_name (i := 7) nd rfl (Or.inl rfl)) (pgs_cons (pg_name (i := 8) nd rfl (Or.inl rfl)) pgs_nil))))
        (pss_cons (ps_set (i := 9) nd rfl (Or.inl rfl) (pe_mk C_Closed hr pass0 (pa_cons (pe_dget hu (pv 3) pe_str (fun _ _ => rfl)) (pa_cons (pe_cd D_lists hr pass0 (pa_cons (pv 3) (pa_cons (pv 5) pa_nil))) pa_nil))))
        (pss_cons (ps_set (i := 10) nd rfl (Or.inl rfl) (pe_mk C_Closed hr pass0 (pa_cons (pe_dget hu (pv 3) pe_str (fun _ _ => rfl)) (pa_cons (pe_cd D_lists hr pass0 (pa_cons (pv 3) (pa_cons (pv 6) pa_nil))) pa_nil))))
        (pss_cons (ps_if (pt_cut (PW.pt (pw_and (pt_cmpR (op_eqDK (K := K) rfl hr.units) (pv 7) (pe_lst (pa_cons (pe_tup (pa_cons pe_int (pa_cons pe_int pa_nil))) pa_nil)) (nomark _)) (pw_and1 (pt_cmpR op_eq (pe_dget hu (pv 3) pe_str (fun _ _ => rfl)) (pe_tx [] (by decide +kernel)) (nomark _))))))
        (pss_cons (ps_if (pt_cut (PW.pt (pw_or (pt_not (pt_cmpR (op_cmpM (op := .Eq) (fun _ _ => rfl) M_Closed_eq hr pass0) (pe_op (op_andM2 M_Closed_and T.Closed_sf hr pass0) (pv 9) (pv 10)) (pv 9) (nomark _))) (pw_or (pt_not (pt_cmpR (op_cmpM (op := .Eq) (fun _ _ => rfl) M_Closed_eq hr pass0) (pe_op (op_orM2 M_Closed_or T.Closed_sf hr pass0) (pv 9) (pv 10)) (pv 9) (nomark _))) (pw_or1 (pt_not (pt_cmpR (op_cmpM (op := .LtE) (fun _ _ => rfl) M_Closed_le hr pass0) (pv 9) (pv 10) (nomark _))))))))
          (pss_one (ps_ret pe_bl))
          pss_nil)
          (pss_one ps_continue))
        pss_nil)
        (pss_cons (ps_if (pt_cmpR (op_neDK (K := K) rfl hr.units) (pe_flK (K := K) rfl (pe_op (op_andM2 M_Closed_and T.Closed_sf hr pass0) (pv 9) (pv 10)) rfl) (pe_ix (ix_TK (K := K) rfl) (pe_cd D_numbered hr pass0 (pa_cons (pv 3) (pa_cons (pv 8) (pa_cons pe_int pa_nil)))) pe_int (fun _ _ => rfl)) (nomark _))
        (pss_one (ps_ret pe_bl))
        pss_nil)
        (pss_cons (ps_if (pt_cmpR (op_neDK (K := K) rfl hr.units) (pe_flK (K := K) rfl (pe_op (op_orM2 M_Closed_or T.Closed_sf hr pass0) (pv 9) (pv 10)) rfl) (pe_cd D_together hr pass0 (pa_cons (pv 3) (pa_cons (pv 7) (pa_cons (pv 8) pa_nil)))) (nomark _))
        (pss_one (ps_ret pe_bl))
        pss_nil)
        (pss_cons (ps_set (i := 11) nd rfl (Or.inl rfl) (pe_cmpR op_eq (pe_many75 (K := K) rfl (by rfl) T.len (by rfl) T.set (pe_lc (own := [("_law_pair", 12)]) (g := gName 12) (by rfl) nd (pi_listK (K := K) rfl (pv 7)) (blkOk_by (own := [("_law_pair", 12)]) (N := Nlaw) (sc := defScope stlaw) (by decide +kernel)) (fun _ _ _ _ _ => (pg_name (i := 12) nd rfl (Or.inl rfl))) (fun _ _ _ _ _ => pts_nil) (fun _ _ _ _ _ => (pe_ix (ix_TK (K := K) rfl) (pv 12) pe_int (fun _ _ => rfl))))) (pe_callB (c_lenK (K := K) rfl) (by rfl) T.len PySem.boot_len (pa_cons (pv 7) pa_nil)) (nomark _)))
        (pss_cons (ps_if (pt_cmpR op_ne (pe_cmpR (op_cmpM (op := .LtE) (fun _ _ => rfl) M_Closed_le hr pass0) (pv 9) (pv 10) (nomark _)) (pv 11) (nomark _))
        (pss_one (ps_ret pe_bl))
        pss_nil)
        (pss_cons (ps_if (pt_cmpR op_ne (pe_cmpR (op_cmpM (op := .LtE) (fun _ _ => rfl) M_Closed_le hr pass0) (pv 10) (pv 9) (nomark _)) (pe_cmpR op_eq (pe_many75 (K := K) rfl (by rfl) T.len (by rfl) T.set (pe_lc (own := [("_law_pair", 12)]) (g := gName 12) (by rfl) nd (pi_listK (K := K) rfl (pv 7)) (blkOk_by (own := [("_law_pair", 12)]) (N := Nlaw) (sc := defScope stlaw) (by decide +kernel)) (fun _ _ _ _ _ => (pg_name (i := 12) nd rfl (Or.inl rfl))) (fun _ _ _ _ _ => pts_nil) (fun _ _ _ _ _ => (pe_ix (ix_TK (K := K) rfl) (pv 12) pe_int (fun _ _ => rfl))))) (pe_callB (c_lenK (K := K) rfl) (by rfl) T.len PySem.boot_len (pa_cons (pv 7) pa_nil)) (nomark _)) (nomark _))
        (pss_one (ps_ret pe_bl))
        pss_nil)
        (pss_one (ps_if (pt_cut (PW.pt (pw_and (pt_not (pt_val (pe_cd D_other_plan hr pass0 (pa_cons (pv 9) (pa_cons (pe_mk C_Closed hr pass0 (pa_cons (pe_mkN C_Plan_1 hr pass0 (pa_cons (pe_tx [120, 121, 122] (by decide +kernel)) pa_nil) pk_nil) (pa_cons (pe_lst (pa_cons (pe_lst (pa_cons pe_int pa_nil)) (pa_cons (pe_lst (pa_cons pe_int pa_nil)) (pa_cons (pe_lst (pa_cons pe_int pa_nil)) pa_nil)))) pa_nil))) pa_nil))))) (pw_and1 (pt_cmpR op_ne (pe_dget hu (pv 3) pe_str (fun _ _ => rfl)) (pe_tx [120, 121, 122] (by decide +kernel)) (nomark _))))))
        (pss_one (ps_ret pe_bl))
        pss_nil))))))))))))))))
      (pss_one (ps_ret pe_bl)))), ?_⟩
  refine s_start [some _, none, none, none, none, none, none, none, none, none, none, none, none] rfl ?_
  walk_at "go2"
  refine ⟨sc, ns, rfl, hsc, hn, fun g H1 p1 s1 hg1 => ?_⟩
  walk_at "go2"
  refine ⟨sc, _, rfl, .inl (sqL_same hsc s1), ?_⟩
  rw [List.length_map]
  walk_at "go2"
  refine ⟨_, _, rfl, ?_⟩
  obtain ⟨laps, hl6, elaps⟩ : ∃ laps : Nat, laps ≤ 6 ∧ (2 : Int) + (if ((ns.length : Nat) : Int) < 4 then ((ns.length : Nat) : Int) else 4) = (laps : Int) := by
    by_cases c : ns.length < 4
    · exact ⟨2 + ns.length, by omega, by rw [if_pos (by omega)]; omega⟩
    · exact ⟨6, by decide, by rw [if_neg (by omega)]; rfl⟩
  walk_at "go2"
  rw [elaps, Int.toNat_natCast]
  refine for_it (walk_rI (fun i => ((i : Nat) : Int)) (fun k => Int.zero_add _)) (fun i σ H' => ∃ y2 y3 y4 y5 y6 y7 y8 y9 y10 y11, σ = [some (.ref sc), some (.ref g.p), y2, y3, y4, y5, y6, y7, y8, y9, y10, y11, none] ∧ PenAt g H' (1000 * i) ∧ LamX.Tabs Ts H') ⟨_, _, _, _, _, _, _, _, _, _, rfl, p1, tabs_same t0 s1⟩ (fun _ _ _ _ _ => trivial) ?_ ?_
  · rintro i v σ H2 H3 hi ⟨y2, y3, y4, y5, y6, y7, y8, y9, y10, y11, rfl, p3, t3⟩ ⟨rfl, rfl⟩
    have hi : i < laps := hi
    clear p1 s1 hg1 hsc t0
    walk_at "go2"
    refine ⟨g, _, 0, 4, rfl, p3, by omega, by decide, by decide, fun q ks gs x y H4 hq sc4 ok h0 k4 p4 kp4 => ?_⟩
    have t4 := tabs_pen75 t3 p3 kp4
    clear p3 kp4 hq h0 t3
    have psk := ScOk.small gs
    obtain ⟨l0, a1, a2⟩ := sc4.ex
    walk_at "go2"
    refine e_cut (fun v H' => (∃ mm : Nat, v = .int ((mm : Nat) : Int) ∧ 1 ≤ mm ∧ mm ≤ 6) ∧ H' = H4) ?_ ?_
    · walk_at "go2"
      refine v_dget (sc_kinds a1) ?_
      walk_at "go2"
      refine if_ndec (fun _ => ?_) (fun _ => ?_)
      · walk_at "go2"
        exact ⟨⟨6, rfl, by decide, by decide⟩, rfl⟩
      · walk_at "go2"
        exact ⟨⟨1, rfl, by decide, by decide⟩, rfl⟩
    rintro v H5 ⟨⟨mm, rfl, mm1, mm6⟩, rfl⟩
    have kl := ok.len
    walk_at "go2"
    refine ⟨g, _, _, rfl, by omega, by omega, p4, by omega, fun z H5 z0 z1 p5 k5 => ?_⟩
    obtain ⟨b1, rfl⟩ : ∃ b1 : Nat, z = (b1 : Int) := ⟨z.toNat, by omega⟩
    have sc5 := sc4.pen p4 k5
    have t5 := tabs_pen75 t4 p4 k5
    obtain ⟨n1, hn1⟩ : ∃ n1, n1 = 1 + b1 := ⟨_, rfl⟩
    walk_at "go2"
    rw [show (1 : Int) + (b1 : Int) = ((n1 : Nat) : Int) by omega]
    refine ⟨g, _, q, x, y, ks, gs, n1, rfl, p5, by omega, sc5, ok, by omega, by omega, fun e1 r1 H6 he1 dt1 ro1 p6 k6 => ?_⟩
    have sc6 := sc5.pen p5 k6
    have t6 := tabs_pen75 t5 p5 k6
    walk_at "go2"
    refine ⟨g, _, _, rfl, by omega, by omega, p6, by omega, fun z H7 w0 w1 p7 k7 => ?_⟩
    obtain ⟨b2, rfl⟩ : ∃ b2 : Nat, z = (b2 : Int) := ⟨z.toNat, by omega⟩
    have sc7 := sc6.pen p6 k7
    have t7 := tabs_pen75 t6 p6 k7
    have dt7 : DicT H7 e1 ks r1 := dt1.pen p6 k7
    obtain ⟨n2, hn2⟩ : ∃ n2, n2 = 1 + b2 := ⟨_, rfl⟩
    walk_at "go2"
    rw [show (1 : Int) + (b2 : Int) = ((n2 : Nat) : Int) by omega]
    refine ⟨g, _, q, x, y, ks, gs, n2, rfl, p7, by omega, sc7, ok, by omega, by omega, fun e2 r2 H8 he2 dt2 ro2 p8 k8 => ?_⟩
    have sc8 := sc7.pen p7 k8
    have t8 := tabs_pen75 t7 p7 k8
    have dt8 : DicT H8 e1 ks r1 := dt7.pen p7 k8
    have g1 := ro1.good ok (by omega) (by omega)
    have g2 := ro2.good ok (by omega) (by omega)
    have n16 : n1 ≤ 6 := by omega
    have n26 : n2 ≤ 6 := by omega
    clear k5 k6 k7 k8 p4 p5 p6 p7 sc4 sc5 sc6 sc7 t4 t5 t6 t7 dt1 dt7 a1 a2 he1 he2 ro1 ro2 z0 z1 w0 w1
    walk_at "go2"
    refine s_cut (fun σ H' => ∃ e2 r2 n2, σ = [some (.ref sc), some (.ref g.p), some (.int ((i : Nat) : Int)), some (.ref q), some (.int ((mm : Nat) : Int)), some (.ref e1), some (.ref e2), y7, y8, y9, y10, y11, none] ∧ PenAt g H' (1000 * i + 800) ∧ LamX.Tabs Ts H' ∧ SceneAt C H' q ks gs x y ∧ DicT H' e1 ks r1 ∧ DicT H' e2 ks r2 ∧ Good n2 ks (prsOf gs) (ks.map r2) ∧ n2 ≤ 6) ?_ ?_
    · walk_at "go2"
      refine ⟨g, 4, _, rfl, by omega, by omega, p8, by omega, fun z H9 w0 w1 p9 k9 => ?_⟩
      have sc9 := sc8.pen p8 k9
      have t9 := tabs_pen75 t8 p8 k9
      have dt9 := dt8.pen p8 k9
      have du9 := dt2.pen p8 k9
      walk_at "go2"
      refine if_dec (fun _ => ?_) (fun _ => ?_)
      · walk_at "go2"
        refine ⟨q, x, y, ks, gs, rfl, sc9, ok.nd, ok.len, fun d H10 hd s10 dtd => ?_⟩
        walk_at "go2"
        intro L H11 hL s11 eL
        have s911 := s10.trans s11
        have p11 := p9.same s911
        walk_at "go2"
        refine ⟨g, _, .ref L, _, rfl, .inl ⟨L, rfl, eL⟩, by simp, by simp, p11, by omega, fun u H12 hu p12 k12 => ?_⟩
        have t12 := tabs_pen75 (tabs_same t9 s911) p11 k12
        have sc12 := (sc9.same s911).pen p11 k12
        have dt12 := (dt9.same s911).pen p11 k12
        have gone : RowsOk 1 (crB gs) ks (fun _ => [0]) := by
          refine ⟨fun c hc => ⟨rfl, fun z hz => by rw [List.mem_singleton.mp hz]; decide⟩, fun c hc z hz => ?_, fun c hc c' hc' _ z hz => rfl⟩
          obtain rfl : z = 0 := by omega
          rfl
        walk_at "go2"
        have hu2 : u = .ref e1 ∨ u = .ref d := by simpa using hu
        rcases hu2 with rfl | rfl
        · exact ⟨e1, r1, n1, rfl, p12.mono (by omega), t12, sc12, dt12, dt12, g1, n16⟩
        · exact ⟨d, fun _ => [0], 1, rfl, p12.mono (by omega), t12, sc12, dt12, (dtd.same s11).pen p11 k12, gone.good ok (by decide) (by decide), by decide⟩
      · walk_at "go2"
        exact ⟨e2, r2, n2, rfl, p9.mono (by omega), t9, sc9, dt9, du9, g2, n26⟩
    clear dt2 g2 n26 p8 sc8 t8 dt8 hn1 hn2 e2 r2 n2 b2
    rintro σ H9 ⟨e2, r2, n2, rfl, p9, t9, sc9, dt9, du9, g2, n26⟩
    have hN : n1 * n2 ≤ 1000 := Nat.le_trans (Nat.mul_le_mul n16 n26) (by decide)
    walk_at "go2"
    refine ⟨q, e1, e2, x, y, ks, gs, ks, ks, r1, r2, n1, n2, rfl, sc9, dt9, du9, (fun c hc => ⟨hc, hc⟩), g1.ok, g2.ok, ok.nd, ok.len, g1.n0, g2.n0, hN, fun tt fo rd H10 htt hfo hrd s10 ett pls dtr => ?_⟩
    walk_at "go2"
    refine v_gTup2 rfl ett ?_
    have sc10 := sc9.same s10
    obtain ⟨l0, a1, a2⟩ := sc10.ex
    walk_at "go2"
    refine v_dget (sc_plan a1) ?_
    walk_at "go2"
    refine ⟨q, e1, x, y, ks, gs, ks, r1, rfl, sc10, dt9.same s10, fun _ h => h, ok.len, fun gv E1 H11 hgv s11 eE egv eEl => ?_⟩
    walk_at "go2"
    refine ⟨x, gv, ks, prsOf gs, ks.map r1, n1, rfl, g1.arg (sc10.px.same s11) ⟨E1, eE, .inl egv, fun e he => .inl (eEl e he).1⟩, fun c1 H12 hc1 s12 ca1 => ?_⟩
    have s912 := (s10.trans s11).trans s12
    have sc12 := sc9.same s912
    obtain ⟨l0', a1', a2'⟩ := sc12.ex
    walk_at "go2"
    refine v_dget (sc_plan a1') ?_
    walk_at "go2"
    refine ⟨q, e2, x, y, ks, gs, ks, r2, rfl, sc12, du9.same s912, fun _ h => h, ok.len, fun gw E2 H13 hgw s13 eF egw eFl => ?_⟩
    walk_at "go2"
    refine ⟨x, gw, ks, prsOf gs, ks.map r2, n2, rfl, g2.arg (sc12.px.same s13) ⟨E2, eF, .inl egw, fun e he => .inl (eFl e he).1⟩, fun c2 H14 hc2 s14 ca2 => ?_⟩
    have s1214 := s13.trans s14
    have s1014 := (s11.trans s12).trans s1214
    have sc14 := sc12.same s1214
    have hb : B75 C CL g Ts (1000 * i + 800) q ks gs x y fo n2 (bfs (prodT n2 (ks.map r1) (ks.map r2)) (n1 * n2) 0) rd (rowsP75 n2 r1 r2 (bfs (prodT n2 (ks.map r1) (ks.map r2)) (n1 * n2) 0)) c1 (numT (ks.map r1) (bfs (ks.map r1) n1 0)) (bfs (ks.map r1) n1 0).length c2 (numT (ks.map r2) (bfs (ks.map r2) n2 0)) (bfs (ks.map r2) n2 0).length H14 :=
      ⟨p9.same (s912.trans s1214), tabs_same t9 (s912.trans s1214), sc14, pls.same s1014, dtr.same s1014, ⟨ca1.same s1214, sc14.px, canon_of g1⟩, ⟨ca2, sc14.px, canon_of g2⟩⟩
    have l1 := (Cl.of_bfs g1.ok (x := 0) g1.n0).le
    have l2 := (Cl.of_bfs g2.ok (x := 0) g2.n0).le
    clear p9 t9 sc9 dt9 du9 s10 ett pls dtr sc10 a1 a2 hgv s11 eE egv eEl hc1 s12 ca1 s912 sc12 a1' a2' hgw s13 eF egw eFl hc2 s14 ca2 s1214 s1014 sc14 htt hfo hrd
    obtain ⟨F, hF⟩ : ∃ F, bfs (prodT n2 (ks.map r1) (ks.map r2)) (n1 * n2) 0 = F := ⟨_, rfl⟩
    obtain ⟨T1, hT1⟩ : ∃ T1, numT (ks.map r1) (bfs (ks.map r1) n1 0) = T1 := ⟨_, rfl⟩
    obtain ⟨T2, hT2⟩ : ∃ T2, numT (ks.map r2) (bfs (ks.map r2) n2 0) = T2 := ⟨_, rfl⟩
    obtain ⟨m1, hm1⟩ : ∃ m1, (bfs (ks.map r1) n1 0).length = m1 := ⟨_, rfl⟩
    obtain ⟨m2, hm2⟩ : ∃ m2, (bfs (ks.map r2) n2 0).length = m2 := ⟨_, rfl⟩
    rw [hF, hT1, hT2, hm1, hm2] at hb
    rw [hm1] at l1
    rw [hm2] at l2
    have fR := (and_isG ok.nd g1 g2 hN).1
    rw [← rowsP_pair] at fR
    have okR : OkT F.length (ks.map (rowsP75 n2 r1 r2 F)) := by
      have := fR.good.ok
      rw [hF] at this
      rw [← hF] at this ⊢
      exact this
    have F0 : 0 < F.length := by rw [← hF]; exact fR.good.n0
    have F1 : F.length ≤ 1000 := by rw [← hF]; exact fR.good.ln
    clear fR
    walk_at "go2"
    refine t_cut (fun b H' => (b = true → ks = []) ∧ B75 C CL g Ts (1000 * i + 800) q ks gs x y fo n2 F rd (rowsP75 n2 r1 r2 F) c1 T1 m1 c2 T2 m2 H') ?_ ?_
    · walk_at "go2"
      intro u0 H15 hu0 s15 eu0
      walk_at "go2"
      intro L H16 hL s16 eL
      have hb16 := hb.same (s15.trans s16)
      have plz : PairsL n2 H16 L [0] := by
        refine ⟨[(0, u0)], rfl, eL, fun e he => ?_⟩
        rw [List.mem_singleton.mp he]
        show H16 u0 = some (pairO n2 0)
        rw [s16 _ _ eu0]
        unfold pairO
        rw [Nat.zero_div, Nat.zero_mod]
        rfl
      refine v_eqVecs75 (ls := [0, 1]) hb16.pl.vecs75 plz.vecs75 fun b => ?_
      refine ⟨b, rfl, ?_⟩
      cases b with
      | false =>
        walk_at "go2"
        exact ⟨fun z => (nomatch z), hb16⟩
      | true =>
        obtain ⟨l0, a1, a2⟩ := hb16.sc.ex
        walk_at "go2"
        refine v_dget (sc_kinds a1) ?_
        walk_at "go2"
        rw [dec_tx]
        exact ⟨fun z => of_decide_eq_true z, hb16⟩
    clear hb
    rintro b H15 ⟨hbk, hb⟩
    cases b with
    | true =>
      have k0 := hbk rfl
      have le0 : ∀ T U : List (List Nat), leF ks T U := fun T U => by rw [k0]; exact leF_nil75
      walk_at "go2"
      refine t_cut (fun b H' => b = false ∧ B75 C CL g Ts (1000 * i + 800) q ks gs x y fo n2 F rd (rowsP75 n2 r1 r2 F) c1 T1 m1 c2 T2 m2 H') ?_ ?_
      · walk_at "go2"
        refine v_and77 hb.f1 hb.f2 psk ok.nd kl (by omega) (by omega) fun c5 H16 R5 z5 hc5 s16 f5 o5 b5 => ?_
        have hb16 := hb.same s16
        walk_at "go2"
        refine v_eq77 f5 hb16.f1 psk ok.nd fun c6 hc6 => ?_
        obtain rfl : c6 = true := hc6.mpr ⟨le0 _ _, le0 _ _⟩
        walk_at "go2"
        refine v_or77 hb16.f1 hb16.f2 psk ok.nd kl (by omega) (by omega) fun c7 H17 R7 z7 hc7 s17 f7 o7 b7 => ?_
        have hb17 := hb16.same s17
        walk_at "go2"
        refine v_eq77 f7 hb17.f1 psk ok.nd fun c8 hc8 => ?_
        obtain rfl : c8 = true := hc8.mpr ⟨le0 _ _, le0 _ _⟩
        walk_at "go2"
        refine v_le77 hb17.f1 hb17.f2 psk ok.nd kl (mul77 (by omega) (by omega)) fun c9 H18 s18 hc9 => ?_
        obtain rfl : c9 = true := hc9.mpr (le0 _ _)
        walk_at "go2"
        exact ⟨rfl, hb17.same s18⟩
      rintro b H16 ⟨rfl, hb⟩
      walk_at "go2"
      exact ⟨_, _, _, _, _, _, _, _, _, _, rfl, hb.pen.mono (by omega), hb.tabs⟩
    | false =>
      walk_at "go2"
      refine v_and77 hb.f1 hb.f2 psk ok.nd kl (by omega) (by omega) fun c5 H16 R5 z5 hc5 s16 f5 o5 b5 => ?_
      have hb16 := hb.same s16
      obtain ⟨dx, fs, tq, qq, u1, u2, u3, u4, u5, u6⟩ := f5.cl.ex
      walk_at "go2"
      refine v_fld u1 T.Closed.cl T.nQt u3 ?_
      walk_at "go2"
      refine ⟨q, rd, x, y, ks, gs, ks, rowsP75 n2 r1 r2 F, F.length, 0, rfl, hb16.sc, hb16.rows, fun _ h => h, okR, kl, F0, F1, fun t ff u H17 ht hf s17 et ef tu => ?_⟩
      walk_at "go2"
      refine v_ixT et (at_of (j := 1) rfl rfl) ?_
      have eqA := and_law75 ok.nd g1 g2 hN f5.fl (by rw [hT1, hT2]; exact o5)
      rw [hF] at eqA
      refine v_neTab (u5.keep s17) tu ?_
      rw [decide_eq_true eqA]
      have hb17 := hb16.same s17
      clear hb hb16 u1 u2 u3 u4 u5 u6 s16 s17 et ef tu f5 hc5 ht hf
      walk_at "go2"
      refine v_or77 hb17.f1 hb17.f2 psk ok.nd kl (by omega) (by omega) fun c7 H18 R7 z7 hc7 s18 f7 o7 b7 => ?_
      have hb18 := hb17.same s18
      obtain ⟨dx, fs, tq, qq, u1, u2, u3, u4, u5, u6⟩ := f7.cl.ex
      walk_at "go2"
      refine v_fld u1 T.Closed.cl T.nQt u3 ?_
      walk_at "go2"
      refine ⟨q, fo, rd, x, y, ks, gs, n2, F, rowsP75 n2 r1 r2 F, rfl, hb18.sc, ok.nd, kl, hb18.pl, hb18.rows, (fun c hc => ⟨List.length_map _, fun z hz => (okR _ (List.mem_map.mpr ⟨c, hc, rfl⟩)).2 z hz⟩), F0, F1, fun u H19 mk s19 low tu => ?_⟩
      have eqO : R7 = numT (ks.map fun c => (rowsP75 n2 r1 r2 F c).map fun p => mk.getD p 0) (bfs (ks.map fun c => (rowsP75 n2 r1 r2 F c).map fun p => mk.getD p 0) F.length 0) := or_law75 ok.nd g1 g2 hN f7.fl hF low (by rw [hT1, hT2]; exact o7)
      refine v_neTab (u5.keep s19) tu ?_
      rw [decide_eq_true eqO]
      have hb19 := hb18.same s19
      clear hb17 hb18 u1 u2 u3 u4 u5 u6 s18 s19 tu f7 hc7 low
      obtain ⟨le1, le2⟩ := le_law75 ok.nd g1 g2 hN
      rw [hF, hT1, hT2] at le1 le2
      obtain ⟨Ea, w1, w2, w3⟩ := hb19.pl.ex
      have lE : Ea.length = F.length := by rw [← w1, List.length_map]
      have gE : ∀ j, j < F.length → H19 (Ea.getD j (0, 0)).2 = some (pairO n2 (F.getD j 0)) := fun j hj => by
        have hj2 : j < Ea.length := by omega
        have e1 : Ea.getD j (0, 0) = Ea[j] := by rw [List.getD_eq_getElem?_getD, List.getElem?_eq_getElem hj2]; rfl
        have e2 : F.getD j 0 = (Ea[j]).1 := by rw [List.getD_eq_getElem?_getD, ← w1, List.getElem?_map, List.getElem?_eq_getElem hj2]; rfl
        rw [e1, e2]
        exact w3 _ (List.getElem_mem hj2)
      walk_at "go2"
      refine e_many75 ?_
      walk_at "go2"
      refine lc_gen (n := F.length) (b := fun _ => true) (it := fun j => V.ref (Ea.getD j (0, 0)).2) (f := fun j => .int ((F.getD j 0 / n2 : Nat) : Int)) (walk_pairs75 (K := K) (t := fo) lE) (fun H' s' => SqL.of (s' _ _ w2)) (by omega) (fun j hj Ha sa R rr => ?_) (fun j hj _ Ha sa R rr => ?_) (fun D1 H20 hD sD eD => ?_)
      · walk_at "go2"
        exact rr _ (Same.refl _)
      · walk_at "go2"
        refine v_ixT (sa _ _ (gE j hj)) (at_of (j := 0) rfl rfl) ?_
        exact rr _ (Same.refl _)
      rw [range_many75 F fun z => z / n2] at eD
      walk_at "go2"
      refine ⟨D1, F.map (fun z => ((z / n2 : Nat) : Int)), rfl, SqL.of eD, by rw [List.length_map]; exact F1, ?_⟩
      have hb20 := hb19.same sD
      obtain ⟨Eb, x1, x2, x3⟩ := hb20.pl.ex
      have lEb : (refV Eb).length = F.length := by unfold refV; rw [List.length_map, ← x1, List.length_map]
      walk_at "go2"
      rw [lEb]
      walk_at "go2"
      refine v_le77 hb20.f1 hb20.f2 psk ok.nd kl (mul77 (by omega) (by omega)) fun c9 H21 s21 hc9 => ?_
      have hb21 := hb20.same s21
      have e9 : decide (V.int ((many75 (F.map fun z => ((z / n2 : Nat) : Int)) : Nat) : Int) = V.int ((F.length : Nat) : Int)) = c9 := by
        rw [Bool.eq_iff_iff, hc9, decide_eq_true_iff, ← le1, ← many_map75]
        exact ⟨fun z => Int.ofNat.inj (V.int.inj z), fun z => by rw [z]⟩
      rw [e9]
      clear hb19 hb20 sD eD w1 w2 w3 x1 x2 x3 gE lEb s21 e9 lE hD
      walk_at "go2"
      try (refine if_nI rfl ?_; walk_at "go2")
      refine v_le77 hb21.f2 hb21.f1 psk ok.nd kl (mul77 (by omega) (by omega)) fun c10 H22 s22 hc10 => ?_
      have hb22 := hb21.same s22
      obtain ⟨Eb, w1, w2, w3⟩ := hb22.pl.ex
      have lE : Eb.length = F.length := by rw [← w1, List.length_map]
      have gE : ∀ j, j < F.length → H22 (Eb.getD j (0, 0)).2 = some (pairO n2 (F.getD j 0)) := fun j hj => by
        have hj2 : j < Eb.length := by omega
        have e1 : Eb.getD j (0, 0) = Eb[j] := by rw [List.getD_eq_getElem?_getD, List.getElem?_eq_getElem hj2]; rfl
        have e2 : F.getD j 0 = (Eb[j]).1 := by rw [List.getD_eq_getElem?_getD, ← w1, List.getElem?_map, List.getElem?_eq_getElem hj2]; rfl
        rw [e1, e2]
        exact w3 _ (List.getElem_mem hj2)
      walk_at "go2"
      refine e_many75 ?_
      walk_at "go2"
      refine lc_gen (n := F.length) (b := fun _ => true) (it := fun j => V.ref (Eb.getD j (0, 0)).2) (f := fun j => .int ((F.getD j 0 % n2 : Nat) : Int)) (walk_pairs75 (K := K) (t := fo) lE) (fun H' s' => SqL.of (s' _ _ w2)) (by omega) (fun j hj Ha sa R rr => ?_) (fun j hj _ Ha sa R rr => ?_) (fun D2 H23 hD sD eD => ?_)
      · walk_at "go2"
        exact rr _ (Same.refl _)
      · walk_at "go2"
        refine v_ixT (sa _ _ (gE j hj)) (at_of (j := 1) rfl rfl) ?_
        exact rr _ (Same.refl _)
      rw [range_many75 F fun z => z % n2] at eD
      walk_at "go2"
      refine ⟨D2, F.map (fun z => ((z % n2 : Nat) : Int)), rfl, SqL.of eD, by rw [List.length_map]; exact F1, ?_⟩
      have hb23 := hb22.same sD
      obtain ⟨Ec, x1, x2, x3⟩ := hb23.pl.ex
      have lEc : (refV Ec).length = F.length := by unfold refV; rw [List.length_map, ← x1, List.length_map]
      walk_at "go2"
      rw [lEc]
      have e10 : decide (V.int ((many75 (F.map fun z => ((z % n2 : Nat) : Int)) : Nat) : Int) = V.int ((F.length : Nat) : Int)) = c10 := by
        rw [Bool.eq_iff_iff, hc10, decide_eq_true_iff, ← le2, ← many_map75]
        exact ⟨fun z => Int.ofNat.inj (V.int.inj z), fun z => by rw [z]⟩
      walk_at "go2"
      rw [e10]
      clear hb21 hb22 sD eD w1 w2 w3 x1 x2 x3 gE lEc s22 e10 lE hD
      walk_at "go2"
      try (refine if_nI rfl ?_; walk_at "go2")
      refine t_cut (fun b H' => b = false ∧ PenAt g H' (1000 * i + 800) ∧ LamX.Tabs Ts H') ?_ ?_
      · walk_at "go2"
        refine ⟨[120, 121, 122], e0, [], rfl, ⟨kt _, by decide, (fun z hz => nomatch hz), by decide, by decide, by decide⟩, fun x2 H24 hx2 s24 px2 _ => ?_⟩
        rw [show kindsOf [120, 121, 122] = [120, 121, 122] from by decide +kernel, show prsOf [] = [] from by decide +kernel] at px2
        walk_at "go2"
        intro q1 H25 hq1 s25 eq1
        walk_at "go2"
        intro q2 H26 hq2 s26 eq2
        walk_at "go2"
        intro q3 H27 hq3 s27 eq3
        walk_at "go2"
        intro L H28 hL s28 eL
        walk_at "go2"
        have ok3 : ScOk [120, 121, 122] [] := ⟨by decide, by decide +kernel, by decide, (fun _ z => nomatch z), by decide⟩
        have g3 : Good 1 [120, 121, 122] [] [[0], [0], [0]] := by
          have ro : RowsOk 1 (crB []) [120, 121, 122] (fun _ => [0]) := by
            refine ⟨fun c hc => ⟨rfl, fun z hz => by rw [List.mem_singleton.mp hz]; decide⟩, fun c hc z hz => ?_, fun c hc c' hc' _ z hz => rfl⟩
            obtain rfl : z = 0 := by omega
            rfl
          have := ro.good ok3 (by decide) (by decide)
          rwa [show prsOf [] = [] from by decide +kernel] at this
        have px28 := px2.same (((s25.trans s26).trans s27).trans s28)
        refine ⟨x2, L, [120, 121, 122], [], [[0], [0], [0]], 1, rfl, g3.arg px28 ⟨[([0], q1), ([0], q2), ([0], q3)], rfl, .inl eL, fun e he => ?_⟩, fun c3 H29 hc3 s29 ca3 => ?_⟩
        · simp only [List.mem_cons, List.not_mem_nil, or_false] at he
          rcases he with rfl | rfl | rfl
          · exact .inl (s28 _ _ (s27 _ _ (s26 _ _ eq1)))
          · exact .inl (s28 _ _ (s27 _ _ eq2))
          · exact .inl (s28 _ _ eq3)
        have s2329 := ((((s24.trans s25).trans s26).trans s27).trans s28).trans s29
        have hb29 := hb23.same s2329
        have px29 := px28.same s29
        walk_at "go2"
        refine ⟨c1, c3, x, x2, T1, _, m1, _, decide (ks = [120, 121, 122] ∧ prsOf gs = []), rfl, hb29.tabs, ⟨hb29.f1.cl, ca3, ⟨_, _, _, _, hb29.sc.px, px29, psk, (fun l hl => nomatch hl), rfl⟩, fun ez => ?_⟩, fun H30 x30 t30 => ?_⟩
        · obtain ⟨k1, k2⟩ := of_decide_eq_true ez
          have f3 : FlAt C CL H29 c3 x2 [120, 121, 122] [] _ _ := ⟨ca3, px29, canon_of g3⟩
          have f1 := hb29.f1
          rw [k1, k2] at f1
          have l3 := (Cl.of_bfs g3.ok (x := 0) (by decide)).le
          exact ⟨[120, 121, 122], [], f1, f3, (fun l hl => nomatch hl), by decide, by decide, f1.fl.good.n0, (canon_of g3).good.n0, mul77 (by omega) (by omega)⟩
        have p30 : PenAt g H30 (1000 * i + 800) := by
          obtain ⟨aa, rr, v1, v2, v3, v4, v5, v6⟩ := hb29.pen.ex
          exact ⟨aa, rr, x30 _ _ v1 (fun _ z => nomatch z), x30 _ _ v2 (fun _ z => nomatch z), v3, v4, v5, v6⟩
        have sc30 : DGet H30 q (.str "kinds") (some (.str (tx ks))) := by
          obtain ⟨l0, a1, a2⟩ := hb29.sc.ex
          exact sc_kinds (x30 _ _ a1 (fun _ z => nomatch z))
        by_cases ez : ks = [120, 121, 122] ∧ prsOf gs = []
        · rw [decide_eq_true ez]
          walk_at "go2"
          try rw [if_pos (show (!!true) = true from rfl)]
          walk_at "go2"
          refine ⟨?_, p30, t30⟩
          rw [decide_eq_true (show V.str (tx ks) = V.str (tx [120, 121, 122]) by rw [ez.1])]
          rfl
        · rw [decide_eq_false ez]
          walk_at "go2"
          try rw [if_neg (show ¬ (!!false) = true from fun z => by cases z)]
          exact ⟨rfl, p30, t30⟩
      · rintro b H24 ⟨rfl, p24, t24⟩
        walk_at "go2"
        exact ⟨_, _, _, _, _, _, _, _, _, _, rfl, p24.mono (by omega), t24⟩
  · rintro σ H2 ⟨y2, y3, y4, y5, y6, y7, y8, y9, y10, y11, rfl, p2, _⟩
    walk_at "go2"
    exact k H2
end
end
section
open PySem PySem.Spec L2
theorem fnok_g75 {P : Program} {w : World} {K : PySem.W.Frag} {mg : Str → Option Value} {base : Heap} {k : Nat} {f : Addr} {fd : FuncData} {ps : List Str} {sp : Sp} (F : FnOk P w K mg base CX0 k f fd ps sp) : FnOkG P w K mg base k f fd ps sp :=
  ⟨F.len, fun A outer s H args us vs Q _ hr ev bind r h => F.run A outer s H args us vs Q E0 hr ev bind r h⟩
theorem end75 {w : World} {K : PySem.W.Frag} {mg : Str → Option Value} {C O CL fa e0 c1 P1 : Addr} {fd : FuncData} {t1 t2 : Tok} {dd0 : Option Addr} {n0 : Nat} {sl0 : Array (Option Value)}
    (c_Plan : ClsF K mg "Plan" C)
    (c_Closed : ClsF K mg "Closed" CL)
    (e_OtherPlan : ExcF K mg "OtherPlan" O)
    (F_is_list : FnAt K mg "is_list" stis_list)
    (F_need_same : FnAt K mg "need_same" stneed_same)
    (F_are_letters : FnAt K mg "are_letters" stare_letters)
    (F_ascending : FnAt K mg "ascending" stascending)
    (F_checked_pairs : FnAt K mg "checked_pairs" stchecked_pairs)
    (F_need_few : FnAt K mg "need_few" stneed_few)
    (F_crossing_table : FnAt K mg "crossing_table" stcrossing_table)
    (F_is_integer : FnAt K mg "is_integer" stis_integer)
    (F_is_table_row : FnAt K mg "is_table_row" stis_table_row)
    (F_table_rows : FnAt K mg "table_rows" sttable_rows)
    (F_need_entries : FnAt K mg "need_entries" stneed_entries)
    (F_need_exchanged : FnAt K mg "need_exchanged" stneed_exchanged)
    (F_found_places : FnAt K mg "found_places" stfound_places)
    (F_numbered_rows : FnAt K mg "numbered_rows" stnumbered_rows)
    (F_met_pairs : FnAt K mg "met_pairs" stmet_pairs)
    (F_following_pairs : FnAt K mg "following_pairs" stfollowing_pairs)
    (F_pair_floor : FnAt K mg "pair_floor" stpair_floor)
    (F_joint_marks : FnAt K mg "joint_marks" stjoint_marks)
    (F_merged_row : FnAt K mg "merged_row" stmerged_row)
    (F_pen : FnAt K mg "_law_begin" stpen)
    (F_draw71 : FnAt K mg "_law_draw" stdraw71)
    (F_pick2 : FnAt K mg "_law_pick" stpick2)
    (F_scene : FnAt K mg "_law_scene" stscene)
    (F_cross : FnAt K mg "_law_cross" stcross)
    (F_fit : FnAt K mg "_law_fit" stfit)
    (F_doors : FnAt K mg "_law_doors" stdoors)
    (F_numbered71 : FnAt K mg "_law_numbered" stnumbered71)
    (F_lists71 : FnAt K mg "_law_lists" stlists71)
    (F_pairs75 : FnAt K mg "_law_pairs" stpairs75)
    (F_joint75 : FnAt K mg "_law_joint" stjoint75)
    (F_tog75 : FnAt K mg "_law_together" sttog75)
    (F_over75 : FnAt K mg "_law_over" stover75)
    (F_othp75 : FnAtC K mg "_law_other_plan" stothp75 c1)
    (F_law : Fun K "law" "law" stlaw fa fd)
    (F_Plan_eq : MAt K C "__eq__" "Plan.__eq__" stPlan_eq)
    (F_Plan_init : MAtD K C "__init__" "Plan.__init__" stPlan_init [.ref e0])
    (F_Closed_init : MAt K CL "__init__" "Closed.__init__" stClosed_init)
    (F_Closed_len : MAt K CL "__len__" "Closed.__len__" stClosed_len)
    (F_Closed_eq : MAt K CL "__eq__" "Closed.__eq__" stClosed_eq)
    (F_Closed_le : MAt K CL "__le__" "Closed.__le__" stClosed_le)
    (F_Closed_and : MAt K CL "__and__" "Closed.__and__" stClosed_and)
    (F_Closed_or : MAt K CL "__or__" "Closed.__or__" stClosed_or)
    (z_len : mg "len" = none)
    (z_int : mg "int" = none)
    (z_list : mg "list" = none)
    (z_isinstance : mg "isinstance" = none)
    (z_str : mg "str" = none)
    (z_all : mg "all" = none)
    (z_set : mg "set" = none)
    (z_tuple : mg "tuple" = none)
    (z_enumerate : mg "enumerate" = none)
    (z_range : mg "range" = none)
    (z_min : mg "min" = none)
    (z_sorted : mg "sorted" = none)
    (z_dict : mg "dict" = none)
    (z_bool : mg "bool" = none)
    (z_zip : mg "zip" = none)
    (z_abs : mg "abs" = none)
    (n_C_kinds : NoAttr K C "kinds")
    (n_C_pairs : NoAttr K C "pairs")
    (n_C_own_crossing : NoAttr K C "own_crossing")
    (n_CL_plan : NoAttr K CL "plan")
    (n_CL_tables : NoAttr K CL "tables")
    (n_CL_own_places : NoAttr K CL "own_places")
    (g_LETTERS : mg "LETTERS" = some (.str (tx LET) t1))
    (g_MOST_KINDS : mg "MOST_KINDS" = some (.int 8 t2))
    (ke0 : K.lookup e0 = some ⟨.type "tuple", dd0, .seq #[] n0, sl0⟩)
    (Closed_sf : PySem.W.selfFirst K CL = true)
    (oo : PySem.W.subIn K (.ref O) (.ref O) = some true) (base : Heap) (TB1 : LamX.TabB base mg c1 P1) : FnOkG PySem.Challenge.pw_crosswalls_k75_closed_floors_met_and_joi w K mg base 10 fa fd ["_law_script"] (spLaw75 K [(P1, ("_law_other_plan" : Str) ++ ".<locals>." ++ "<lambda>")]) := by
  have T : Txt K mg := ⟨z_len, z_int, z_list⟩
  have T1 : Txt71 K mg := ⟨T, z_abs⟩
  have TP : TxtP K mg C := ⟨z_len, z_int, z_list, z_isinstance, z_str, z_all, z_set, z_tuple, ⟨_, g_LETTERS⟩, ⟨_, g_MOST_KINDS⟩, c_Plan, n_C_kinds, n_C_pairs, n_C_own_crossing⟩
  have TR : TxtR K mg C 0 O := ⟨TP, z_enumerate, e_OtherPlan⟩
  have TCl : TxtCl K mg := ⟨T1, z_tuple, z_enumerate⟩
  have TCp : TxtCp K mg C := ⟨TCl, z_zip, z_range, c_Plan, n_C_kinds, n_C_pairs⟩
  have TCi : TxtCi K mg C := ⟨TCp, z_all, z_bool, z_isinstance⟩
  have TCc : TxtCc K mg C CL := ⟨TCi, c_Closed, n_CL_plan, n_CL_tables, n_CL_own_places⟩
  have TCr : TxtCr K mg C 0 O CL := { TR, TCc with }
  have TS : TxtSc K mg C 0 O CL := { TCr with sorted := z_sorted, min := z_min, dict := z_dict }
  have TQ : TxtSq K mg C 0 O CL := { TS with Closed_sf := Closed_sf }
  have T75 : Txt75 K mg C 0 O CL := { TQ with oo := oo }
  have kt : ∀ H : Hp, SeqO K H e0 [] := fun H => .inr (.inr ⟨rfl, _, n0, ke0, rfl, rfl⟩)
  have D_draw := ok_draw71 (P := PySem.Challenge.pw_crosswalls_k75_closed_floors_met_and_joi) (w := w) (base := base) F_draw71 T1
  have D_pen := ok_pen (P := PySem.Challenge.pw_crosswalls_k75_closed_floors_met_and_joi) (w := w) (base := base) F_pen T
  have D_are := ok_are_letters (P := PySem.Challenge.pw_crosswalls_k75_closed_floors_met_and_joi) (w := w) (base := base) F_are_letters TP
  have D_asc := ok_ascending (P := PySem.Challenge.pw_crosswalls_k75_closed_floors_met_and_joi) (w := w) (base := base) F_ascending TP
  have D_isl := ok_is_list (P := PySem.Challenge.pw_crosswalls_k75_closed_floors_met_and_joi) (w := w) (base := base) F_is_list TP
  have D_few := ok_need_few (P := PySem.Challenge.pw_crosswalls_k75_closed_floors_met_and_joi) (w := w) (base := base) F_need_few TP
  have D_chk := ok_checked_pairs F_checked_pairs TP D_isl D_are D_asc
  have D_tab := ok_crossing_table (P := PySem.Challenge.pw_crosswalls_k75_closed_floors_met_and_joi) (w := w) (base := base) F_crossing_table TP
  have X_Plan := ok_Plan F_Plan_init rfl TP D_are D_asc D_chk D_few D_tab
  have C_Plan_1 := X_Plan.kw 1 [] [.pos 0, .dfl 0] (by simp) fun T kV doc pm an cdv ct us its ws l1 l2 l3 => by
    match us, l1, its, l2, ws, l3 with
    | [_, _], _, [_], _, [], _ => exact ⟨_, rfl, rfl⟩
  have M_Plan_eq := ok_Plan_eq (P := PySem.Challenge.pw_crosswalls_k75_closed_floors_met_and_joi) (w := w) (mg := mg) (base := base) F_Plan_eq TP
  have D_ns := ok_need_same F_need_same TR M_Plan_eq
  have D_pick := ok_pick2 F_pick2 T D_draw
  have D_fp := ok_found_places (P := PySem.Challenge.pw_crosswalls_k75_closed_floors_met_and_joi) (w := w) (base := base) F_found_places TCl
  have D_nr := ok_numbered_rows F_numbered_rows TCl D_fp
  have D_ne := ok_need_entries (P := PySem.Challenge.pw_crosswalls_k75_closed_floors_met_and_joi) (w := w) (base := base) F_need_entries TCp
  have D_nx := ok_need_exchanged (P := PySem.Challenge.pw_crosswalls_k75_closed_floors_met_and_joi) (w := w) (base := base) F_need_exchanged TCp
  have D_ii := ok_is_integer71 (P := PySem.Challenge.pw_crosswalls_k75_closed_floors_met_and_joi) (w := w) (base := base) F_is_integer TCi
  have D_ir := ok_is_table_row F_is_table_row TCi D_isl D_ii
  have D_tr := ok_table_rows F_table_rows TCi D_isl D_ir
  have X_Cl := ok_Closed F_Closed_init TCc D_tr D_ne D_nx D_nr
  have M_len := ok_Closed_len (P := PySem.Challenge.pw_crosswalls_k75_closed_floors_met_and_joi) (w := w) (base := base) F_Closed_len TCc
  have M_eq := ok_Closed_eq F_Closed_eq TCc M_Plan_eq
  have D_fol := ok_following_pairs (P := PySem.Challenge.pw_crosswalls_k75_closed_floors_met_and_joi) (w := w) (base := base) F_following_pairs TS
  have D_met := ok_met_pairs F_met_pairs TS D_fol
  have D_pf := ok_pair_floor F_pair_floor TS X_Cl.cdef D_fol
  have D_jm := ok_joint_marks (P := PySem.Challenge.pw_crosswalls_k75_closed_floors_met_and_joi) (w := w) (base := base) F_joint_marks TS
  have D_mr := ok_merged_row (P := PySem.Challenge.pw_crosswalls_k75_closed_floors_met_and_joi) (w := w) (base := base) F_merged_row TS
  have M_le := ok_Closed_le F_Closed_le TS D_ns.calm D_met
  have M_and := ok_Closed_and F_Closed_and TS D_ns.calm D_met D_pf
  have M_or := ok_Closed_or F_Closed_or TS D_ns.calm D_met D_pf D_jm D_mr X_Cl.cdef
  have M_leX := ok_Closed_leX F_Closed_le TS D_ns D_met
  have M_andX := ok_Closed_andX F_Closed_and TS D_ns D_met D_pf
  have M_orX := ok_Closed_orX F_Closed_or TS D_ns D_met D_pf D_jm D_mr X_Cl.cdef
  have D_sc := ok_scene F_scene TS D_draw D_pick X_Plan.cdef
  have D_cr := ok_cross71 (P := PySem.Challenge.pw_crosswalls_k75_closed_floors_met_and_joi) (w := w) (mg := mg) (base := base) (C := C) F_cross
  have D_fit := ok_fit71 F_fit TS D_cr
  have D_do := ok_doors71 F_doors TS D_draw D_pick D_fit
  have D_li := ok_lists71 (P := PySem.Challenge.pw_crosswalls_k75_closed_floors_met_and_joi) (w := w) (base := base) F_lists71 TS
  have D_num := ok_numbered71 (P := PySem.Challenge.pw_crosswalls_k75_closed_floors_met_and_joi) (w := w) (base := base) F_numbered71 TS
  have D_prs := ok_pairs75 (P := PySem.Challenge.pw_crosswalls_k75_closed_floors_met_and_joi) (w := w) (base := base) F_pairs75 TS
  have D_jo := ok_joint75 (P := PySem.Challenge.pw_crosswalls_k75_closed_floors_met_and_joi) (w := w) (base := base) F_joint75 TS
  have D_tog := ok_tog75 F_tog75 TS D_jo D_num
  have D_ov := ok_over75 (P := PySem.Challenge.pw_crosswalls_k75_closed_floors_met_and_joi) (w := w) (base := base) F_over75 TS
  have u1 : ∀ p ∈ [(P1, ("_law_other_plan" : Str) ++ ".<locals>." ++ "<lambda>")], p.1 = P1 → p.2 = ("_law_other_plan" : Str) ++ ".<locals>." ++ "<lambda>" := fun p hp _ => by rw [List.mem_singleton.mp hp]
  have D_op := ok_othp75 F_othp75 T75 TB1 (.head _) u1 M_le M_and M_or M_leX M_andX M_orX
  exact fnok_g75 (ok_law75 F_law T75 kt D_pen D_draw D_pick D_sc D_do D_li D_num D_prs D_tog D_ov D_op C_Plan_1 X_Cl.cdef M_eq M_le M_and M_or)
end
end Cw
set_option Elab.async false
set_option linter.all false
set_option maxRecDepth 100000
open PySem PySem.W PyProof.Rows
set_option maxRecDepth 100000 in
set_option maxHeartbeats 0 in
theorem PySem.Challenge.cw_crosswalls_k75_closed_floors_met_and_joi_holds : PySem.Challenge.rw_crosswalls_k75_closed_floors_met_and_joi.Holds := by
  refine Cw.headOf ?_
  k_fill
  refine Cw.end_walkG1 (l := PySem.Challenge.rw_crosswalls_k75_closed_floors_met_and_joi) (k := 10) (x := "_law_script") (t := 593) (sp := fun K => Cw.spLaw75 K [(593, ("_law_other_plan" : PySem.Str) ++ ".<locals>." ++ "<lambda>")]) rfl rfl ⟨rfl, by decide, by decide⟩ (fun w h Y => PySem.W.km_in_of Y) (fun w h Y => PySem.W.km_tabs_of Y 593 (by k_mem)) (fun w => by kernel_rfl) (fun _ _ a ns hl ht hS => ⟨a, ns, rfl, hS, hl, Cw.tabs_of fun p hp => by rw [List.mem_singleton.mp hp]; exact ht, fun _ => rfl⟩) ?F
  case F =>
    intro w mg fa h KX G hmg
    refine' ⟨_, _, ?e1, fun s v => ?b, fun base _ _ TB => ?h⟩
    case h =>
      refine' Cw.end75 ?c_Plan ?c_Closed ?e_OtherPlan ?F_is_list ?F_need_same ?F_are_letters ?F_ascending ?F_checked_pairs ?F_need_few ?F_crossing_table ?F_is_integer ?F_is_table_row ?F_table_rows ?F_need_entries ?F_need_exchanged ?F_found_places ?F_numbered_rows ?F_met_pairs ?F_following_pairs ?F_pair_floor ?F_joint_marks ?F_merged_row ?F_pen ?F_draw71 ?F_pick2 ?F_scene ?F_cross ?F_fit ?F_doors ?F_numbered71 ?F_lists71 ?F_pairs75 ?F_joint75 ?F_tog75 ?F_over75 ?F_othp75 ?F_law ?F_Plan_eq ?F_Plan_init ?F_Closed_init ?F_Closed_len ?F_Closed_eq ?F_Closed_le ?F_Closed_and ?F_Closed_or ?z_len ?z_int ?z_list ?z_isinstance ?z_str ?z_all ?z_set ?z_tuple ?z_enumerate ?z_range ?z_min ?z_sorted ?z_dict ?z_bool ?z_zip ?z_abs ?n_C_kinds ?n_C_pairs ?n_C_own_crossing ?n_CL_plan ?n_CL_tables ?n_CL_own_places ?g_LETTERS ?g_MOST_KINDS ?ke0 ?Closed_sf ?oo base TB
      case c_Plan => refine' Cw.cls_mk KX G ?a ?pg ?hd ?po ?sa ?mk ?kc ?ha ?hn ?ht ?hm ?ob ?ne; (case a => k_is); (case pg => k_is); (case hd => k_is); (case po => k_is); (case sa => k_is); (case mk => k_is); (case kc => k_is); (case ha => k_is); (case hn => k_is); (case ht => k_is); (case hm => k_is); (case ob => k_is); (case ne => k_is)
      case c_Closed => refine' Cw.cls_mk KX G ?a ?pg ?hd ?po ?sa ?mk ?kc ?ha ?hn ?ht ?hm ?ob ?ne; (case a => k_is); (case pg => k_is); (case hd => k_is); (case po => k_is); (case sa => k_is); (case mk => k_is); (case kc => k_is); (case ha => k_is); (case hn => k_is); (case ht => k_is); (case hm => k_is); (case ob => k_is); (case ne => k_is)
      case e_OtherPlan => refine' Cw.exc_mk KX G ?a ?e ?k ?ty ?hg ?hk ?hs ?hd ?ha ?hn ?ht ?hm; (case a => k_is); (case k => k_is); (case ty => k_is); (case hg => k_is); (case hk => k_is); (case hs => k_is); (case hd => k_is); (case ha => k_is); (case hn => k_is); (case ht => k_is); (case hm => k_is); (case e => k_exc)
      case F_is_list => refine' Cw.fnAt_mk KX G ?a ?l ?c ?k; (case a => k_is); (case l => k_is); (case c => k_is); (case k => k_is)
      case F_need_same => refine' Cw.fnAt_mk KX G ?a ?l ?c ?k; (case a => k_is); (case l => k_is); (case c => k_is); (case k => k_is)
      case F_are_letters => refine' Cw.fnAt_mk KX G ?a ?l ?c ?k; (case a => k_is); (case l => k_is); (case c => k_is); (case k => k_is)
      case F_ascending => refine' Cw.fnAt_mk KX G ?a ?l ?c ?k; (case a => k_is); (case l => k_is); (case c => k_is); (case k => k_is)
      case F_checked_pairs => refine' Cw.fnAt_mk KX G ?a ?l ?c ?k; (case a => k_is); (case l => k_is); (case c => k_is); (case k => k_is)
      case F_need_few => refine' Cw.fnAt_mk KX G ?a ?l ?c ?k; (case a => k_is); (case l => k_is); (case c => k_is); (case k => k_is)
      case F_crossing_table => refine' Cw.fnAt_mk KX G ?a ?l ?c ?k; (case a => k_is); (case l => k_is); (case c => k_is); (case k => k_is)
      case F_is_integer => refine' Cw.fnAt_mk KX G ?a ?l ?c ?k; (case a => k_is); (case l => k_is); (case c => k_is); (case k => k_is)
      case F_is_table_row => refine' Cw.fnAt_mk KX G ?a ?l ?c ?k; (case a => k_is); (case l => k_is); (case c => k_is); (case k => k_is)
      case F_table_rows => refine' Cw.fnAt_mk KX G ?a ?l ?c ?k; (case a => k_is); (case l => k_is); (case c => k_is); (case k => k_is)
      case F_need_entries => refine' Cw.fnAt_mk KX G ?a ?l ?c ?k; (case a => k_is); (case l => k_is); (case c => k_is); (case k => k_is)
      case F_need_exchanged => refine' Cw.fnAt_mk KX G ?a ?l ?c ?k; (case a => k_is); (case l => k_is); (case c => k_is); (case k => k_is)
      case F_found_places => refine' Cw.fnAt_mk KX G ?a ?l ?c ?k; (case a => k_is); (case l => k_is); (case c => k_is); (case k => k_is)
      case F_numbered_rows => refine' Cw.fnAt_mk KX G ?a ?l ?c ?k; (case a => k_is); (case l => k_is); (case c => k_is); (case k => k_is)
      case F_met_pairs => refine' Cw.fnAt_mk KX G ?a ?l ?c ?k; (case a => k_is); (case l => k_is); (case c => k_is); (case k => k_is)
      case F_following_pairs => refine' Cw.fnAt_mk KX G ?a ?l ?c ?k; (case a => k_is); (case l => k_is); (case c => k_is); (case k => k_is)
      case F_pair_floor => refine' Cw.fnAt_mk KX G ?a ?l ?c ?k; (case a => k_is); (case l => k_is); (case c => k_is); (case k => k_is)
      case F_joint_marks => refine' Cw.fnAt_mk KX G ?a ?l ?c ?k; (case a => k_is); (case l => k_is); (case c => k_is); (case k => k_is)
      case F_merged_row => refine' Cw.fnAt_mk KX G ?a ?l ?c ?k; (case a => k_is); (case l => k_is); (case c => k_is); (case k => k_is)
      case F_pen => refine' Cw.fnAt_mk KX G ?a ?l ?c ?k; (case a => k_is); (case l => k_is); (case c => k_is); (case k => k_is)
      case F_draw71 => refine' Cw.fnAt_mk KX G ?a ?l ?c ?k; (case a => k_is); (case l => k_is); (case c => k_is); (case k => k_is)
      case F_pick2 => refine' Cw.fnAt_mk KX G ?a ?l ?c ?k; (case a => k_is); (case l => k_is); (case c => k_is); (case k => k_is)
      case F_scene => refine' Cw.fnAt_mk KX G ?a ?l ?c ?k; (case a => k_is); (case l => k_is); (case c => k_is); (case k => k_is)
      case F_cross => refine' Cw.fnAt_mk KX G ?a ?l ?c ?k; (case a => k_is); (case l => k_is); (case c => k_is); (case k => k_is)
      case F_fit => refine' Cw.fnAt_mk KX G ?a ?l ?c ?k; (case a => k_is); (case l => k_is); (case c => k_is); (case k => k_is)
      case F_doors => refine' Cw.fnAt_mk KX G ?a ?l ?c ?k; (case a => k_is); (case l => k_is); (case c => k_is); (case k => k_is)
      case F_numbered71 => refine' Cw.fnAt_mk KX G ?a ?l ?c ?k; (case a => k_is); (case l => k_is); (case c => k_is); (case k => k_is)
      case F_lists71 => refine' Cw.fnAt_mk KX G ?a ?l ?c ?k; (case a => k_is); (case l => k_is); (case c => k_is); (case k => k_is)
      case F_pairs75 => refine' Cw.fnAt_mk KX G ?a ?l ?c ?k; (case a => k_is); (case l => k_is); (case c => k_is); (case k => k_is)
      case F_joint75 => refine' Cw.fnAt_mk KX G ?a ?l ?c ?k; (case a => k_is); (case l => k_is); (case c => k_is); (case k => k_is)
      case F_tog75 => refine' Cw.fnAt_mk KX G ?a ?l ?c ?k; (case a => k_is); (case l => k_is); (case c => k_is); (case k => k_is)
      case F_over75 => refine' Cw.fnAt_mk KX G ?a ?l ?c ?k; (case a => k_is); (case l => k_is); (case c => k_is); (case k => k_is)
      case F_othp75 => refine' Cw.fnAtC_mk KX G ?a ?l ?c ?k; (case a => k_is); (case l => k_is); (case c => k_is); (case k => k_is)
      case F_law => refine' Cw.fun1_mk KX G hmg ?a ?l ?c ?k; (case a => k_is); (case l => k_is); (case c => k_is); (case k => k_is)
      case F_Plan_eq => refine' Cw.mAt_mk ?a ?i ?l ?c ?k; (case a => k_is); (case i => k_is); (case l => k_is); (case c => k_is); (case k => k_is)
      case F_Plan_init => refine' Cw.mAtD_mk ?a ?i ?l ?c ?k ?t ?v ?d; (case a => k_is); (case i => k_is); (case l => k_is); (case c => k_is); (case k => k_is); (case t => k_is); (case v => exact .cons rfl .nil); (case d => intro z; cases z)
      case F_Closed_init => refine' Cw.mAt_mk ?a ?i ?l ?c ?k; (case a => k_is); (case i => k_is); (case l => k_is); (case c => k_is); (case k => k_is)
      case F_Closed_len => refine' Cw.mAt_mk ?a ?i ?l ?c ?k; (case a => k_is); (case i => k_is); (case l => k_is); (case c => k_is); (case k => k_is)
      case F_Closed_eq => refine' Cw.mAt_mk ?a ?i ?l ?c ?k; (case a => k_is); (case i => k_is); (case l => k_is); (case c => k_is); (case k => k_is)
      case F_Closed_le => refine' Cw.mAt_mk ?a ?i ?l ?c ?k; (case a => k_is); (case i => k_is); (case l => k_is); (case c => k_is); (case k => k_is)
      case F_Closed_and => refine' Cw.mAt_mk ?a ?i ?l ?c ?k; (case a => k_is); (case i => k_is); (case l => k_is); (case c => k_is); (case k => k_is)
      case F_Closed_or => refine' Cw.mAt_mk ?a ?i ?l ?c ?k; (case a => k_is); (case i => k_is); (case l => k_is); (case c => k_is); (case k => k_is)
      case z_len => refine' PySem.W.mg_none_of KX G ?a; (case a => k_is)
      case z_int => refine' PySem.W.mg_none_of KX G ?a; (case a => k_is)
      case z_list => refine' PySem.W.mg_none_of KX G ?a; (case a => k_is)
      case z_isinstance => refine' PySem.W.mg_none_of KX G ?a; (case a => k_is)
      case z_str => refine' PySem.W.mg_none_of KX G ?a; (case a => k_is)
      case z_all => refine' PySem.W.mg_none_of KX G ?a; (case a => k_is)
      case z_set => refine' PySem.W.mg_none_of KX G ?a; (case a => k_is)
      case z_tuple => refine' PySem.W.mg_none_of KX G ?a; (case a => k_is)
      case z_enumerate => refine' PySem.W.mg_none_of KX G ?a; (case a => k_is)
      case z_range => refine' PySem.W.mg_none_of KX G ?a; (case a => k_is)
      case z_min => refine' PySem.W.mg_none_of KX G ?a; (case a => k_is)
      case z_sorted => refine' PySem.W.mg_none_of KX G ?a; (case a => k_is)
      case z_dict => refine' PySem.W.mg_none_of KX G ?a; (case a => k_is)
      case z_bool => refine' PySem.W.mg_none_of KX G ?a; (case a => k_is)
      case z_zip => refine' PySem.W.mg_none_of KX G ?a; (case a => k_is)
      case z_abs => refine' PySem.W.mg_none_of KX G ?a; (case a => k_is)
      case n_C_kinds => unfold L2.NoAttr; k_is
      case n_C_pairs => unfold L2.NoAttr; k_is
      case n_C_own_crossing => unfold L2.NoAttr; k_is
      case n_CL_plan => unfold L2.NoAttr; k_is
      case n_CL_tables => unfold L2.NoAttr; k_is
      case n_CL_own_places => unfold L2.NoAttr; k_is
      case g_LETTERS => refine' Cw.glob_mk KX G ?a; (case a => k_is)
      case g_MOST_KINDS => refine' Cw.glob_mk KX G ?a; (case a => k_is)
      case ke0 => first | k_is | k_exc | kernel_rfl
      case Closed_sf => first | k_is | k_exc | kernel_rfl
      case oo => first | k_is | k_exc | kernel_rfl
    case b => exact .of_eq rfl
    case e1 => kernel_rfl
