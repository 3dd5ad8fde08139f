import PyProof.Rows.All
import Wide.All
import OpenK.AllK
import Wide.FinOn
import HandS.ForMost
import HandS.ForExc
import HandS.Wide
import HandS.Style
import HandS.Flow
import HandS.IsInst
import HandS.OwnEq
import PyProof.Rows.SetFrom
import PyProof.StrWalks
import PyProof.InstNe
import HandS.Exc
import HandS.Defaults
import HandS.Walk
import PyProof.Rows.StrRev
import HandS.Steps
import PySem.Challenge.RW_crosswalls_k74_ways_of_closed_floors
import KE.GoesMore
import HandS.TupLe
import HandS.ExcOwn
import HandS.ExcIs
import PyProof.ExcBaseAll.ValueError
import HandS.Iter
import HandS.Conv
import HandS.More
import HandS.WordsExc
import PyProof.ListStr
import HandS.DeepEq
import PyProof.NeKinds
import HandS.MakeKw
import HandS.MakeKwOnly
import PyProof.JoinWalk
import PyProof.CollectIter
import PyProof.DictWalks
import PyProof.FactsAll.dict_keyiterator_1
import PyProof.Rows.StrJoin2
import KE.KDictList
import HandS.TryOnly
import HandS.Replace
import HandS.DictComp
import KE.GoesEnum
import HandS.Codes
import PyProof.FString5
import HandS.SortInts
import HandS.SortKw
import HandS.Set
import HandS.SetFor
import KE.KOpsOwn
import PyProof.CallStr
import HandS.List
import HandS.RaiseMore
import HandS.Dict
import PyProof.DictUpdate
import KE.KDictDisplayH
import HandS.SetKeys
import KE.DataMinMax
import HandS.Ends
import HandS.Property
import HandS.ClsMeth
import KE.KStateDown
import HandS.Head0
import HandS.Head1
import HandS.Head2
set_option Elab.async false
set_option maxRecDepth 100000
set_option maxHeartbeats 4000000
/-! Own words over the hand layer: defs by name, texts as lists of codes. -/
namespace Cw
open PySem PySem.Spec PyProof.Rows L2

/-! ### defs by their module name -/
/-- a def of the module stands as the text has it -/
structure FnAt (K : PySem.W.Frag) (mg : Str → Option Value) (x : Str) (st : Stmt) : Prop where
  ex : ∃ f fd, mg x = some (.ref f) ∧ Fun K x x st f fd
/-- how a def's arguments bind where all are given, and where it stands -/
structure Bd (K : PySem.W.Frag) (f : Addr) (fd : FuncData) (ps : List Str) : Prop where
  b : Binds K fd ps []
  lk : ∃ oc od osl, K.lookup f = some ⟨oc, od, .func fd, osl⟩
theorem funLk {K : PySem.W.Frag} {x qual : Str} {st : Stmt} {f : Addr} {fd : FuncData} (F : Fun K x qual st f fd) : ∃ oc od osl, K.lookup f = some ⟨oc, od, .func fd, osl⟩ := by
  obtain ⟨oc, od, kV, doc, pm, an, cdv, ct, osl, rfl, lk, _⟩ := F.ex
  exact ⟨oc, od, osl, lk⟩
/-- a def of the module keeps a promise -/
structure Def (P : Program) (w : World) (K : PySem.W.Frag) (mg : Str → Option Value) (base : Heap) (CX : CXT) (k : Nat) (x : Str) (ps : List Str) (sp : Sp) : Prop where
  ex : ∃ f fd, mg x = some (.ref f) ∧ PySem.W.keepIn K (.ref f) = true ∧ Bd K f fd ps ∧ FnOk P w K mg base CX k f fd ps sp
section
variable {P : Program} {w : World} {K : PySem.W.Frag} {mg : Str → Option Value} {base : Heap} {CX : CXT} {k : Nat} {x : Str} {ps N : List Str} {sp : Sp} {st : Stmt}
theorem Def.mono {j : Nat} (D : Def P w K mg base CX j x ps sp) (h : j ≤ k) : Def P w K mg base CX k x ps sp := by
  obtain ⟨f, fd, a, b, c, d⟩ := D.ex
  exact ⟨f, fd, a, b, c, d.mono h⟩
theorem Def.imp {sp' : Sp} (D : Def P w K mg base CX k x ps sp) (h : ∀ vs H Q E, sp' vs H Q E → sp vs H Q E) : Def P w K mg base CX k x ps sp' := by
  obtain ⟨f, fd, a, b, c, d⟩ := D.ex
  exact ⟨f, fd, a, b, c, d.imp h⟩
/-- a def that lets no exception out -/
theorem FnAt.ok (F : FnAt K mg x st) (S : FnScope N ps (defScope st))
    (hb : ∀ (kV doc pm : Value) (an : Option Addr) (cdv ct : Value) (us : List Value), us.length = ps.length → bindArgs (PySem.W.fnOf x x (defArgs st) (defBody st) (defScope st) .none kV doc pm an cdv ct) ⟨us, []⟩ = pure (ps.zip us))
    (len : ∀ vs H Q E, sp vs H Q E → vs.length = ps.length)
    (hbody : ∀ (f : Addr) (cdv : Value) (A : Around) (outer : List Env) (s : Shared) (H : Hp) (vs : List V) (Q : VK) (E : XK), Room k (A.deeper (envOfC x (defScope st) s.heap.objs.size f cdv)) → sp vs H Q E →
      ∃ t, PSs (cxOf CX0 P w K mg base N x (defScope st) f cdv A outer s H E).nox (defBody st) t ∧ t { nx := fun _ H' => Q .non H', rt := Q } (start N vs) H) : Def P w K mg base CX0 (k + 1) x ps sp := by
  obtain ⟨f, fd, hm, F⟩ := F.ex
  exact ⟨f, fd, hm, F.kp, ⟨F.binds hb, funLk F⟩, F.ok S len fun cdv A outer s H vs Q E hr h => hbody f cdv A outer s H vs Q E hr h⟩
/-- a def that may raise -/
theorem FnAt.okX (F : FnAt K mg x st) (S : FnScope N ps (defScope st))
    (hb : ∀ (kV doc pm : Value) (an : Option Addr) (cdv ct : Value) (us : List Value), us.length = ps.length → bindArgs (PySem.W.fnOf x x (defArgs st) (defBody st) (defScope st) .none kV doc pm an cdv ct) ⟨us, []⟩ = pure (ps.zip us))
    (len : ∀ vs H Q E, sp vs H Q E → vs.length = ps.length)
    (hbody : ∀ (f : Addr) (cdv : Value) (A : Around) (outer : List Env) (s : Shared) (H : Hp) (vs : List V) (Q : VK) (E : XK), Room k (A.deeper (envOfC x (defScope st) s.heap.objs.size f cdv)) → sp vs H Q E →
      ∃ t, PSs (cxOf (L2.CX P w) P w K mg base N x (defScope st) f cdv A outer s H E) (defBody st) t ∧ t { nx := fun _ H' => Q .non H', rt := Q } (start N vs) H) : Def P w K mg base (L2.CX P w) (k + 1) x ps sp := by
  obtain ⟨f, fd, hm, F⟩ := F.ex
  exact ⟨f, fd, hm, F.kp, ⟨F.binds hb, funLk F⟩, F.okX S len fun cdv A outer s H vs Q E hr h => hbody f cdv A outer s H vs Q E hr h⟩
end
section
variable {X : Cx} {CX : CXT} {k : Nat} {ps : List Str} {sp : Sp} {E : XK} {x : Str} {p pos : PySem.Pos} {e : Expr} {es : List Expr} {t : TA}
/-- f(e, ..) of a def that is known by its name -/
theorem pe_cd (D : Def X.prog X.w X.K X.mg X.base CX k x ps sp) (hr : Room k X.A) (hx : Passes CX X E) (ha : PA X (e :: es) t) (hg : Gl X x := by rfl) (hdb : (x == ("__debug__" : Str)) = false := by decide)
    (he : starEach (e :: es) X.env = (false, eval e X.env) :: starEach es X.env := by rfl) (hpl : (backTo pos (starEach es X.env)).any (·.1) = false := by rfl) : PE X (.Call (.Name x p) (e :: es) [] pos) (tCall sp [] E t) := by
  obtain ⟨f, fd, a, b, c, d⟩ := D.ex
  exact pe_call d hr hg a b c.b .nil hx ha hdb he hpl
end
/-! ### heaps -/
/-- all but the object at p is kept -/
def Keep (p : Addr) (H H' : Hp) : Prop := ∀ b o, H b = some o → b ≠ p → H' b = some o
theorem Keep.refl (p : Addr) (H : Hp) : Keep p H H := fun _ _ h _ => h
theorem Keep.trans {p : Addr} {H H1 H2 : Hp} (a : Keep p H H1) (b : Keep p H1 H2) : Keep p H H2 := fun c o h n => b c o (a c o h n) n
theorem Keep.of {p : Addr} {H H' : Hp} (a : Same H H') : Keep p H H' := fun c o h _ => a c o h
theorem Same.at {H H' : Hp} {a : Addr} {o : HO} (S : Same H H') (h : H a = some o) : H' a = some o := S a o h
theorem Keep.at {p : Addr} {H H' : Hp} {a : Addr} {o : HO} (S : Keep p H H') (h : H a = some o) (n : a ≠ p) : H' a = some o := S a o h n
theorem Same.new {H : Hp} {p : Addr} {o : HO} (h : H p = none) : Same H (upd H p o) := fun a u e => by
  rw [upd_ne (ne_of_none e h)]
  exact e
theorem Keep.put {p : Addr} {H : Hp} {o : HO} : Keep p H (upd H p o) := fun a u e n => by
  rw [upd_ne n]
  exact e
end Cw
set_option Elab.async false
set_option linter.all false
set_option maxRecDepth 100000
set_option maxHeartbeats 4000000
namespace Cw
open PySem PySem.Spec L2
/-! ### texts as lists of codes -/
abbrev tx (l : List Nat) : Str := ⟨l.toArray⟩
theorem tx_len (l : List Nat) : (tx l).length = l.length := by
  show (l.toArray).size = l.length
  simp
theorem tx_app (a b : List Nat) : tx a ++ tx b = tx (a ++ b) := by
  show (⟨a.toArray ++ b.toArray⟩ : Str) = ⟨(a ++ b).toArray⟩
  simp
theorem tx_eq {z : Str} : z = tx z.cps.toList := by
  cases z
  simp [tx]
theorem tx_inj {a b : List Nat} : tx a = tx b ↔ a = b := by
  constructor
  · intro h
    have := congrArg (fun z : Str => z.cps.toList) h
    simpa using this
  · intro h
    rw [h]
theorem dec_tx {a b : List Nat} : decide (V.str (tx a) = V.str (tx b)) = decide (a = b) := by
  rw [Bool.eq_iff_iff, decide_eq_true_iff, decide_eq_true_iff]
  constructor
  · intro h
    injection h with h
    exact tx_inj.mp h
  · intro h
    rw [h]

/-! ### stepping: expressions -/
section
variable {σ : St} {H : Hp} {Q : VK} {i : Nat} {v x y : V} {ta tb te : TE} {r : R2} {D : Ends} {K : PySem.W.Frag}
theorem e_c (q : Q v H) : tC v σ H Q := q
theorem e_op (q : ta σ H fun x H1 => tb σ H1 fun y H2 => r x y H2 Q) : tOp r ta tb σ H Q := q
theorem e_un {r : V → Hp → VK → Prop} (q : ta σ H fun x H1 => r x H1 Q) : tUn r ta σ H Q := q
theorem v_I0 {g : Int → Int → V} {a b : Int} (q : Q (g a b) H) : rI0 g (.int a) (.int b) H Q := ⟨a, b, rfl, rfl, q⟩
theorem v_I {C : Int → Int → Prop} {g : Int → Int → V} {a b : Int} (c : C a b) (q : Q (g a b) H) : rI C g (.int a) (.int b) H Q := ⟨a, b, rfl, rfl, c, q⟩
theorem v_eq (c : scal x y = true) (q : Q (.bl (decide (x = y))) H) : rEq x y H Q := ⟨c, q⟩
theorem v_ne (c : scal x y = true) (q : Q (.bl (!decide (x = y))) H) : rNe x y H Q := ⟨c, q⟩
theorem v_bl {P : Bool → Prop} {b : Bool} (q : P b) : ∃ k, V.bl b = V.bl k ∧ P k := ⟨b, rfl, q⟩
theorem v_int {P : Int → Prop} {b : Int} (q : P b) : ∃ k, V.int b = V.int k ∧ P k := ⟨b, rfl, q⟩
theorem v_str {P : Str → Prop} {b : Str} (q : P b) : ∃ k, V.str b = V.str k ∧ P k := ⟨b, rfl, q⟩
theorem e_andV (q : ta σ H fun x H1 => ∃ c, x = .bl c ∧ if c = true then tb σ H1 Q else Q (.bl false) H1) : tAndV ta tb σ H Q := q
theorem e_orV (q : ta σ H fun x H1 => ∃ c, x = .bl c ∧ if c = true then Q (.bl true) H1 else tb σ H1 Q) : tOrV ta tb σ H Q := q
theorem e_notV (q : ta σ H fun x H1 => ∃ c, x = .bl c ∧ Q (.bl (!c)) H1) : tNotV ta σ H Q := q
theorem e_if {t : TT} (q : t σ H fun c H1 => if c = true then ta σ H1 Q else tb σ H1 Q) : tIf t ta tb σ H Q := q
theorem e_nil {Q : List V → Hp → Prop} (q : Q [] H) : tNil σ H Q := q
theorem e_cons {tr : TA} {Q : List V → Hp → Prop} (q : ta σ H fun x H1 => tr σ H1 fun xs H2 => Q (x :: xs) H2) : tCons ta tr σ H Q := q
theorem e_cb {r : List V → Hp → VK → Prop} {t : TA} (q : t σ H fun vs H1 => r vs H1 Q) : tCB r t σ H Q := q
theorem e_call {sp : Sp} {E : XK} {t : TA} (q : t σ H fun vs H1 => sp vs H1 Q E) : tCall sp [] E t σ H Q := by
  show t σ H fun vs H1 => sp (vs ++ []) H1 Q E
  simpa using q
theorem e_fld {f : Str} (q : ta σ H fun x H1 => ∃ a C dx fs v, x = .ref a ∧ H1 a = some (.ins C dx fs) ∧ Cls K C ∧ NoAttr K C f ∧ fs.lookup f = some v ∧ Q v H1) : tFld K ta f σ H Q := q
theorem e_dget (q : ta σ H fun x H1 => tb σ H1 fun y H2 => ∃ a v, x = .ref a ∧ DGet H2 a y (some v) ∧ Q v H2) : tDGet ta tb σ H Q := q
theorem v_dget {P : V → Prop} {a : Addr} (h : DGet H a y (some v)) (q : P v) : ∃ a' v, V.ref a = .ref a' ∧ DGet H a' y (some v) ∧ P v := ⟨a, v, rfl, h, q⟩
theorem e_lst {t : TA} (q : t σ H fun xs H1 => xs.length ≤ sizeLine ∧ ∀ p H2, H1 p = none → H2 = upd H1 p (.lst xs) → Q (.ref p) H2) : tLst t σ H Q := by
  have e : (fun (xs : List V) (H1 : Hp) => xs.length ≤ sizeLine ∧ ∀ p H2, H1 p = none → H2 = upd H1 p (.lst xs) → Q (.ref p) H2) = (fun xs H1 => xs.length ≤ sizeLine ∧ ∀ p, H1 p = none → Q (.ref p) (upd H1 p (.lst xs))) := by
    funext xs H1
    exact propext ⟨fun h => ⟨h.1, fun p hp => h.2 p _ hp rfl⟩, fun h => ⟨h.1, fun p H2 hp e => e ▸ h.2 p hp⟩⟩
  rw [e] at q
  exact q
theorem e_tup {t : TA} (q : t σ H fun xs H1 => xs.length ≤ sizeLine ∧ ∀ p H2, H1 p = none → H2 = upd H1 p (.tup xs) → Q (.ref p) H2) : tTup t σ H Q := by
  have e : (fun (xs : List V) (H1 : Hp) => xs.length ≤ sizeLine ∧ ∀ p H2, H1 p = none → H2 = upd H1 p (.tup xs) → Q (.ref p) H2) = (fun xs H1 => xs.length ≤ sizeLine ∧ ∀ p, H1 p = none → Q (.ref p) (upd H1 p (.tup xs))) := by
    funext xs H1
    exact propext ⟨fun h => ⟨h.1, fun p hp => h.2 p _ hp rfl⟩, fun h => ⟨h.1, fun p H2 hp e => e ▸ h.2 p hp⟩⟩
  rw [e] at q
  exact q
theorem e_dnew (q : ∀ p H', H p = none → Same H H' → H' p = some (.dK []) → Q (.ref p) H') : tDNewK σ H Q := fun p h => q p _ h (Same.new h) upd_same
theorem szl {n : Nat} (h : n ≤ 1000000) : n ≤ sizeLine := Nat.le_trans h (by decide)
theorem szlt {n : Nat} (h : n < 1000000) : n < sizeLine := Nat.lt_of_lt_of_le h (by decide)
theorem v_lst {xs : List V} {P : Addr → Hp → Prop} (h : xs.length ≤ 1000000) (q : ∀ p H', H p = none → Same H H' → H' p = some (.lst xs) → P p H') : xs.length ≤ sizeLine ∧ ∀ p H2, H p = none → H2 = upd H p (.lst xs) → P p H2 := ⟨szl h, fun p H2 hp e => q p H2 hp (e ▸ Same.new hp) (e ▸ upd_same)⟩
theorem v_tup {xs : List V} {P : Addr → Hp → Prop} (h : xs.length ≤ 1000000) (q : ∀ p H', H p = none → Same H H' → H' p = some (.tup xs) → P p H') : xs.length ≤ sizeLine ∧ ∀ p H2, H p = none → H2 = upd H p (.tup xs) → P p H2 := ⟨szl h, fun p H2 hp e => q p H2 hp (e ▸ Same.new hp) (e ▸ upd_same)⟩
theorem v_ixL {p : Addr} {xs : List V} {a : Int} (h : H p = some (.lst xs)) (c : atI xs a = some v) (q : Q v H) : rIxL K (.ref p) (.int a) H Q := ⟨p, xs, a, v, rfl, rfl, SqL.of h, c, q⟩
theorem v_ixS {l : List Nat} {a : Int} {c : Nat} (h : l.length ≤ 1000000) (e : atI l a = some c) (q : Q (.str (tx [c])) H) : rIxS (.str (tx l)) (.int a) H Q := ⟨tx l, a, c, rfl, rfl, by rw [tx_len]; exact szl h, by simpa using e, q⟩
end
/-! ### named relations of built-in calls -/
def rInt : List V → Hp → VK → Prop := fun xs H Q => (∃ i, xs = [.int i] ∧ Q (.int i) H) ∨ ∃ k, xs = [.bl k] ∧ Q (.int (if k then 1 else 0)) H
theorem c_int {X : Cx} : CallR X (.type "int") rInt := call_int1
def rLen (K : PySem.W.Frag) : List V → Hp → VK → Prop := fun xs H Q => ∃ p ys, xs = [.ref p] ∧ (SqL K H p ys ∨ SqT K H p ys) ∧ Q (.int ys.length) H
theorem c_len {X : Cx} : CallR X (.builtin "len") (rLen X.K) := call_len_seq
def rLenS : List V → Hp → VK → Prop := fun xs H Q => ∃ x, xs = [.str x] ∧ x.length ≤ sizeLine ∧ Q (.int x.length) H
theorem c_lenS {X : Cx} : CallR X (.builtin "len") rLenS := call_len_str
section
variable {σ : St} {H : Hp} {Q : VK} {i : Nat} {v x y : V} {K : PySem.W.Frag}
theorem v_inti {a : Int} (q : Q (.int a) H) : rInt [.int a] H Q := .inl ⟨a, rfl, q⟩
theorem v_intb {k : Bool} (q : Q (.int (if k then 1 else 0)) H) : rInt [.bl k] H Q := .inr ⟨k, rfl, q⟩
theorem v_len {p : Addr} {ys : List V} (h : H p = some (.lst ys)) (q : Q (.int ys.length) H) : rLen K [.ref p] H Q := ⟨p, ys, rfl, .inl (SqL.of h), q⟩
theorem v_lenS {l : List Nat} (h : l.length ≤ 1000000) (q : Q (.int l.length) H) : rLenS [.str (tx l)] H Q := ⟨tx l, rfl, by rw [tx_len]; exact szl h, by rw [tx_len]; exact q⟩
end
/-! ### stepping: statements -/
section
variable {σ : St} {H : Hp} {i : Nat} {v : V} {te : TE} {tt u : TT} {t1 t2 : TS} {D : Ends}
theorem s_start {N : List Str} {vs : List V} {t : TS} (s0 : St) (h : start N vs = s0) (q : t D s0 H) : t D (start N vs) H := by rw [h]; exact q
theorem s_seq (q : t1 { D with nx := t2 D } σ H) : tSeq t1 t2 D σ H := q
theorem s_next (q : D.nx σ H) : tNext D σ H := q
theorem s_set (q : te σ H fun v H1 => D.nx (σ.set i (some v)) H1) : tAsg te (gName i) D σ H := q
theorem s_drop (q : te σ H fun _ H1 => D.nx σ H1) : tDrop te D σ H := q
theorem s_ret (q : te σ H D.rt) : tRet te D σ H := q
theorem s_if (q : tt σ H fun b H1 => if b = true then t1 D σ H1 else t2 D σ H1) : tIfS tt t1 t2 D σ H := q
theorem t_test {Q : Bool → Hp → Prop} (q : te σ H fun x H' => ∃ k, x = .bl k ∧ Q k H') : tTest te σ H Q := q
theorem t_B {Q : Bool → Hp → Prop} (q : te σ H fun x H' => ∃ k, x = .bl k ∧ Q k H') : tB te σ H Q := q
theorem t_and {Q : Bool → Hp → Prop} (q : tt σ H fun c H1 => if c = true then u σ H1 Q else Q false H1) : tAnd tt u σ H Q := q
theorem t_or {Q : Bool → Hp → Prop} (q : tt σ H fun c H1 => if c = true then Q true H1 else u σ H1 Q) : tOr tt u σ H Q := q
theorem t_not {Q : Bool → Hp → Prop} (q : tt σ H fun c H1 => Q (!c) H1) : tNot tt σ H Q := q
theorem s_dput {td ty tv : TE} (q : tv σ H fun v H1 => td σ H1 fun x H2 => ty σ H2 fun y H3 => ∃ a H4, x = .ref a ∧ DPut H3 a y v H4 ∧ D.nx σ H4) : sDPut td ty tv D σ H := q
theorem if_dec {c A B : Prop} [Decidable c] (h1 : c → A) (h2 : ¬ c → B) : if decide c = true then A else B := by
  by_cases h : c
  · rw [decide_eq_true h, if_pos rfl]; exact h1 h
  · rw [decide_eq_false h, if_neg Bool.false_ne_true]; exact h2 h
theorem if_ndec {c A B : Prop} [Decidable c] (h1 : ¬ c → A) (h2 : c → B) : if (!decide c) = true then A else B := by
  by_cases h : c
  · rw [decide_eq_true h]; exact iteF (h2 h)
  · rw [decide_eq_false h]; exact iteT (h1 h)
theorem if_bool {b : Bool} {A B : Prop} (h1 : b = true → A) (h2 : b = false → B) : if b = true then A else B := by
  cases b with
  | true => exact iteT (h1 rfl)
  | false => exact iteF (h2 rfl)
end

/-! ### cuts: what follows is shown once -/
section
variable {X : Cx} {σ : St} {H : Hp} {D : Ends} {t u : TS}
def tCutE (te : TE) : TE := fun σ H Q => ∃ Mid : V → Hp → Prop, te σ H Mid ∧ ∀ v H', Mid v H' → Q v H'
theorem pe_cut {e : Expr} {te : TE} (h : PE X e te) : PE X e (tCutE te) := by
  refine ⟨fun pins s σ H Q I q => ?_⟩
  obtain ⟨Mid, hm, hu⟩ := q
  exact thn (h.run pins s σ H Mid I hm) fun u s1 ⟨x, H1, I1, r1, q1⟩ => ⟨x, H1, I1, r1, hu x H1 q1⟩
theorem e_cut {te : TE} {Q : VK} (Mid : V → Hp → Prop) (h : te σ H Mid) (q : ∀ v H', Mid v H' → Q v H') : tCutE te σ H Q := ⟨Mid, h, q⟩
def tCutS (t u : TS) : TS := fun D σ H => ∃ Mid : St → Hp → Prop, t { D with nx := Mid } σ H ∧ ∀ σ' H', Mid σ' H' → u D σ' H'
theorem pss_cutS {st : Stmt} {rest : List Stmt} (h1 : PS X st t) (h2 : PSs X rest u) : PSs X (st :: rest) (tCutS t u) := by
  refine ⟨fun pins s σ H D I h => ?_⟩
  obtain ⟨Mid, hm, hu⟩ := h
  refine wpAny_execs_cons (thn (h1.run pins s σ H { D with nx := Mid } I hm) fun f s1 q => ?_)
  cases f with
  | next =>
    obtain ⟨σ', H', I', q⟩ := q
    exact h2.run pins s1 σ' H' D I' (hu σ' H' q)
  | ret v => exact q
  | brk => exact q
  | cont => exact q
theorem s_cut (Mid : St → Hp → Prop) (h : t { D with nx := Mid } σ H) (q : ∀ σ' H', Mid σ' H' → u D σ' H') : tCutS t u D σ H := ⟨Mid, h, q⟩
end
section
variable {σ : St} {H : Hp} {v y : V}
theorem v_put {P : Hp → Prop} {a : Addr} {o : HO} (h : DPut H a y v (upd H a o)) (q : ∀ H', Keep a H H' → H' a = some o → P H') : ∃ a' H4, V.ref a = .ref a' ∧ DPut H a' y v H4 ∧ P H4 := ⟨a, _, rfl, h, q _ Keep.put upd_same⟩
end
/-! ### data -/
theorem dp_ints {K : PySem.W.Frag} {H : Hp} : ∀ ns : List Int, DpAll K H (ns.map V.int) (ns.map PyData.int)
  | [] => .nil
  | n :: r => .cons (.int n) (dp_ints r)
theorem dp_strs {K : PySem.W.Frag} {H : Hp} : ∀ ns : List Str, DpAll K H (ns.map V.str) (ns.map PyData.str)
  | [] => .nil
  | n :: r => .cons (.str n) (dp_strs r)
theorem lay_ints : ∀ ns : List Int, PyData.canLayAll0 (ns.map PyData.int) = true
  | [] => rfl
  | n :: r => lay_ints r
theorem lay_strs : ∀ ns : List Str, (∀ x ∈ ns, PyData.strOk x = true) → PyData.canLayAll0 (ns.map PyData.str) = true
  | [], _ => rfl
  | n :: r, h => by
    show (PyData.strOk n && PyData.canLayAll0 (r.map PyData.str)) = true
    rw [h n (List.mem_cons_self ..), lay_strs r fun x hx => h x (List.mem_cons_of_mem _ hx)]
    rfl
theorem dep_ints : ∀ ns : List Int, PyData.depthAll (ns.map PyData.int) ≤ 1
  | [] => by decide
  | n :: r => Nat.max_le.mpr ⟨by show PyData.depth (.int n) ≤ 1; simp [PyData.depth], dep_ints r⟩
theorem dep_strs : ∀ ns : List Str, PyData.depthAll (ns.map PyData.str) ≤ 1
  | [] => by decide
  | n :: r => Nat.max_le.mpr ⟨by show PyData.depth (.str n) ≤ 1; simp [PyData.depth], dep_strs r⟩
theorem shaped_ints (ns : List Int) : SeqAt.shaped (.list (ns.map PyData.int)) = true := by
  have h := dep_ints ns
  have h2 : (PyData.list (ns.map PyData.int)).depth ≤ 64 := by simp only [PyData.depth]; omega
  have h3 : (PyData.list (ns.map PyData.int)).canLay0 = true := by simp only [PyData.canLay0]; exact lay_ints ns
  simp [SeqAt.shaped, h2, h3]
theorem shaped_strsT (ns : List Str) (h0 : ∀ x ∈ ns, PyData.strOk x = true) : SeqAt.shaped (.tuple (ns.map PyData.str)) = true := by
  have h := dep_strs ns
  have h2 : (PyData.tuple (ns.map PyData.str)).depth ≤ 64 := by simp only [PyData.depth]; omega
  have h3 : (PyData.tuple (ns.map PyData.str)).canLay0 = true := by simp only [PyData.canLay0]; exact lay_strs ns h0
  simp [SeqAt.shaped, h2, h3]
theorem shaped_nil : SeqAt.shaped (.list []) = true := shaped_ints []
theorem eqv_nil {ds : List PyData} : PyData.eqv (.list ds) (.list []) = ds.isEmpty := by
  cases ds <;> simp [PyData.eqv, PyData.eqvAll]
theorem eqvAll_strs : ∀ (a b : List Str), PyData.eqvAll (a.map PyData.str) (b.map PyData.str) = decide (a = b)
  | [], [] => by simp [PyData.eqvAll]
  | [], _ :: _ => by simp [PyData.eqvAll]
  | _ :: _, [] => by simp [PyData.eqvAll]
  | x :: a, y :: b => by
    simp only [List.map_cons, PyData.eqvAll, PyData.eqv, eqvAll_strs a b]
    by_cases e : x = y
    · subst e; simp
    · simp [e]
section
variable {H : Hp} {Q : VK} {K : PySem.W.Frag} {p q : Addr}
theorem v_neNilI {ns : List Int} (h : H p = some (.lst (ns.map V.int))) (hq : H q = some (.lst [])) (k : Q (.bl (!ns.isEmpty)) H) : rNeD K (.ref p) (.ref q) H Q := by
  refine ⟨.list (ns.map PyData.int), .list [], .lst (SqL.of h) (dp_ints ns), .lst (SqL.of hq) .nil, shaped_ints ns, shaped_nil, ?_⟩
  rw [eqv_nil, List.isEmpty_map]
  exact k
end
theorem ok_tx {l : List Nat} (h : ∀ c ∈ l, c < 1000) : PyData.strOk (tx l) = true := by
  show (l.toArray).all (fun c => decide (c < 0x110000)) = true
  rw [List.all_toArray, List.all_eq_true]
  intro c hc
  have := h c hc
  simp
  omega
theorem wdiv {i m : Int} (h : 0 < m) (h2 : m < 1000000) : CDivW i m := wide_div (b := 20) h (by omega) (by decide) (by decide)
end Cw
set_option Elab.async false
set_option linter.all false
set_option maxRecDepth 100000
set_option maxHeartbeats 4000000
/-! set(text), len(set(..)): a set of texts out of anything that is walked. -/
namespace Cw
open PySem PySem.Spec L2
/-- the different ones, in the order in which they are met -/
def metAdd (l : List Str) (z : Str) : List Str := if z ∈ l then l else l ++ [z]
def metOf (l : List Str) : List Str := l.foldl metAdd []
theorem metAdd_mem {l : List Str} {z y : Str} : y ∈ metAdd l z ↔ y ∈ l ∨ y = z := by
  unfold metAdd
  by_cases h : z ∈ l
  · rw [if_pos h]
    exact ⟨Or.inl, fun k => k.elim id fun e => e ▸ h⟩
  · rw [if_neg h, List.mem_append, List.mem_singleton]
theorem metOf_snoc (l : List Str) (z : Str) : metOf (l ++ [z]) = metAdd (metOf l) z := by
  unfold metOf
  rw [List.foldl_append]
  rfl
theorem metAdd_len (l : List Str) (z : Str) : (metAdd l z).length = if z ∈ l then l.length else l.length + 1 := by
  unfold metAdd
  split <;> simp
theorem metFold_len : ∀ (l acc : List Str), (l.foldl metAdd acc).length ≤ acc.length + l.length
  | [], acc => Nat.le_refl _
  | z :: r, acc => by
    have h1 := metFold_len r (metAdd acc z)
    have h2 := metAdd_len acc z
    rw [List.foldl_cons, List.length_cons]
    split at h2 <;> omega
theorem metOf_len (l : List Str) : (metOf l).length ≤ l.length := by
  have h := metFold_len l []
  simp only [List.length_nil, Nat.zero_add] at h
  exact h
theorem metFold_nodup : ∀ (l acc : List Str), (acc ++ l).Nodup → l.foldl metAdd acc = acc ++ l
  | [], acc, _ => by simp
  | z :: r, acc, h => by
    have hz : ¬ z ∈ acc := fun m => by
      have := (List.nodup_append.mp h).2.2 z m z (List.mem_cons_self ..)
      exact this rfl
    have e : metAdd acc z = acc ++ [z] := by unfold metAdd; rw [if_neg hz]
    rw [List.foldl_cons, e, metFold_nodup r (acc ++ [z]) (by simpa using h)]
    simp
theorem metOf_nodup {l : List Str} (h : l.Nodup) : metOf l = l := by
  unfold metOf
  rw [metFold_nodup l [] (by simpa using h)]
  rfl
/-- fewer, where one comes twice -/
theorem metFold_lt : ∀ (l acc : List Str), acc.Nodup → (¬ l.Nodup ∨ ∃ z, z ∈ l ∧ z ∈ acc) → (l.foldl metAdd acc).length < acc.length + l.length
  | [], acc, _, h => by
    rcases h with h | ⟨z, h, _⟩
    · exact absurd List.nodup_nil h
    · cases h
  | z :: r, acc, ha, h => by
    rw [List.foldl_cons, List.length_cons]
    have hl := metAdd_len acc z
    by_cases hz : z ∈ acc
    · rw [if_pos hz] at hl
      have h1 := metFold_len r (metAdd acc z)
      omega
    · rw [if_neg hz] at hl
      have e : metAdd acc z = acc ++ [z] := by unfold metAdd; rw [if_neg hz]
      have nd : (metAdd acc z).Nodup := by
        rw [e]
        exact nd_snoc ha hz
      have k : ¬ r.Nodup ∨ ∃ y, y ∈ r ∧ y ∈ metAdd acc z := by
        rcases h with h | ⟨y, h1, h2⟩
        · rw [List.nodup_cons] at h
          by_cases hr : z ∈ r
          · exact Or.inr ⟨z, hr, by rw [e]; simp⟩
          · exact Or.inl fun n => h ⟨hr, n⟩
        · rcases List.mem_cons.mp h1 with q | q
          · exact absurd (q ▸ h2) hz
          · exact Or.inr ⟨y, q, by rw [e]; simp [h2]⟩
      have h1 := metFold_lt r (metAdd acc z) nd k
      omega
theorem metOf_lt {l : List Str} (h : ¬ l.Nodup) : (metOf l).length < l.length := by
  have k := metFold_lt l [] List.nodup_nil (Or.inl h)
  simp only [List.length_nil, Nat.zero_add] at k
  exact k
/-- the set at a holds just the texts of l -/
abbrev SetIs (P : Program) (w : World) (h : Heap) (a : Addr) (l : List Str) : Prop := h.SetOf (PySem.strKind P w) a (fun z => decide (z ∈ l)) l.length
theorem SetIs.at {P : Program} {w : World} {h h' : Heap} {a : Addr} {l : List Str} (R : SetIs P w h a l) (k : ∀ o, h.get? a = some o → h'.get? a = some o) : SetIs P w h' a l := by
  obtain ⟨o, es, ep, t, ho, r⟩ := R
  exact ⟨o, es, ep, t, k o ho, r⟩
section
variable {P : Program} {w : World} {A : Around} {R : Result → Shared → Prop} {J : Addr} {fp wr : List Addr} {n : Nat} {Y : Nat → Value → Prop} {St : Nat → Heap → Prop}
theorem set_loop (W : Walks P w A.in1 J fp wr n Y St) (S : Addr) (hS : S ∉ fp) (xs : List Str) (hn : xs.length = n) (hy : ∀ i v, Y i v → ∃ x t, xs[i]? = some x ∧ v = .str x t) (hb : n + 1 < scanBound) :
    ∀ (k i : Nat) (s : Shared), n - i = k → i ≤ n → St i s.heap → SetIs P w s.heap S (metOf (xs.take i)) →
      (∀ h' tk, (∀ b o, b ∉ S :: wr → s.heap.get? b = some o → h'.get? b = some o) → SetIs P w h' S (metOf xs) → R (.ok (.ret .none)) { s with heap := h', toks := tk }) →
      codeAny (model P w) A (.builtin "set.update.loop" ⟨[.ref S, .ref J], []⟩) R s := by
  have hw : S ∉ wr := fun h => hS (W.sub _ h)
  intro k
  induction k with
  | zero =>
    intro i s hk hi st hset q
    have e : i = n := by omega
    subst e
    refine codeAny_builtin PyProof.Rows.F.entry_set_update_loop ?_
    rw [Around.under_plainId PyProof.Rows.F.plain_set_update_loop _]
    show wpAny _ A.in1 (pyNext (.ref J) >>= _) _ _ s
    refine wpAny_bind (W.done s _ _ st fun h' tk kp => ?_)
    show wpAny _ A.in1 (ret Value.none) _ _ _
    refine wpAny_pure (q h' tk (fun b o nb eb => kp b o (fun z => nb (List.mem_cons_of_mem _ z)) eb) ?_)
    rw [List.take_of_length_le (by omega)] at hset
    exact hset.at fun o eo => kp S o hw eo
  | succ k ih =>
    intro i s hk hi st hset q
    have hlt : i < n := by omega
    refine codeAny_builtin PyProof.Rows.F.entry_set_update_loop ?_
    rw [Around.under_plainId PyProof.Rows.F.plain_set_update_loop _]
    show wpAny _ A.in1 (pyNext (.ref J) >>= _) _ _ s
    refine wpAny_bind (W.item i s _ _ hlt st fun v h1 tk hv st1 kp => ?_)
    obtain ⟨x, t, hx, rfl⟩ := hy i v hv
    have hset1 := hset.at (h' := h1) fun o eo => kp S o hw eo
    show wpAny _ A.in1 (holding [Value.str x t] (setAdd S (.str x t)) >>= _) _ _ _
    refine wpAny_bind (wpAny_holding ?_)
    unfold setAdd
    refine wpAny_holding (wpAny_bind ((PySem.strKind P w).pyHash (k := x) (strKind_is _ _ _ _) ?_))
    have hroom : (metOf (xs.take i)).length + 1 < scanBound := by
      have h2 := metOf_len (xs.take i)
      rw [List.length_take] at h2
      omega
    refine wpAny_setAddHashed_of (knd := PySem.strKind P w) (s := { heap := h1, gens := s.gens, drawn := s.drawn, toks := tk + 1, os := s.os }) (strKind_is _ _ _ _) rfl hset1 hroom fun h2 sb hset2 => ?_
    have e1 : xs.take (i + 1) = xs.take i ++ [x] := by
      rw [List.take_add_one, hx]
      rfl
    have hset3 : SetIs P w h2 S (metOf (xs.take (i + 1))) := by
      refine PyProof.Rows.SetOf_congr hset2 (fun z => ?_) ?_
      · rw [e1, metOf_snoc, Bool.eq_iff_iff]
        simp only [Bool.or_eq_true, decide_eq_true_eq]
        exact metAdd_mem.symm
      · rw [e1, metOf_snoc, metAdd_len]
        simp only [decide_eq_true_eq]
    refine wpAny_pure ⟨plainId_quiet PyProof.Rows.F.plain_set_update_loop _, ih (i + 1) _ (by omega) hlt (W.frame _ _ _ st1 fun b hb o eo => ?_) hset3 fun h3 tk3 kp3 hs3 => ?_⟩
    · rw [sb.2 b fun z => hS (z ▸ hb)]
      exact eo
    · refine q h3 tk3 (fun b o nb eb => kp3 b o nb ?_) hs3
      show h2.get? b = some o
      rw [sb.2 b fun z => nb (z ▸ List.mem_cons_self ..)]
      exact kp b o (fun z => nb (List.mem_cons_of_mem _ z)) eb
end

/-! ### the call -/
abbrev freshSet (b : Bool) : Obj := { cls := .type "set", dict := none, data := .set #[] 0 (.fresh 0 0 b) }
section
variable {P : Program} {w : World} {A : Around} {E : Value → Shared → Prop} {s : Shared}
theorem set_of_text {x : Str} {t : Tok} {Q : Value → Shared → Prop} (hh : A.handled = none) (hb : x.cps.size + 1 < scanBound)
    (h : ∀ (h' : Heap) (tk : Nat), SetIs P w h' s.heap.objs.size (metOf (x.cps.toList.map fun c => (⟨#[c]⟩ : Str))) → (∀ b o, b < s.heap.objs.size → s.heap.get? b = some o → h'.get? b = some o) → Q (.ref s.heap.objs.size) { s with heap := h', toks := tk }) :
    wpAny (model P w) A (call (.type "set") [.str x t]) Q E s := by
  obtain ⟨c, tl, hmro⟩ := PySem.F.called_set.mro
  have hmade := PySem.F.called_set.made
  have hsub := PySem.F.called_set.sub
  refine wpAny_call (codeAny_of_tree ?_)
  show wpAny _ _ (callAny (.type "set") _) _ _ _
  refine wpAny_pure ⟨Code.quiet_builtin _ (by decide +kernel), codeAny_builtin PySem.F.entry_type_call ?_⟩
  rw [Around.under_plain (weight_type_call_type "set" [.str x t] []) rfl]
  have h1 := PySem.F.called_set.notType
  have h2 := PySem.F.called_set.canCreate
  have hct := PySem.F.typeCall_set_1 (.str x t)
  repeat (any_goals (first | assumption | wp_step))
  refine codeAny_mono (code_set_new_1 (.str x t) (E := E) (Q₁ := fun obj s1 => ∃ b : Bool, obj = .ref s.heap.objs.size ∧ s1 = { s with heap := s.heap.push (freshSet b) }) fun b => ⟨b, rfl, rfl⟩) fun r s1 hr => ?_
  cases r with
  | error e => exact hr
  | ok fl =>
    cases fl with
    | ret obj =>
      obtain ⟨b, rfl, rfl⟩ := hr
      have hS : (s.heap.push (freshSet b)).get? s.heap.objs.size = some (freshSet b) := Heap.get?_push_size _ rfl
      have hT : Shared.TypeIs { s with heap := s.heap.push (freshSet b) } (.ref s.heap.objs.size) "set" := ⟨_, hS, rfl⟩
      have hli := PySem.F.called_set.init.lookup
      have hbi := PySem.F.called_set.init.bind (.ref s.heap.objs.size)
      repeat (any_goals (first | assumption | wp_step))
      refine codeAny_mono (codeAny_call_builtin (R := wants (fun r s2 => r = .none ∧ ∃ h' tk, s2 = { s with heap := h', toks := tk } ∧ SetIs P w h' s.heap.objs.size (metOf (x.cps.toList.map fun c => (⟨#[c]⟩ : Str))) ∧
          (∀ b o, b < s.heap.objs.size → s.heap.get? b = some o → h'.get? b = some o)) E) PySem.F.called_set.init.plain PySem.F.entry_set_init (check_set_init_1 hT ?_)) fun r2 s2 hr2 => ?_
      · have k1 := F.sub_str_set
        have k2 := F.sub_str_frozenset
        have k3 : (Value.type "str" == Value.type "dict") = false := by decide
        unfold Builtin.«set.__init__» noKeywords Builtin.Frozenset.updateFrom
        generalize hPI : pyIter = PI
        wp_walk
        subst hPI
        refine wpAny_pyIter_str fun ob St hw st => ?_
        refine wpAny_bind (wpAny_runValue ?_)
        have hh3 : A.in1.in1.in1.handled = none := by simp [hh]
        have hne : s.heap.objs.size ∉ [(s.heap.push (freshSet b)).objs.size] := by
          rw [Heap.size_push, List.mem_singleton]
          exact Nat.ne_of_lt (Nat.lt_succ_self _)
        refine set_loop (hw _ hh3) s.heap.objs.size hne (x.cps.toList.map fun c => (⟨#[c]⟩ : Str)) (by simp) (fun i v hv => ?_) hb _ 0 _ rfl (Nat.zero_le _) st ?_ fun h' tk kp hs => ?_
        · obtain ⟨c, u, hc, rfl⟩ := hv
          exact ⟨⟨#[c]⟩, u, by simp [hc], rfl⟩
        · have hg : ((s.heap.push (freshSet b)).push ob).get? s.heap.objs.size = some (freshSet b) := Heap.get?_push_of_some _ hS
          exact PyProof.Rows.SetOf_congr ((PyProof.Rows.setObjOf_fresh (knd := PySem.strKind P w) b).setOf hg (by unfold scanBound; omega)) (fun z => by simp [metOf]) rfl
        · refine wpAny_pure ?_
          show wpAny _ _ (ret Value.none) _ _ _
          refine wpAny_pure ⟨rfl, h', tk, rfl, hs, fun a o ha eo => kp a o ?_ (Heap.get?_push_of_some _ (Heap.get?_push_of_some _ eo))⟩
          rw [Heap.size_push]
          simp only [List.mem_cons, List.not_mem_nil, or_false, not_or]
          exact ⟨Nat.ne_of_lt ha, Nat.ne_of_lt (Nat.lt_succ_of_lt ha)⟩
      · cases r2 with
        | error e => exact hr2
        | ok fl2 =>
          cases fl2 with
          | ret r =>
            obtain ⟨rfl, h', tk, rfl, hs', hk'⟩ := hr2
            repeat (any_goals (first | assumption | wp_step))
            exact h _ _ hs' hk'
          | _ => exact hr2.elim
    | _ => exact hr.elim
end
/-! ### over the layer -/
/-- a set of texts -/
def SetT (P : Program) (w : World) (a : Addr) (l : List Str) : HO := .ext fun h => SetIs P w h a l
theorem setT_new {P : Program} {w : World} {H : Hp} {h : Heap} {a : Addr} {l : List Str} (R : SetIs P w h a l) : ObjOk P w H h a (SetT P w a l) := by
  have ⟨o, _, _, _, ho, _⟩ := R
  exact ⟨R, ⟨o, ho⟩, fun h1 h2 q k => SetIs.at q k⟩
def rSetTx (P : Program) (w : World) : List V → Hp → VK → Prop := fun xs H Q => ∃ l : List Nat, xs = [.str (tx l)] ∧ l.length + 1 < scanBound ∧ ∀ p, H p = none → Q (.ref p) (upd H p (SetT P w p (metOf (l.map fun c => tx [c]))))
def rLenSet (P : Program) (w : World) : List V → Hp → VK → Prop := fun xs H Q => ∃ (p : Addr) (l : List Str), xs = [.ref p] ∧ H p = some (SetT P w p l) ∧ Q (.int l.length) H
section
variable {X : Cx}
theorem c_setS (hc : X.calm = true) : CallR X (.type "set") (rSetTx X.prog X.w) := by
  intro pins s σ H xs us Q I r h
  obtain ⟨l, rfl, hl, q⟩ := h
  obtain ⟨u, rfl, t, rfl⟩ := vals1 r
  refine set_of_text (I.ok.hd hc) (by simpa using hl) fun h' tk hs hk => ?_
  have hp : H s.heap.objs.size = none := I.hok.fresh (Nat.le_refl _)
  refine ⟨.ref s.heap.objs.size, upd H s.heap.objs.size (SetT X.prog X.w s.heap.objs.size (metOf (l.map fun c => tx [c]))), I.laid (h' := h') (t' := tk) (fun b o e => hk b o (Heap.lt_size e) e) (Nat.le_refl _) (setT_new ?_), rfl, q _ hp⟩
  simpa using hs
theorem c_lenSet : CallR X (.builtin "len") (rLenSet X.prog X.w) := by
  intro pins s σ H xs us Q I r h
  obtain ⟨p, l, rfl, hp, q⟩ := h
  obtain ⟨u, rfl, ru⟩ := vals1 r
  cases ru
  have hs : SetIs X.prog X.w s.heap p l := (I.hok p _ hp).1
  obtain ⟨o, es, ep, t, ho, hex, hd, h1, h2, h3, hf, hn⟩ := hs
  refine call_len_set ho hex hd hf ?_ ⟨.int l.length, H, I.tok _, ⟨_, by rw [hn]⟩, q⟩
  have : es.size < scanBound := h3
  unfold scanBound at this
  omega
end
theorem v_setS {P : Program} {w : World} {H : Hp} {Q : VK} {l : List Nat} (h : l.length < 1000) (q : ∀ p H', H p = none → Same H H' → H' p = some (SetT P w p (metOf (l.map fun c => tx [c]))) → Q (.ref p) H') : rSetTx P w [.str (tx l)] H Q :=
  ⟨l, rfl, by unfold scanBound; omega, fun p hp => q p _ hp (Same.new hp) upd_same⟩
theorem v_lenSet {P : Program} {w : World} {H : Hp} {Q : VK} {p : Addr} {l : List Str} (h : H p = some (SetT P w p l)) (q : Q (.int l.length) H) : rLenSet P w [.ref p] H Q := ⟨p, l, rfl, h, q⟩
end Cw
set_option Elab.async false
set_option linter.all false
set_option maxRecDepth 100000
set_option maxHeartbeats 4000000
/-! operators of classes of one's own -/
namespace PySem.W
open PySem PySem.Calls PyProof.Rows Builtin
section
variable {prog : Program} {w : World} {A : Around} {E : Value → Shared → Prop} {s : Shared} {K : Frag} {x C L f : Addr} {h0 : Heap} {m : Str → Option Value} {ox : Obj} {od : Option Obj} {b tb : Value}
theorem ifBound_obj {M : Model} {args : List Value} {name : Str} {id : String} {Q : Option Value → Shared → Prop} (X : K.In s.heap) (I : InstAt s.heap x ox C od) (hs : findIn K (.ref C) name = some (some (.builtin id)))
    (hbd : ∀ v, bindSpecial (.builtin id) v = pure (.builtin id, [v])) (h : wpAny M A (call (.builtin id) (.ref x :: args)) (fun v => Q (some v)) E s) : wpAny M A (callSpecialIfBound? (.ref x) name args) Q E s := by
  simp only [callSpecialIfBound?, bindSpecialIfBound?]
  refine wpAny_holding (wpAny_bind (wpAny_bind (wpAny_bind (I.type.here ((looks_findIn X hs).here ?_)))))
  have e := hbd (.ref x)
  simp only [e]
  have k : wpAny M A (call (.builtin id) ([.ref x] ++ args) >>= fun v => pure (some v)) Q E s := wpAny_bind (wpAny_mono h (fun _ _ z => wpAny_pure z) fun _ _ z => z)
  refine wpAny_bind (wpAny_askSetting (wpAny_ite ?_))
  split
  · exact wpAny_bind (wpAny_pure (wpAny_pure k))
  · exact wpAny_tryCatch (wpAny_bind (wpAny_pure (wpAny_pure k)))
theorem check_obj {M : Model} {id owner n : String} {rest : List Value} {Q : Unit → Shared → Prop} (X : K.In s.heap) (I : InstAt s.heap x ox C od) (hk : builtinKind id = some .slot) (hs : splitId id = some (owner, n))
    (ha : argsOk id ⟨.ref x :: rest, []⟩) (ho : subIn K (.ref C) (.type owner) = some true) (q : Q () s) : wpAny M A (checkBuiltinCall id ⟨.ref x :: rest, []⟩) Q E s := by
  simp only [checkBuiltinCall, hk, hs]
  unfold isInstance
  refine wpAny_bind (wpAny_bind (I.type.here ((looks_subIn X ho).here ?_)))
  rw [if_neg (by simp)]
  cases hsig : Manifest.signature? id with
  | none => exact wpAny_pure q
  | some sig =>
    simp only [argsOk, hsig] at ha
    have h2 : Bind.checkArgs id sig ⟨.ref x :: rest, []⟩ = pure () := ha
    show wpAny M A (Bind.checkArgs id sig ⟨.ref x :: rest, []⟩) Q E _
    rw [h2]
    exact wpAny_pure q
theorem neBody (X : K.In s.heap) (I : InstAt s.heap x ox C od) (hu : A.units < cLine) (hs : findIn K (.ref C) "__eq__" = some (some (.ref f))) (hf : isFn K (.ref f) = true) {Q : Fin → Shared → Prop}
    (h : wpAny (model prog w) A (call (.ref f) [.ref x, b]) (fun v s' => ∃ r, v = .bool r ∧ Q (.done (.ret (.bool (!r)))) s') E s) : wpAny (model prog w) A (Builtin.«object.__ne__» ⟨[.ref x, b], []⟩) Q E s := by
  unfold Builtin.«object.__ne__»
  refine wpAny_bind (m := slotArgs "__ne__" 1 _) (wpAny_pure ?_)
  refine wpAny_bind (wpAny_cRoomFor hu ?_)
  refine wpAny_bind (m := callSpecialIfBound? (.ref x) (Str.ofString "__eq__") [b]) (ifBound_K X I hs hf (wpAny_mono h (fun v s' z => ?_) fun _ _ z => z))
  obtain ⟨r, rfl, z⟩ := z
  exact wpAny_bind (wpAny_truthy_bool (wpAny_pure z))
/-- != of an object whose class has its own == and no != -/
theorem ne_own {Q : Value → Shared → Prop} (hu : A.units + 1 < cLine) (F : Fr h0 L s.heap m) (X0 : K.In h0) (I : InstAt s.heap x ox C od) (hb : Looks (model prog w) s.heap (typeOf b) tb) (hn : notFirst K C tb = true)
    (hne : findIn K (.ref C) "__ne__" = some (some (.builtin "object.__ne__"))) (ho : subIn K (.ref C) (.type "object") = some true) (hs : findIn K (.ref C) "__eq__" = some (some (.ref f))) (hf : isFn K (.ref f) = true)
    (h : wpAny (model prog w) A.in1 (call (.ref f) [.ref x, b]) (fun v s' => ∃ r, v = .bool r ∧ Q (.bool (!r)) s') E s) : wpAny (model prog w) A (richCompare .NotEq (.ref x) b) Q E s := by
  have X := X0.keeps F.keep
  have pl : plainId "object.__ne__" = true := by decide +kernel
  have one : wpAny (model prog w) A (tryCompare (.ref x) (cmpInfo .NotEq).2.1 b) (fun r s' => ∃ v, r = some v ∧ Q v s') E s := by
    unfold tryCompare
    refine wpAny_bind (ifBound_obj X I (id := "object.__ne__") hne (fun v => ?_) ?_)
    · exact (PySem.F.slot_tuple_iterator_ne).bind v
    · refine wpAny_call (codeAny_call_builtin pl PySem.F.cmpEntry_ne (check_obj X I PySem.F.cmpKind_ne PySem.F.cmpSplit_ne (PySem.F.cmpArgs_ne _ _) ho ?_))
      refine neBody (A := A.in1) X I hu hs hf (wpAny_mono h (fun v s' z => ?_) fun _ _ z => z)
      obtain ⟨r, rfl, z⟩ := z
      exact ⟨r, rfl, wpAny_pure ⟨_, rfl, z⟩⟩
  unfold richCompare
  simp only [oneThing_ref]
  refine wpAny_holding (wpAny_bind (wpAny_cRoomFor (Nat.lt_of_succ_lt hu) ?_))
  refine wpAny_bind (I.type.here (wpAny_bind (hb.here ?_)))
  have k : ∀ z : Bool, z = false → wpAny (model prog w) A (tryCompare (.ref x) (cmpInfo .NotEq).2.1 b) (fun r s' => ∃ v, r = some v ∧ Q v s') E s := fun _ _ => one
  split
  · rename_i q
    have e : subIn K tb (.ref C) = some false := by
      rcases Bool.or_eq_true_iff.mp hn with e | e
      · rw [beq_iff_eq.mp e] at q; simp at q
      · exact beq_iff_eq.mp e
    refine wpAny_bind ((looks_subIn X e).here ?_)
    simp only [Bool.false_eq_true, if_false]
    refine wpAny_bind (wpAny_mono one (fun r s' z => ?_) fun _ _ e => e)
    obtain ⟨v, rfl, z⟩ := z
    exact wpAny_pure z
  · refine wpAny_bind (wpAny_pure ?_)
    simp only [Bool.false_eq_true, if_false]
    refine wpAny_bind (wpAny_mono one (fun r s' z => ?_) fun _ _ e => e)
    obtain ⟨v, rfl, z⟩ := z
    exact wpAny_pure z
end
end PySem.W
set_option Elab.async false
set_option linter.all false
set_option maxRecDepth 100000
set_option maxHeartbeats 4000000
namespace Cw
open PySem PySem.Spec L2
/-! ### methods -/
structure MAt (K : PySem.W.Frag) (C : Addr) (m qual : Str) (st : Stmt) : Prop where
  ex : ∃ f fd, PySem.W.findIn K (.ref C) m = some (some (.ref f)) ∧ PySem.W.isFn K (.ref f) = true ∧ Fun K m qual st f fd
structure MDef (P : Program) (w : World) (K : PySem.W.Frag) (mg : Str → Option Value) (base : Heap) (CX : CXT) (k : Nat) (C : Addr) (m : Str) (ps : List Str) (sp : Sp) : Prop where
  ex : ∃ f fd, PySem.W.findIn K (.ref C) m = some (some (.ref f)) ∧ PySem.W.isFn K (.ref f) = true ∧ PySem.W.keepIn K (.ref f) = true ∧ Bd K f fd ps ∧ FnOk P w K mg base CX k f fd ps sp
section
variable {P : Program} {w : World} {K : PySem.W.Frag} {mg : Str → Option Value} {base : Heap} {CX : CXT} {k : Nat} {C : Addr} {m qual : Str} {ps N : List Str} {sp : Sp} {st : Stmt}
theorem MDef.mono {j : Nat} (D : MDef P w K mg base CX j C m ps sp) (h : j ≤ k) : MDef P w K mg base CX k C m ps sp := by
  obtain ⟨f, fd, a, b, c, d, e⟩ := D.ex
  exact ⟨f, fd, a, b, c, d, e.mono h⟩
theorem MDef.imp {sp' : Sp} (D : MDef P w K mg base CX k C m ps sp) (h : ∀ vs H Q E, sp' vs H Q E → sp vs H Q E) : MDef P w K mg base CX k C m ps sp' := by
  obtain ⟨f, fd, a, b, c, d, e⟩ := D.ex
  exact ⟨f, fd, a, b, c, d, e.imp h⟩
theorem MAt.ok (F : MAt K C m qual st) (S : FnScope N ps (defScope st))
    (hb : ∀ (kV doc pm : Value) (an : Option Addr) (cdv ct : Value) (us : List Value), us.length = ps.length → bindArgs (PySem.W.fnOf m qual (defArgs st) (defBody st) (defScope st) .none kV doc pm an cdv ct) ⟨us, []⟩ = pure (ps.zip us))
    (len : ∀ vs H Q E, sp vs H Q E → vs.length = ps.length)
    (hbody : ∀ (f : Addr) (cdv : Value) (A : Around) (outer : List Env) (s : Shared) (H : Hp) (vs : List V) (Q : VK) (E : XK), Room k (A.deeper (PyProof.Rows.envOfC qual (defScope st) s.heap.objs.size f cdv)) → sp vs H Q E →
      ∃ t, PSs (cxOf CX0 P w K mg base N qual (defScope st) f cdv A outer s H E).nox (defBody st) t ∧ t { nx := fun _ H' => Q .non H', rt := Q } (start N vs) H) : MDef P w K mg base CX0 (k + 1) C m ps sp := by
  obtain ⟨f, fd, h1, h2, F⟩ := F.ex
  exact ⟨f, fd, h1, h2, F.kp, ⟨F.binds hb, funLk F⟩, F.ok S len fun cdv A outer s H vs Q E hr h => hbody f cdv A outer s H vs Q E hr h⟩
theorem MAt.okX (F : MAt K C m qual st) (S : FnScope N ps (defScope st))
    (hb : ∀ (kV doc pm : Value) (an : Option Addr) (cdv ct : Value) (us : List Value), us.length = ps.length → bindArgs (PySem.W.fnOf m qual (defArgs st) (defBody st) (defScope st) .none kV doc pm an cdv ct) ⟨us, []⟩ = pure (ps.zip us))
    (len : ∀ vs H Q E, sp vs H Q E → vs.length = ps.length)
    (hbody : ∀ (f : Addr) (cdv : Value) (A : Around) (outer : List Env) (s : Shared) (H : Hp) (vs : List V) (Q : VK) (E : XK), Room k (A.deeper (PyProof.Rows.envOfC qual (defScope st) s.heap.objs.size f cdv)) → sp vs H Q E →
      ∃ t, PSs (cxOf (L2.CX P w) P w K mg base N qual (defScope st) f cdv A outer s H E) (defBody st) t ∧ t { nx := fun _ H' => Q .non H', rt := Q } (start N vs) H) : MDef P w K mg base (L2.CX P w) (k + 1) C m ps sp := by
  obtain ⟨f, fd, h1, h2, F⟩ := F.ex
  exact ⟨f, fd, h1, h2, F.kp, ⟨F.binds hb, funLk F⟩, F.okX S len fun cdv A outer s H vs Q E hr h => hbody f cdv A outer s H vs Q E hr h⟩
end
section
variable {X : Cx} {CX : CXT} {k : Nat} {C : Addr} {m : Str} {ps : List Str} {sp : Sp} {E : XK} {pos apos : PySem.Pos} {o e : Expr} {es : List Expr} {ta : TE} {t : TA}
theorem pe_md {pl : Sem Bool} (D : MDef X.prog X.w X.K X.mg X.base CX k C m ps sp) (c : Cls X.K C) (hr : Room k X.A) (hx : Passes CX X E) (he : PE X o ta) (ha : PA X (e :: es) t)
    (hst : starEach (e :: es) X.env = (false, eval e X.env) :: starEach es X.env := by rfl) (hpl : (backTo pos (starEach es X.env)).any (·.1) = false := by rfl)
    (ht : eval (.Call (.Attribute o m apos) (e :: es) [] pos) X.env = (do
      let ov ← eval o X.env
      standAt apos.atName
      let (f, first) ← holding [ov] (getMethod ov m pl)
      callWith pos f first (backTo pos (starEach (e :: es) X.env)) (backToKw pos (keywordEach [] X.env))) := by rfl) :
    PE X (.Call (.Attribute o m apos) (e :: es) [] pos) (tMeth C m sp [] E ta t) := by
  obtain ⟨f, fd, a, b, kp, ⟨d, _⟩, g⟩ := D.ex
  exact pe_meth (pl := pl) he c ⟨a, b, kp⟩ g hr d .nil hx ha hst hpl ht
def rM2n (C : Addr) (sp : Sp) (E : XK) : R2 := fun x y H Q => ∃ a b dx dy fs gs, x = .ref a ∧ y = .ref b ∧ H a = some (.ins C dx fs) ∧ H b = some (.ins C dy gs) ∧ sp [.ref a, .ref b] H (fun v H' => ∃ r, v = .bl r ∧ Q (.bl (!r)) H') E
theorem op_neM (D : MDef X.prog X.w X.K X.mg X.base CX k C "__eq__" ps sp) (hne : PySem.W.findIn X.K (.ref C) "__ne__" = some (some (.builtin "object.__ne__"))) (ho : PySem.W.subIn X.K (.ref C) (.type "object") = some true)
    (hr : Room (k + 1) X.A) (hx : Passes CX X E) : OpR X (compareOp .NotEq) (rM2n C sp E) := by
  obtain ⟨f, fd, h1, h2, kp, ⟨hb, _⟩, F⟩ := D.ex
  intro pins s σ H x y v u Q I rx ry h
  obtain ⟨a, b, dx, dy, fs, gs, rfl, rfl, ha, hb', hq⟩ := h
  cases rx
  cases ry
  obtain ⟨mA, J, _⟩ := ins_get I.hok ha
  obtain ⟨mB, J', _⟩ := ins_get I.hok hb'
  obtain ⟨od, J, _⟩ := J.look
  obtain ⟨od', J', _⟩ := J'.look
  obtain ⟨mm, hF⟩ := I.fr
  show wpAny (model X.prog X.w) X.A (richCompare .NotEq _ _) _ _ _
  refine PySem.W.ne_own (tb := .ref C) (hu_of hr) hF I.ok.mod.kin J J'.type (by simp [PySem.W.notFirst]) hne ho h1 h2 ?_
  have hl := F.len _ _ _ _ hq
  have r2 : Vals [V.ref a, V.ref b] [Value.ref a, Value.ref b] := .cons rfl (.cons rfl .nil)
  refine wpAny_call (codeAny_mono (F.run X.A.in1 X.stack s H ⟨[.ref a, .ref b], []⟩ [.ref a, .ref b] [.ref a, .ref b] _ E hr.in1 I.env0.in1 (by
    have := hb s [.ref a, .ref b] I.kIn (by simpa using hl)
    simpa using this) r2 hq) fun r s' hq => ?_)
  cases r with
  | error e => exact hx pins σ H s e s' I hq
  | ok fl =>
    cases fl with
    | ret w =>
      obtain ⟨z, H', I', rz, r, ez, q⟩ := I.after hq
      subst ez
      cases rz
      exact ⟨r, rfl, ⟨.bl (!r), H', I', rfl, q⟩⟩
    | next => exact False.elim hq
    | brk => exact False.elim hq
    | cont => exact False.elim hq
/-- len(o) -/
def rLenM (C : Addr) (sp : Sp) (E : XK) : List V → Hp → VK → Prop := fun xs H Q => ∃ a dx fs, xs = [.ref a] ∧ H a = some (.ins C dx fs) ∧ sp [.ref a] H (fun v H' => ∃ n : Nat, v = .int n ∧ n < 1000000 ∧ Q (.int n) H') E
theorem c_lenM (D : MDef X.prog X.w X.K X.mg X.base CX k C "__len__" ps sp) (hr : Room (k + 1) X.A) (hx : Passes CX X E) : CallR X (.builtin "len") (rLenM C sp E) := by
  obtain ⟨f, fd, h1, h2, kp, ⟨hb, _⟩, F⟩ := D.ex
  intro pins s σ H xs us Q I r h
  obtain ⟨a, dx, fs, rfl, ha, hq⟩ := h
  obtain ⟨u, rfl, ru⟩ := vals1 r
  cases ru
  obtain ⟨mA, J, _⟩ := ins_get I.hok ha
  obtain ⟨od, J, _⟩ := J.look
  obtain ⟨mm, hF⟩ := I.fr
  refine PySem.W.len_K hF I.ok.mod.kin J h1 h2 ?_
  have hl := F.len _ _ _ _ hq
  refine wpAny_call (codeAny_mono (F.run X.A.in1 X.stack s H ⟨[.ref a], []⟩ [.ref a] [.ref a] _ E hr.in1 I.env0.in1 (by
    have := hb s [.ref a] I.kIn (by simpa using hl)
    simpa using this) (.cons rfl .nil) hq) fun r s' hq => ?_)
  cases r with
  | error e => exact hx pins σ H s e s' I hq
  | ok fl =>
    cases fl with
    | ret w =>
      obtain ⟨z, H', I', rz, n, ez, hn, q⟩ := I.after hq
      subst ez
      obtain ⟨t, rfl⟩ := rz
      exact ⟨⟨by omega, by omega⟩, ⟨.int n, H', I'.tok _, ⟨_, rfl⟩, q⟩⟩
    | next => exact False.elim hq
    | brk => exact False.elim hq
    | cont => exact False.elim hq
end
section
variable {C : Addr} {sp : Sp} {E : XK} {H : Hp} {Q : VK} {a b dx dy : Addr} {fs gs : List (Str × V)}
theorem v_M2n (ha : H a = some (.ins C dx fs)) (hb : H b = some (.ins C dy gs)) (q : sp [.ref a, .ref b] H (fun v H' => ∃ r, v = .bl r ∧ Q (.bl (!r)) H') E) : rM2n C sp E (.ref a) (.ref b) H Q := ⟨a, b, dx, dy, fs, gs, rfl, rfl, ha, hb, q⟩
end
end Cw
set_option Elab.async false
set_option linter.all false
set_option maxRecDepth 100000
set_option maxHeartbeats 4000000
namespace Cw
open PySem PySem.Spec L2
/-! ### texts as lists of codes: operators -/
def rTAdd : R2 := fun x y H Q => ∃ a b : List Nat, x = .str (tx a) ∧ y = .str (tx b) ∧ a.length + b.length ≤ 1000000 ∧ Q (.str (tx (a ++ b))) H
def rTLt : R2 := fun x y H Q => ∃ a b : List Nat, x = .str (tx a) ∧ y = .str (tx b) ∧ Q (.bl (decide (a < b))) H
section
variable {X : Cx}
theorem op_addS : OpR X (binaryOp .Add) rTAdd := by
  intro pins s σ H x y v u Q I rx ry h
  obtain ⟨a, b, rfl, rfl, hl, q⟩ := h
  refine op_add_str pins s σ H _ _ v u Q I rx ry ⟨tx a, tx b, rfl, rfl, ?_, ?_⟩
  · rw [tx_len, tx_len]; exact szl hl
  · rw [tx_app]; exact q
theorem op_ltS : OpR X (compareOp .Lt) rTLt := by
  intro pins s σ H x y v u Q I rx ry h
  obtain ⟨a, b, rfl, rfl, q⟩ := h
  exact op_lt_str pins s σ H _ _ v u Q I rx ry ⟨tx a, tx b, rfl, rfl, by simpa using q⟩
/-- text[::-1] -/
def tRevS (te : TE) : TE := fun σ H Q => te σ H fun x H1 => ∃ l : List Nat, x = .str (tx l) ∧ l.length ≤ 1000000 ∧ Q (.str (tx l.reverse)) H1
theorem pe_revS {e : Expr} {te : TE} {k : Nat} {p1 p2 p3 pos : PySem.Pos} (he : PE X e te) : PE X (.Subscript e (.Slice none none (some (.UnaryOp .USub (.Constant (.int 1) k p1) p2)) p3) pos) (tRevS te) := by
  refine ⟨fun pins s σ H Q I h => ?_⟩
  refine PyProof.Rows.Subscript_ (thn (he.run pins s σ H _ I h) fun v s1 ⟨x, H1, I1, r1, l, ex, hl, q⟩ => ?_)
  subst ex
  obtain ⟨t, rfl⟩ := r1
  have hst : PO X (some (.UnaryOp .USub (.Constant (.int 1) k p1) p2)) (tPart (tUn (rU fun i => .int (-i)) (tC (.int 1)))) := po_some (pe_un un_neg pe_int)
  refine wpAny_Slice (thn (po_none.run pins s1 σ H1 (fun o H2 => o = none ∧ H2 = H1) I1 ⟨rfl, rfl⟩) fun vl s2 ⟨o1, H2, I2, w1, e1, e2⟩ => ?_)
  subst e1 e2
  refine thn (po_none.run pins s2 σ H2 (fun o H3 => o = none ∧ H3 = H2) I2 ⟨rfl, rfl⟩) fun vu s3 ⟨o2, H3, I3, w2, e3, e4⟩ => ?_
  subst e3 e4
  refine thn (hst.run pins s3 σ H3 (fun o H4 => o = some (-1) ∧ H4 = H3) I3 ⟨1, rfl, -1, rfl, rfl, rfl⟩) fun vs s4 ⟨o3, H4, I4, w3, e5, e6⟩ => ?_
  subst e5 e6
  obtain ⟨l1, rfl, m1⟩ := IsPart.raw w1
  obtain ⟨l2, rfl, m2⟩ := IsPart.raw w2
  obtain ⟨l3, rfl, m3⟩ := IsPart.raw w3
  have I5 : Inv X pins σ H4 { s4 with heap := s4.heap.push { cls := .type "slice", data := .fields #[partValue l1, partValue l2, partValue l3] } } := I4.kept (t' := s4.toks) fun b ob q => Heap.get?_push_of_some _ q
  show wpAny (model X.prog X.w) X.A (PyProof.Rows.subscriptTail e (.Slice none none (some (.UnaryOp .USub (.Constant (.int 1) k p1) p2)) p3) (.str (tx l) t) (.ref s4.heap.objs.size)) (EP X pins σ Q) X.xe _
  refine PyProof.Rows.tail_any (ops := [.str (tx l) t, .ref s4.heap.objs.size]) (typeIs_str _ _ _) F.slot_str_getitem.lookup ?_ (by with_unfolding_all rfl)
  refine wpAny_getItem_str_slice (l := l1) (u := l2) (st := l3) ⟨_, Heap.get?_push_size _ rfl, rfl, rfl⟩ (by rw [m3]; rfl) ?_
  unfold sliceMade slicePicked
  rw [m1, m2, m3]
  have e : (⟨((Builtin.Str.strSliceIndices none none ((some (-1 : Int)).getD 1) (tx l).length).filterMap ((tx l).cps[·]?)).toArray⟩ : Str) = tx l.reverse := by
    show (⟨((Builtin.Str.strSliceIndices none none (-1) (tx l).length).filterMap ((tx l).cps[·]?)).toArray⟩ : Str) = tx l.reverse
    rw [PyProof.Rows.picked_rev, tx_len, PySem.W.krv_range]
    have k2 := PySem.W.krv_all (tx l).cps
    rw [show (tx l).cps.size = l.length from tx_len l] at k2
    rw [List.filterMap_reverse, k2]
  rw [e]
  rw [if_neg (by simp)]
  refine ⟨?_, .str (tx l.reverse), H4, I5.tok _, ⟨_, rfl⟩, q⟩
  rw [tx_len, List.length_reverse]
  exact szl hl
end
section
variable {σ : St} {H : Hp} {Q : VK}
theorem v_addS {a b : List Nat} (h : a.length + b.length ≤ 1000000) (q : Q (.str (tx (a ++ b))) H) : rTAdd (.str (tx a)) (.str (tx b)) H Q := ⟨a, b, rfl, rfl, h, q⟩
theorem v_ltS {a b : List Nat} (q : Q (.bl (decide (a < b))) H) : rTLt (.str (tx a)) (.str (tx b)) H Q := ⟨a, b, rfl, rfl, q⟩
theorem e_revS {te : TE} (q : te σ H fun x H1 => ∃ l : List Nat, x = .str (tx l) ∧ l.length ≤ 1000000 ∧ Q (.str (tx l.reverse)) H1) : tRevS te σ H Q := q
theorem v_revS {l : List Nat} {P : List Nat → Prop} (h : l.length ≤ 1000000) (q : P l) : ∃ l' : List Nat, V.str (tx l) = .str (tx l') ∧ l'.length ≤ 1000000 ∧ P l' := ⟨l, rfl, h, q⟩
end
end Cw
set_option Elab.async false
set_option linter.all false
set_option maxRecDepth 100000
set_option maxHeartbeats 4000000
namespace Cw
open PySem PySem.Spec L2
/-! ### constants and globals -/
section
variable {X : Cx} {x : Str} {pos : PySem.Pos} {j : Nat}
theorem pe_tx {kd : _} (l : List Nat) (h : x = tx l) : PE X (.Constant (.str x) kd pos) (tC (.str (tx l))) := by
  rw [h]
  exact pe_str
theorem pe_globS {z : Str} (h : ∃ t, X.mg x = some (.str z t)) (hg : Gl X x := by rfl) (hd : (x == ("__debug__" : Str)) = false := by decide) : PE X (.Name x pos) (tC (.str z)) := by
  obtain ⟨t, h⟩ := h
  exact pe_glob hg h ⟨t, rfl⟩ hd
theorem pe_globI {z : Int} (h : ∃ t, X.mg x = some (.int z t)) (hg : Gl X x := by rfl) (hd : (x == ("__debug__" : Str)) = false := by decide) : PE X (.Name x pos) (tC (.int z)) := by
  obtain ⟨t, h⟩ := h
  exact pe_glob hg h ⟨t, rfl⟩ hd
/-- a class of one's own as a value -/
theorem pe_globC {C : Addr} (h : X.mg x = some (.ref C)) (hg : Gl X x := by rfl) (hd : (x == ("__debug__" : Str)) = false := by decide) : PE X (.Name x pos) (tC (.ref C)) := pe_glob hg h rfl hd
end
/-! ### slices of texts -/
theorem sl_S {X : Cx} : SlR X rSlS := sl_str
section
variable {σ : St} {H : Hp} {Q : VK} {te : TE} {tl th : TO} {K : PySem.W.Frag}
theorem e_sl {r : V → Option Int → Option Int → Hp → VK → Prop} (q : te σ H fun x H1 => tl σ H1 fun l H2 => th σ H2 fun u H3 => r x l u H3 Q) : tSl r te tl th σ H Q := q
theorem e_nopart {Q : Option Int → Hp → Prop} (q : Q none H) : tNoPart σ H Q := q
theorem e_part {Q : Option Int → Hp → Prop} (q : te σ H fun x H1 => ∃ i, x = .int i ∧ Q (some i) H1) : tPart te σ H Q := q
theorem cut_to (l : List Nat) {n : Int} (h : 0 ≤ n) : cutS (tx l) none (some n) = tx (l.take n.toNat) := by
  unfold cutS
  rw [tx_len]
  show (⟨((l.toArray.toList.drop 0).take ((if n < 0 then _ else min n.toNat l.length) - 0)).toArray⟩ : Str) = _
  rw [if_neg (by omega)]
  simp only [List.drop_zero, Nat.sub_zero]
  rw [← List.take_take]
  simp
theorem cut_from (l : List Nat) {n : Int} (h : 0 ≤ n) : cutS (tx l) (some n) none = tx (l.drop n.toNat) := by
  unfold cutS
  rw [tx_len]
  show (⟨((l.toArray.toList.drop (if n < 0 then _ else min n.toNat l.length)).take (l.length - (if n < 0 then _ else min n.toNat l.length))).toArray⟩ : Str) = _
  rw [if_neg (by omega)]
  have e : (l.drop (min n.toNat l.length)) = l.drop n.toNat := by
    by_cases hl : n.toNat ≤ l.length
    · rw [Nat.min_eq_left hl]
    · rw [Nat.min_eq_right (by omega), List.drop_of_length_le (by omega), List.drop_of_length_le (by omega)]
  simp only
  rw [e, List.take_of_length_le (by rw [List.length_drop]; omega)]
theorem v_slTo {l : List Nat} {n : Int} (hl : l.length ≤ 1000000) (h : 0 ≤ n) (q : Q (.str (tx (l.take n.toNat))) H) : rSlS (.str (tx l)) none (some n) H Q := ⟨tx l, rfl, by rw [tx_len]; exact szl hl, by rw [cut_to l h]; exact q⟩
theorem v_slFrom {l : List Nat} {n : Int} (hl : l.length ≤ 1000000) (h : 0 ≤ n) (q : Q (.str (tx (l.drop n.toNat))) H) : rSlS (.str (tx l)) (some n) none H Q := ⟨tx l, rfl, by rw [tx_len]; exact szl hl, by rw [cut_from l h]; exact q⟩
end
/-! ### join -/
def rJoinT (K : PySem.W.Frag) : V → List V → Hp → VK → Prop := fun x xs H Q => ∃ (p : Addr) (ls : List (List Nat)), x = .str (tx []) ∧ xs = [.ref p] ∧ (SqL K H p (ls.map fun l => V.str (tx l)) ∨ SqT K H p (ls.map fun l => V.str (tx l))) ∧ ls.flatten.length ≤ 1000000 ∧ Q (.str (tx ls.flatten)) H
theorem join_empty (ls : List (List Nat)) : Txt.join (tx []) (ls.map tx) = tx ls.flatten := by
  have e : ∀ ls : List (List Nat), TL.joinL [] ls = ls.flatten := by
    intro ls
    induction ls with
    | nil => rfl
    | cons p r ih =>
      cases r with
      | nil => simp [TL.joinL]
      | cons q r =>
        show p ++ ([] ++ TL.joinL [] (q :: r)) = _
        rw [ih]
        simp
  have h := TL.tl_join (tx []) (ls.map tx)
  have h2 : (Str.join (tx []) (ls.map tx)).cps.toList = ls.flatten := by
    refine Eq.trans h ?_
    show TL.joinL [] ((ls.map tx).map TL.tl) = _
    rw [List.map_map, e]
    congr 1
    have : (TL.tl ∘ tx) = id := by
      funext l
      show (tx l).cps.toList = l
      simp
    rw [this, List.map_id]
  have g : Txt.join (tx []) (ls.map tx) = Str.join (tx []) (ls.map tx) := by
    show Builtin.Str.glued _ _ = _
    rw [StrLaws.glued_eq_join]
  rw [g, tx_eq (z := Str.join (tx []) (ls.map tx)), h2]
section
variable {X : Cx} {o e : Expr} {to te : TE}
theorem mt_joinT : MtR X "str.join" (rJoinT X.K) := by
  intro pins s σ H x xs v us Q I rx rs h
  obtain ⟨p, ls, rfl, rfl, hp, hl, q⟩ := h
  refine mt_join pins s σ H _ _ v us Q I rx rs ⟨tx [], p, ls.map tx, rfl, rfl, ?_, ?_, ?_⟩
  · simpa [List.map_map, Function.comp_def] using hp
  · have e : ((ls.map tx).map (·.length)).sum = ls.flatten.length := by
      rw [List.map_map, List.length_flatten]
      exact congrArg List.sum (List.map_congr_left fun l _ => tx_len l)
    rw [e]
    have e0 : (tx []).length = 0 := rfl
    rw [e0]
    omega
  · rw [join_empty]
    exact q
theorem pe_joinT {apos pos : PySem.Pos} (ho : PE X o to) (he : PE X e te) (hs : starEach [e] X.env = [(false, eval e X.env)] := by rfl) (hbase : attributeBase o "join" X.env (eval o X.env) = eval o X.env := by rfl) (hline : (apos.endLine == pos.line) = true := by rfl) :
    PE X (.Call (.Attribute o "join" apos) [e] [] pos) (tM1 (rJoinT X.K) to te) := pe_m1 F.slot_str_join F.type_str_join mt_joinT ho he hs hbase hline
end
section
variable {σ : St} {H : Hp} {Q : VK} {to te : TE} {K : PySem.W.Frag}
theorem e_m1 {r : V → List V → Hp → VK → Prop} (q : to σ H fun x H1 => (∃ a, x = .str a) ∧ te σ H1 fun y H2 => r x [y] H2 Q) : tM1 r to te σ H Q := q
theorem v_isS {a : Str} {P : Prop} (q : P) : (∃ b, V.str a = .str b) ∧ P := ⟨⟨a, rfl⟩, q⟩
theorem v_join {p : Addr} {ls : List (List Nat)} (h : H p = some (.lst (ls.map fun l => V.str (tx l)))) (hl : ls.flatten.length ≤ 1000000) (q : Q (.str (tx ls.flatten)) H) : rJoinT K (.str (tx [])) [.ref p] H Q := ⟨p, ls, rfl, rfl, .inl (SqL.of h), hl, q⟩
/-! ### membership -/
theorem v_inS {c : Nat} {l : List Nat} (q : Q (.bl (decide (c ∈ l))) H) : rInS (.str (tx [c])) (.str (tx l)) H Q := ⟨c, tx l, rfl, rfl, by simpa using q⟩
theorem v_notInS {c : Nat} {l : List Nat} (q : Q (.bl (!decide (c ∈ l))) H) : rNotInS (.str (tx [c])) (.str (tx l)) H Q := ⟨c, tx l, rfl, rfl, by simpa using q⟩
theorem inV_tx {x : List Nat} : ∀ {ls : List (List Nat)}, inV (.str (tx x)) (ls.map fun l => V.str (tx l)) = decide (x ∈ ls)
  | [] => by simp [inV]
  | l :: r => by
    have ih := inV_tx (x := x) (ls := r)
    unfold inV at ih ⊢
    rw [List.map_cons, List.any_cons, ih]
    by_cases e : l = x
    · subst e
      simp [eqV]
    · have e2 : ¬ tx l = tx x := fun z => e (tx_inj.mp z)
      have e3 : ¬ x = l := fun z => e z.symm
      simp [eqV, e2, e3]
theorem flat_tx (ls : List (List Nat)) : (ls.map fun l => V.str (tx l)).all flatV = true := by
  rw [List.all_map]
  exact List.all_eq_true.mpr fun _ _ => rfl
theorem v_inL {x : List Nat} {ls : List (List Nat)} {p : Addr} (h : H p = some (.lst (ls.map fun l => V.str (tx l)))) (q : Q (.bl (decide (x ∈ ls))) H) : rIn K false (.str (tx x)) (.ref p) H Q :=
  ⟨p, _, rfl, .inl (SqL.of h), rfl, flat_tx ls, by rw [inV_tx]; exact q⟩
theorem v_inT {x : List Nat} {ls : List (List Nat)} {p : Addr} (h : SqT K H p (ls.map fun l => V.str (tx l))) (q : Q (.bl (decide (x ∈ ls))) H) : rIn K false (.str (tx x)) (.ref p) H Q :=
  ⟨p, _, rfl, .inr h, rfl, flat_tx ls, by rw [inV_tx]; exact q⟩
end
/-! ### comprehensions -/
theorem wipe1 {σ : St} {i : Nat} {x : Option V} : wipe ((wipe σ [i]).set i x) [i] = wipe σ [i] := by
  show (((σ.set i none).set i x).set i none) = σ.set i none
  rw [List.set_set, List.set_set]
section
variable {σ : St} {H : Hp} {Q : VK} {wi : TI} {g : TG} {tt : TT} {te t0 : TE} {i : Nat} {K : PySem.W.Frag}
/-- what a comprehension's new list is, item by item: Y tells the turn's items -/
theorem lc_gen {P : Addr → Hp → Prop} {J : It} {n : Nat} {G : Hp → Prop} {it : Nat → V} {b : Nat → Bool} {f : Nat → V} (w : Walk J n G (fun k H x H' => H' = H ∧ x = it k)) (hG : ∀ H', Same H H' → G H') (hn : n ≤ 1000000)
    (ht : ∀ k, k < n → ∀ H1, Same H H1 → ∀ R : Bool → Hp → Prop, (∀ H2, Same H1 H2 → R (b k) H2) → tt ((wipe σ [i]).set i (some (it k))) H1 R)
    (he : ∀ k, k < n → b k = true → ∀ H1, Same H H1 → ∀ R : VK, (∀ H2, Same H1 H2 → R (f k) H2) → te ((wipe σ [i]).set i (some (it k))) H1 R)
    (q : ∀ D H', H D = none → Same H H' → H' D = some (.lst (((List.range n).filter b).map f)) → P D H') :
    ∀ D, H D = none → ∃ W : Nat → Nat → Hp → Prop, (∃ m, W 0 m (upd H D (.lst []))) ∧ ∀ k m H, W k m H →
      (J.stop k H ∧ P D H) ∨ (J.go k H ∧ ∃ Nx : Hp → Prop, (∀ H', Nx H' → ∃ m', m' < m ∧ W (k + 1) m' H') ∧ ∀ x H', J.yld k H x H' → (gName i) x (wipe σ [i]) H' fun s2 H2 => wipe s2 [i] = wipe σ [i] ∧ tt s2 H2 fun c H3 =>
        if c = true then te s2 H3 fun y H4 => ∃ acc, H4 D = some (.lst acc) ∧ acc.length < sizeLine ∧ Nx (upd H4 D (.lst (acc ++ [y]))) else Nx H3) := by
  intro D hD
  refine lc_it w (vs := [i]) (σ := σ) (g := gName i) (tt := tt) (te := te) (Qd := fun H' => P D H') (fun k H' => Same H H' ∧ H' D = some (.lst (((List.range k).filter b).map f)))
    ⟨Same.new hD, upd_same⟩ (fun k H' _ p => hG H' p.1) (fun k x H1 H2 hk p y => ?_) (fun H' p => q D H' hD p.1 p.2)
  obtain ⟨p1, p2⟩ := p
  obtain ⟨rfl, rfl⟩ := y
  refine ⟨wipe1, ht k hk _ p1 _ fun H3 s3 => ?_⟩
  have e1 : (List.range (k + 1)).filter b = (List.range k).filter b ++ (if b k = true then [k] else []) := by
    rw [List.range_succ, List.filter_append]
    congr 1
    by_cases c : b k = true
    · simp [c]
    · simp [c]
  by_cases c : b k = true
  · rw [if_pos c]
    refine he k hk c _ (p1.trans s3) _ fun H4 s4 => ?_
    refine ⟨_, s4 _ _ (s3 _ _ p2), ?_, fun a o ha => ?_, ?_⟩
    · rw [List.length_map]
      have h1 := List.length_filter_le b (List.range k)
      rw [List.length_range] at h1
      exact szlt (by omega)
    · rw [upd_ne (ne_of_none ha hD)]
      exact s4 _ _ (s3 _ _ (p1 _ _ ha))
    · rw [upd_same, e1, if_pos c, List.map_append]
      rfl
  · rw [if_neg c]
    refine ⟨p1.trans s3, ?_⟩
    rw [e1, if_neg c, List.append_nil]
    exact s3 _ _ p2
theorem e_lc {vs : List Nat} (q : wi σ H fun J H1 => ∀ D, H1 D = none → ∃ W : Nat → Nat → Hp → Prop, (∃ m, W 0 m (upd H1 D (.lst []))) ∧ ∀ i m H, W i m H →
    (J.stop i H ∧ Q (.ref D) H) ∨ (J.go i H ∧ ∃ Nx : Hp → Prop, (∀ H', Nx H' → ∃ m', m' < m ∧ W (i + 1) m' H') ∧ ∀ x H', J.yld i H x H' → g x (wipe σ vs) H' fun s2 H2 => wipe s2 vs = wipe σ vs ∧ tt s2 H2 fun b H3 =>
      if b = true then te s2 H3 fun y H4 => ∃ acc, H4 D = some (.lst acc) ∧ acc.length < sizeLine ∧ Nx (upd H4 D (.lst (acc ++ [y]))) else Nx H3)) : tLc wi g tt te vs σ H Q := q
theorem range_map {α : Type} (l : List Nat) (b : Nat → Bool) (f : Nat → α) : ((List.range l.length).filter fun k => b (l.getD k 0)).map (fun k => f (l.getD k 0)) = (l.filter b).map f := by
  have e : l = (List.range l.length).map fun k => l.getD k 0 := by
    apply List.ext_getElem
    · simp
    · intro j h1 h2
      simp [List.getD, h1]
  conv => rhs; rw [e, List.filter_map, List.map_map]
  rfl
/-- [e for c in text if t] -/
theorem v_lcS {P : Addr → Hp → Prop} {l : List Nat} {b : Nat → Bool} {f : Nat → V} (hn : l.length ≤ 1000000)
    (ht : ∀ c, c ∈ l → ∀ H1, Same H H1 → ∀ R : Bool → Hp → Prop, (∀ H2, Same H1 H2 → R (b c) H2) → tt ((wipe σ [i]).set i (some (.str (tx [c])))) H1 R)
    (he : ∀ c, c ∈ l → b c = true → ∀ H1, Same H H1 → ∀ R : VK, (∀ H2, Same H1 H2 → R (f c) H2) → te ((wipe σ [i]).set i (some (.str (tx [c])))) H1 R)
    (q : ∀ D H', H D = none → Same H H' → H' D = some (.lst ((l.filter b).map f)) → P D H') :
    ∀ D, H D = none → ∃ W : Nat → Nat → Hp → Prop, (∃ m, W 0 m (upd H D (.lst []))) ∧ ∀ k m H, W k m H →
      ((Its (tx l)).stop k H ∧ P D H) ∨ ((Its (tx l)).go k H ∧ ∃ Nx : Hp → Prop, (∀ H', Nx H' → ∃ m', m' < m ∧ W (k + 1) m' H') ∧ ∀ x H', (Its (tx l)).yld k H x H' → (gName i) x (wipe σ [i]) H' fun s2 H2 => wipe s2 [i] = wipe σ [i] ∧ tt s2 H2 fun c H3 =>
        if c = true then te s2 H3 fun y H4 => ∃ acc, H4 D = some (.lst acc) ∧ acc.length < sizeLine ∧ Nx (upd H4 D (.lst (acc ++ [y]))) else Nx H3) := by
  have mem : ∀ k, k < l.length → l.getD k 0 ∈ l := fun k hk => by
    rw [List.getD_eq_getElem?_getD, List.getElem?_eq_getElem hk]
    exact List.getElem_mem hk
  have w : Walk (Its (tx l)) l.length (fun _ => True) (fun k H x H' => H' = H ∧ x = .str (tx [l.getD k 0])) := by
    refine ⟨fun k H hk _ => by show k < (tx l).cps.size; simpa using hk, fun H _ => by show (tx l).cps.size ≤ l.length; simp, fun k H x H' hk _ y => ?_⟩
    obtain ⟨e, c, hc, rfl⟩ := y
    refine ⟨e, ?_⟩
    have hc : l[k]? = some c := by simpa using hc
    rw [List.getD_eq_getElem?_getD, hc]
    rfl
  refine lc_gen (b := fun k => b (l.getD k 0)) (f := fun k => f (l.getD k 0)) w (fun _ _ => trivial) hn (fun k hk H1 s1 R r => ht _ (mem k hk) H1 s1 R r) (fun k hk c H1 s1 R r => he _ (mem k hk) c H1 s1 R r) (fun D H' hD s' e => q D H' hD s' ?_)
  rw [e, range_map]
end
end Cw
set_option Elab.async false
set_option linter.all false
set_option maxRecDepth 100000
set_option maxHeartbeats 4000000
namespace Cw
open PySem PySem.Spec L2
/-! ### a comprehension of two fors over texts -/
theorem lc_in {J : It} {n : Nat} {G : Hp → Prop} {Y : Nat → Hp → V → Hp → Prop} (w : Walk J n G Y) {g : TG} {tt : TT} {te : TE} {vs : List Nat} {σ : St} {H1 : Hp} {D : Addr} {Qd : Hp → Prop} (Pv : Nat → Hp → Prop) (h0 : Pv 0 H1) (hG : ∀ i H, i ≤ n → Pv i H → G H)
    (hs : ∀ i x H H', i < n → Pv i H → Y i H x H' → g x (wipe σ vs) H' fun s2 H2 => wipe s2 vs = wipe σ vs ∧ tt s2 H2 fun b H3 =>
      if b = true then te s2 H3 fun y H4 => ∃ acc, H4 D = some (.lst acc) ∧ acc.length < sizeLine ∧ Pv (i + 1) (upd H4 D (.lst (acc ++ [y]))) else Pv (i + 1) H3) (hd : ∀ H, Pv n H → Qd H) :
    ∃ W : Nat → Nat → Hp → Prop, (∃ m, W 0 m H1) ∧ ∀ i m H, W i m H →
      (J.stop i H ∧ Qd H) ∨ (J.go i H ∧ ∃ Nx : Hp → Prop, (∀ H', Nx H' → ∃ m', m' < m ∧ W (i + 1) m' H') ∧ ∀ x H', J.yld i H x H' → g x (wipe σ vs) H' fun s2 H2 => wipe s2 vs = wipe σ vs ∧ tt s2 H2 fun b H3 =>
        if b = true then te s2 H3 fun y H4 => ∃ acc, H4 D = some (.lst acc) ∧ acc.length < sizeLine ∧ Nx (upd H4 D (.lst (acc ++ [y]))) else Nx H3) := by
  refine ⟨fun i m H => m = n - i ∧ i ≤ n ∧ Pv i H, ⟨n, rfl, Nat.zero_le _, h0⟩, ?_⟩
  rintro i m H ⟨rfl, hi, p⟩
  by_cases c : i < n
  · exact Or.inr ⟨w.goes i H c (hG i H hi p), Pv (i + 1), fun H' p' => ⟨_, by omega, rfl, c, p'⟩, fun x H' y => hs i x H H' c p (w.yields i H x H' c (hG i H hi p) y)⟩
  · have e : i = n := by omega
    rw [e] at p ⊢
    exact Or.inl ⟨w.stops H (hG n H (Nat.le_refl _) p), hd H p⟩
theorem walk_tx (l : List Nat) : Walk (Its (tx l)) l.length (fun _ => True) (fun k H x H' => H' = H ∧ x = .str (tx [l.getD k 0])) := by
  refine ⟨fun k H hk _ => by show k < (tx l).cps.size; simpa using hk, fun H _ => by show (tx l).cps.size ≤ l.length; simp, fun k H x H' hk _ y => ?_⟩
  obtain ⟨e, c, hc, rfl⟩ := y
  refine ⟨e, ?_⟩
  have hc : l[k]? = some c := by simpa using hc
  rw [List.getD_eq_getElem?_getD, hc]
  rfl
theorem getD_mem {l : List Nat} {k : Nat} (hk : k < l.length) : l.getD k 0 ∈ l := by
  rw [List.getD_eq_getElem?_getD, List.getElem?_eq_getElem hk]
  exact List.getElem_mem hk
theorem take_getD {l : List Nat} {k : Nat} (hk : k < l.length) : l.take (k + 1) = l.take k ++ [l.getD k 0] := by
  rw [List.take_add_one, List.getD_eq_getElem?_getD, List.getElem?_eq_getElem hk]
  rfl
section
variable {σ : St} {H : Hp} {Q : VK} {tt1 : TT} {te t1 : TE} {i j : Nat}
theorem v_lc2S {la lb : List Nat} {b : Nat → Nat → Bool} {f : Nat → Nat → V} (hij : i ≠ j) (hsz : la.length * lb.length < 1000000)
    (h1 : ∀ c, c ∈ la → ∀ H1, Same H H1 → ∀ R : VK, R (.str (tx lb)) H1 → t1 (((σ.set j none).set i none).set i (some (.str (tx [c])))) H1 R)
    (ht : ∀ c d, c ∈ la → d ∈ lb → ∀ H1, Same H H1 → ∀ R : Bool → Hp → Prop, (∀ H2, Same H1 H2 → R (b c d) H2) → tt1 (((((σ.set j none).set i none).set i (some (.str (tx [c])))).set j none).set j (some (.str (tx [d])))) H1 R)
    (he : ∀ c d, c ∈ la → d ∈ lb → b c d = true → ∀ H1, Same H H1 → ∀ R : VK, (∀ H2, Same H1 H2 → R (f c d) H2) → te (((((σ.set j none).set i none).set i (some (.str (tx [c])))).set j none).set j (some (.str (tx [d])))) H1 R)
    (q : ∀ D H', H D = none → Same H H' → H' D = some (.lst (la.flatMap fun c => (lb.filter (b c)).map (f c))) → Q (.ref D) H') :
    tLc2 (iStr (tC (.str (tx la)))) (gName i) tYes (iStr t1) (gName j) tt1 te [i, j] [j] σ H Q := by
  refine ⟨tx la, rfl, fun D hD => ?_⟩
  have len : ∀ l : List Nat, (l.flatMap fun c => (lb.filter (b c)).map (f c)).length ≤ l.length * lb.length := by
    intro l
    induction l with
    | nil => simp
    | cons c r ih =>
      rw [List.flatMap_cons, List.length_append, List.length_map, List.length_cons, Nat.succ_mul]
      have := List.length_filter_le (b c) lb
      omega
  refine ⟨fun k m H' => m = la.length - k ∧ k ≤ la.length ∧ Same H H' ∧ H' D = some (.lst ((la.take k).flatMap fun c => (lb.filter (b c)).map (f c))), ⟨_, rfl, Nat.zero_le _, Same.new hD, upd_same⟩, ?_⟩
  rintro k m H1 ⟨rfl, hk, s1, e1⟩
  have w := walk_tx la
  by_cases c : k < la.length
  · refine Or.inr ⟨w.goes k H1 c trivial, fun H' => Same H H' ∧ H' D = some (.lst ((la.take (k + 1)).flatMap fun c => (lb.filter (b c)).map (f c))), fun H' p => ⟨_, by omega, rfl, c, p.1, p.2⟩, fun x H2 y => ?_⟩
    obtain ⟨rfl, rfl⟩ := w.yields k H1 x H2 c trivial y
    have hm := getD_mem c
    refine ⟨?_, ?_⟩
    · show ((((σ.set j none).set i none).set i _).set j none).set i none = (σ.set j none).set i none
      rw [List.set_comm _ _ hij.symm, List.set_set, List.set_set, List.set_comm _ _ hij, List.set_set]
    · unfold tYes
      refine iteT ?_
      refine h1 _ hm _ s1 _ ⟨tx lb, rfl, ?_⟩
      refine lc_in (walk_tx lb) (fun z H' => Same H H' ∧ H' D = some (.lst (((la.take k).flatMap fun c => (lb.filter (b c)).map (f c)) ++ ((lb.take z).filter (b (la.getD k 0))).map (f (la.getD k 0))))) ⟨s1, by simpa using e1⟩ (fun _ _ _ _ => trivial) ?_ ?_
      · rintro z x H3 H4 hz ⟨s3, e3⟩ ⟨rfl, rfl⟩
        have hm2 := getD_mem hz
        have et := take_getD hz
        refine ⟨?_, ht _ _ hm hm2 _ s3 _ fun H5 s5 => ?_⟩
        · exact wipe1
        · show (if b (la.getD k 0) (lb.getD z 0) = true then _ else _)
          by_cases cb : b (la.getD k 0) (lb.getD z 0) = true
          · rw [if_pos cb]
            refine he _ _ hm hm2 cb _ (s3.trans s5) _ fun H6 s6 => ⟨_, s6 _ _ (s5 _ _ e3), ?_, fun a o ha => ?_, ?_⟩
            · have n1 := len (la.take k)
              have n2 : ((lb.take z).filter (b (la.getD k 0))).length ≤ z := by
                have := List.length_filter_le (b (la.getD k 0)) (lb.take z)
                rw [List.length_take] at this
                omega
              rw [List.length_append, List.length_map]
              rw [List.length_take, Nat.min_eq_left (by omega)] at n1
              have n3 : k * lb.length + lb.length ≤ la.length * lb.length := by
                rw [← Nat.succ_mul]
                exact Nat.mul_le_mul_right _ c
              exact szlt (by omega)
            · rw [upd_ne (ne_of_none ha hD)]
              exact s6 _ _ (s5 _ _ (s3 _ _ ha))
            · rw [upd_same, et, List.filter_append, List.map_append, List.append_assoc, List.filter_cons, if_pos cb]
              rfl
          · rw [if_neg cb]
            refine ⟨s3.trans s5, ?_⟩
            rw [s5 _ _ e3, et, List.filter_append, List.filter_cons, if_neg cb, List.filter_nil, List.append_nil]
      · rintro H' ⟨s', e'⟩
        refine ⟨s', ?_⟩
        rw [e', take_getD c, List.flatMap_append, List.take_of_length_le (Nat.le_refl _)]
        simp
  · have e : k = la.length := by omega
    subst e
    refine Or.inl ⟨w.stops H1 trivial, q D H1 hD s1 ?_⟩
    rw [e1, List.take_of_length_le (Nat.le_refl _)]
end
end Cw
set_option Elab.async false
set_option linter.all false
set_option maxRecDepth 100000
set_option maxHeartbeats 4000000
/-! plain words about plans -/
namespace Cw
open PySem L2
def LET : List Nat := [97, 98, 99, 100, 101, 102, 103, 104, 105, 106, 107, 108, 109, 110, 111, 112, 113, 114, 115, 116, 117, 118, 119, 120, 121, 122]
def ascOf (l : List Nat) : List Nat := LET.filter fun c => decide (c ∈ l)
def pairsOf (found : List (List Nat)) : List (List Nat) := LET.flatMap fun a => (LET.filter fun b => decide ([a, b] ∈ found)).map fun b => [a, b]
def crossOf (ks : List Nat) (ps : List (List Nat)) (k : Nat) : List Nat := ks.filter fun o => decide ([k, o] ∈ ps) || decide ([o, k] ∈ ps)
/-- the pairs that a plan may be told by: two different kinds each -/
def PairsIn (ks : List Nat) (ps : List (List Nat)) : Prop := ∀ p ∈ ps, ∃ a b, p = [a, b] ∧ a ≠ b ∧ a ∈ ks ∧ b ∈ ks
def crossKV (ks : List Nat) (ps : List (List Nat)) (l : List Nat) : List (Key × V) := l.map fun k => (Sum.inr (tx [k]), V.str (tx (crossOf ks ps k)))
/-- a list of texts as values -/
abbrev strsV (ls : List (List Nat)) : List V := ls.map fun l => V.str (tx l)
theorem LET_lt {c : Nat} (h : c ∈ LET) : 97 ≤ c ∧ c < 123 := by
  unfold LET at h
  simp only [List.mem_cons, List.not_mem_nil, or_false] at h
  omega
theorem ascOf_mem {l : List Nat} {c : Nat} : c ∈ ascOf l ↔ c ∈ LET ∧ c ∈ l := by
  unfold ascOf
  rw [List.mem_filter, decide_eq_true_iff]
theorem ascOf_len (l : List Nat) : (ascOf l).length ≤ 26 := List.length_filter_le _ _
theorem LET_nodup : LET.Nodup := by decide
theorem ascOf_nodup (l : List Nat) : (ascOf l).Nodup := LET_nodup.filter _
theorem pairsOf_mem {f : List (List Nat)} {p : List Nat} : p ∈ pairsOf f ↔ ∃ a b, p = [a, b] ∧ a ∈ LET ∧ b ∈ LET ∧ [a, b] ∈ f := by
  unfold pairsOf
  simp only [List.mem_flatMap, List.mem_map, List.mem_filter, decide_eq_true_iff]
  constructor
  · rintro ⟨a, ha, b, ⟨hb, hf⟩, rfl⟩
    exact ⟨a, b, rfl, ha, hb, hf⟩
  · rintro ⟨a, b, rfl, ha, hb, hf⟩
    exact ⟨a, ha, b, ⟨hb, hf⟩, rfl⟩
theorem pairsOf_len (f : List (List Nat)) : (pairsOf f).length ≤ 676 := by
  have h : ∀ l : List Nat, (l.flatMap fun a => (LET.filter fun b => decide ([a, b] ∈ f)).map fun b => [a, b]).length ≤ l.length * 26 := by
    intro l
    induction l with
    | nil => simp
    | cons c r ih =>
      rw [List.flatMap_cons, List.length_append, List.length_map, List.length_cons, Nat.succ_mul]
      have := List.length_filter_le (fun b => decide ([c, b] ∈ f)) LET
      have e : LET.length = 26 := rfl
      omega
  exact h LET
theorem pairsOf_congr {f g : List (List Nat)} (h : ∀ a b, a ∈ LET → b ∈ LET → ([a, b] ∈ f ↔ [a, b] ∈ g)) : pairsOf f = pairsOf g := by
  unfold pairsOf
  have h2 : ∀ l : List Nat, (∀ a ∈ l, a ∈ LET) → (l.flatMap fun a => (LET.filter fun b => decide ([a, b] ∈ f)).map fun b => [a, b]) = (l.flatMap fun a => (LET.filter fun b => decide ([a, b] ∈ g)).map fun b => [a, b]) := by
    intro l
    induction l with
    | nil => intro _; rfl
    | cons c r ih =>
      intro hm
      rw [List.flatMap_cons, List.flatMap_cons, ih fun a ha => hm a (List.mem_cons_of_mem _ ha)]
      congr 2
      refine List.filter_congr fun b hb => ?_
      exact decide_eq_decide.mpr (h c b (hm c (List.mem_cons_self ..)) hb)
  exact h2 LET fun a ha => ha
theorem filter_yes {α : Type} (l : List α) : l.filter (fun _ => true) = l := List.filter_eq_self.mpr fun _ _ => rfl
theorem flat_ones (l : List Nat) : (l.map fun c => [c]).flatten = l := by
  induction l with
  | nil => rfl
  | cons c r ih => rw [List.map_cons, List.flatten_cons, ih]; rfl
theorem strs_ones (l : List Nat) : (l.map fun c => V.str (tx [c])) = strsV (l.map fun c => [c]) := by
  unfold strsV
  rw [List.map_map]
  rfl
theorem nodup_ones {l : List Nat} : (l.map fun c => tx [c]).Nodup ↔ l.Nodup := by
  induction l with
  | nil => simp
  | cons c r ih =>
    rw [List.map_cons, List.nodup_cons, List.nodup_cons, ih]
    refine and_congr_left fun _ => not_congr ?_
    rw [List.mem_map]
    constructor
    · rintro ⟨d, hd, e⟩
      have : [d] = [c] := tx_inj.mp e
      injection this with e _
      exact e ▸ hd
    · intro h
      exact ⟨c, h, rfl⟩
theorem metOf_ones (l : List Nat) : ((metOf (l.map fun c => tx [c])).length = l.length) ↔ l.Nodup := by
  by_cases h : l.Nodup
  · rw [metOf_nodup (nodup_ones.mpr h), List.length_map]
    exact ⟨fun _ => h, fun _ => rfl⟩
  · have := metOf_lt (fun n => h (nodup_ones.mp n))
    rw [List.length_map] at this
    exact ⟨fun e => by omega, fun n => absurd n h⟩
theorem crossOf_len (ks : List Nat) (ps : List (List Nat)) (k : Nat) : (crossOf ks ps k).length ≤ ks.length := List.length_filter_le _ _
section
variable {σ : L2.St} {H : Hp} {Q : VK} {te : TE} {K : PySem.W.Frag}
theorem e_iStr {R : It → Hp → Prop} (q : te σ H fun v H1 => ∃ x, v = .str x ∧ R (Its x) H1) : iStr te σ H R := q
theorem e_iL {R : It → Hp → Prop} (q : te σ H fun x H1 => ∃ a, x = .ref a ∧ (∃ xs, SqL K H1 a xs) ∧ R (Itl K a) H1) : iList K te σ H R := q
theorem v_iL {P : Addr → Prop} {a : Addr} {xs : List V} (h : H a = some (.lst xs)) (q : P a) : ∃ a', V.ref a = .ref a' ∧ (∃ xs, SqL K H a' xs) ∧ P a' := ⟨a, rfl, ⟨xs, SqL.of h⟩, q⟩
theorem e_iR1 {ta : TA} {R : It → Hp → Prop} (q : ta σ H fun vs H1 => ∃ j : Int, vs = [.int j] ∧ -(2 ^ 62) ≤ j ∧ j < 2 ^ 62 ∧ R (Itr 0 j.toNat) H1) : iRng1 ta σ H R := q
theorem v_iR1 {P : Int → Prop} {j : Int} (h1 : -1000000 ≤ j) (h2 : j < 1000000) (q : P j) : ∃ j' : Int, [V.int j] = [.int j'] ∧ -(2 ^ 62) ≤ j' ∧ j' < 2 ^ 62 ∧ P j' := ⟨j, rfl, by omega, by omega, q⟩
theorem e_iR2 {ta : TA} {R : It → Hp → Prop} (q : ta σ H fun vs H1 => ∃ i j : Int, vs = [.int i, .int j] ∧ (-(2 ^ 62) ≤ i ∧ i < 2 ^ 62 ∧ -(2 ^ 62) ≤ j ∧ j < 2 ^ 62) ∧ R (Itr i (j - i).toNat) H1) : iRng2 ta σ H R := q
theorem v_iR2 {P : Int → Int → Prop} {i j : Int} (h1 : -1000000 ≤ i ∧ i < 1000000 ∧ -1000000 ≤ j ∧ j < 1000000) (q : P i j) : ∃ i' j' : Int, [V.int i, V.int j] = [.int i', .int j'] ∧ (-(2 ^ 62) ≤ i' ∧ i' < 2 ^ 62 ∧ -(2 ^ 62) ≤ j' ∧ j' < 2 ^ 62) ∧ P i' j' := ⟨i, j, rfl, by omega, q⟩
theorem e_for {wi : TI} {g : TG} {tb : TS} {D : Ends} (q : wi σ H fun J H1 => ∃ W : Nat → Nat → L2.St → Hp → Prop, (∃ m, W 0 m σ H1) ∧ ∀ i m σ H, W i m σ H →
    (J.stop i H ∧ D.nx σ H) ∨ (J.go i H ∧ ∃ N : L2.St → Hp → Prop, (∀ σ' H', N σ' H' → ∃ m', m' < m ∧ W (i + 1) m' σ' H') ∧ ∀ x H', J.yld i H x H' → g x σ H' fun s2 H2 => tb { D with nx := N, ct := N, bk := D.nx } s2 H2)) : tFor wi g tb D σ H := q
theorem iteNT {A B : Prop} (h : B) : if (!true) = true then A else B := by
  rw [if_neg (by decide)]
  exact h
theorem iteNF {A B : Prop} (h : A) : if (!false) = true then A else B := by
  rw [if_pos (by decide)]
  exact h
theorem e_yes {Q : Bool → Hp → Prop} (q : Q true H) : tYes σ H Q := q
theorem v_isiS {x : Str} (q : Q (.bl true) H) : rIsi K [.str x, .ty "str"] H Q := ⟨.str x, .ty "str", .type "str", .type "str", true, rfl, .ty "str", .base (.str x), kit_ty (by decide +kernel), q⟩
theorem v_all {p : Addr} {bs : List Bool} (h : H p = some (.lst (bs.map V.bl))) (q : Q (.bl (bs.all id)) H) : rAll K [.ref p] H Q := ⟨p, bs, rfl, SqL.of h, q⟩
theorem v_fld {P : V → Prop} {a C dx : Addr} {fs : List (Str × V)} {f : Str} {v : V} (h : H a = some (.ins C dx fs)) (c : Cls K C) (n : NoAttr K C f) (l : fs.lookup f = some v) (q : P v) : ∃ a' C dx fs v, V.ref a = .ref a' ∧ H a' = some (.ins C dx fs) ∧ Cls K C ∧ NoAttr K C f ∧ fs.lookup f = some v ∧ P v := ⟨a, C, dx, fs, v, rfl, h, c, n, l, q⟩
theorem e_sfld {ta tv : TE} {f : Str} {D : Ends} (q : tv σ H fun y H1 => ta σ H1 fun x H2 => ∃ a C dx fs, x = .ref a ∧ H2 a = some (.ins C dx fs) ∧ Cls K C ∧ NoAttr K C f ∧ fs.length < 1000 ∧ D.nx σ (upd H2 a (.ins C dx (putF f y fs)))) : sFld K ta tv f D σ H := q
theorem v_sfld {P : Hp → Prop} {a C dx : Addr} {fs : List (Str × V)} {f : Str} {y : V} (h : H a = some (.ins C dx fs)) (c : Cls K C) (n : NoAttr K C f) (l : fs.length < 1000) (q : ∀ H', Keep a H H' → H' a = some (.ins C dx (putF f y fs)) → P H') :
    ∃ a' C dx fs, V.ref a = .ref a' ∧ H a' = some (.ins C dx fs) ∧ Cls K C ∧ NoAttr K C f ∧ fs.length < 1000 ∧ P (upd H a' (.ins C dx (putF f y fs))) := ⟨a, C, dx, fs, rfl, h, c, n, l, q _ Keep.put upd_same⟩
/-- a class of the text -/
structure ClsF (K : PySem.W.Frag) (mg : Str → Option Value) (x : Str) (C : Addr) : Prop where
  «at» : mg x = some (.ref C)
  cl : Cls K C
  mks : PySem.W.makesIn K C = true
  kp : PySem.W.keepIn K (.ref C) = true
  ha : PySem.W.findIn K (.ref C) "__class__" = some (some (.builtin "object.__class__"))
  hn : PySem.W.specialIn K (.builtin "object.__class__") "__get__" = some (some (.builtin "getset_descriptor.__get__"))
  ht : PySem.W.takesIn K (.builtin "object.__class__") = some true
  hm : PySem.W.mroIn K C (.type "object") = some true
  ob : PySem.W.subIn K (.ref C) (.type "object") = some true
  ne : PySem.W.findIn K (.ref C) "__ne__" = some (some (.builtin "object.__ne__"))
theorem kit_same {C : Addr} : PySem.W.kitOne K (.ref C) (.ref C) = some true := by
  unfold PySem.W.kitOne
  rw [if_pos (by simp)]
theorem v_isiC {mg : Str → Option Value} {x : Str} {a C dx : Addr} {fs : List (Str × V)} (F : ClsF K mg x C) (h : H a = some (.ins C dx fs)) (q : Q (.bl true) H) : rIsi K [.ref a, .ref C] H Q :=
  ⟨.ref a, .ref C, .ref C, .ref C, true, rfl, .own C, .base (.ins h F.cl F.ha F.hn F.ht F.hm), kit_same, q⟩
theorem v_isiL {p t : Addr} {xs : List V} (h : H p = some (.lst xs)) (ht : H t = some (.tup [.ty "list", .ty "tuple"])) (q : Q (.bl true) H) : rIsiT K [.ref p, .ref t] H Q :=
  ⟨.ref p, t, _, .type "list", [.type "list", .type "tuple"], true, rfl, ht, .cons (.ty _) (.cons (.ty _) .nil), .base (.lst h), kitAny_cons (b := true) (kit_ty (by decide +kernel)) (fun z => nomatch z) (fun _ => rfl), q⟩
end
def rTuple (K : PySem.W.Frag) : List V → Hp → VK → Prop := fun xs H Q => ∃ p ys, xs = [.ref p] ∧ ((SqL K H p ys ∧ ∀ l, H l = none → Q (.ref l) (upd H l (.tup ys))) ∨ (SqT K H p ys ∧ Q (.ref p) H))
theorem c_tuple {X : Cx} : CallR X (.type "tuple") (rTuple X.K) := call_tuple_of
theorem v_tuple {K : PySem.W.Frag} {H : Hp} {Q : VK} {p : Addr} {ys : List V} (h : H p = some (.lst ys)) (q : ∀ l H', H l = none → Same H H' → H' l = some (.tup ys) → Q (.ref l) H') : rTuple K [.ref p] H Q :=
  ⟨p, ys, rfl, .inl ⟨SqL.of h, fun l hl => q l _ hl (Same.new hl) upd_same⟩⟩
def rList (K : PySem.W.Frag) : List V → Hp → VK → Prop := fun xs H Q => ∃ p ys, xs = [.ref p] ∧ (SqL K H p ys ∨ SqT K H p ys) ∧ ∀ l, H l = none → Q (.ref l) (upd H l (.lst ys))
theorem c_list {X : Cx} : CallR X (.type "list") (rList X.K) := call_list_of
theorem v_list {K : PySem.W.Frag} {H : Hp} {Q : VK} {p : Addr} {ys : List V} (h : SqL K H p ys) (q : ∀ l H', H l = none → Same H H' → H' l = some (.lst ys) → Q (.ref l) H') : rList K [.ref p] H Q :=
  ⟨p, ys, rfl, .inl h, fun l hl => q l _ hl (Same.new hl) upd_same⟩
section
variable {σ : L2.St} {H : Hp} {Q : VK} {K : PySem.W.Frag}
theorem e_bm {T : String} {r : V → List V → Hp → VK → Prop} {to : TE} {t : TA} (q : to σ H fun x H1 => tyV K T x H1 ∧ t σ H1 fun xs H2 => r x xs H2 Q) : tBM K T r to t σ H Q := q
theorem e_bm0 {T : String} {r : V → List V → Hp → VK → Prop} {to : TE} (q : to σ H fun x H1 => tyV K T x H1 ∧ r x [] H1 Q) : tBM0 K T r to σ H Q := q
theorem v_tyL {P : Prop} {p : Addr} {xs : List V} (h : H p = some (.lst xs)) (q : P) : tyV K "list" (.ref p) H ∧ P := ⟨.inl ⟨rfl, _, SqL.of h⟩, q⟩
theorem v_app {p : Addr} {xs : List V} {y : V} (h : H p = some (.lst xs)) (hl : xs.length < 1000000) (q : ∀ H', Keep p H H' → H' p = some (.lst (xs ++ [y])) → Q .non H') : rAppend (.ref p) [y] H Q :=
  ⟨p, xs, y, rfl, rfl, h, szlt hl, q _ Keep.put upd_same⟩
end
/-! ### rules with the written part named (in a comprehension's block too) -/
section
variable {X : Cx} {K : PySem.W.Frag}
theorem op_inLK (h : X.K = K) : OpR X (compareOp .In) (rIn K false) := h ▸ op_in_seq
theorem op_notInLK (h : X.K = K) : OpR X (compareOp .NotIn) (rIn K true) := h ▸ op_notIn_seq
theorem ix_LK (h : X.K = K) : IxR X (rIxL K) := h ▸ ix_list
theorem ix_TK (h : X.K = K) : IxR X (rIxT K) := h ▸ ix_tup
theorem pe_flK {e : Expr} {f : Str} {pos : PySem.Pos} {ta : TE} (h : X.K = K) (he : PE X e ta) (hb : attributeBase e f X.env (eval e X.env) = eval e X.env) : PE X (.Attribute e f pos) (tFld K ta f) := h ▸ pe_fld he hb
theorem ps_flK {o value : Expr} {f : Str} {pos pos' : PySem.Pos} {ta tv : TE} (h : X.K = K) (ha : PE X o ta) (hv : PE X value tv) (hs : swapsWith value (some (.Attribute o f pos')) pos.line X.env = pure false) : PS X (.Assign [.Attribute o f pos'] value pos) (sFld K ta tv f) := h ▸ ps_fld ha hv hs
theorem pe_joinK {o e : Expr} {to te : TE} {apos pos : PySem.Pos} (h : X.K = K) (ho : PE X o to) (he : PE X e te) (hs : starEach [e] X.env = [(false, eval e X.env)] := by rfl) (hbase : attributeBase o "join" X.env (eval o X.env) = eval o X.env := by rfl) (hline : (apos.endLine == pos.line) = true := by rfl) :
    PE X (.Call (.Attribute o "join" apos) [e] [] pos) (tM1 (rJoinT K) to te) := h ▸ pe_joinT ho he hs hbase hline
theorem c_lenK (h : X.K = K) : CallR X (.builtin "len") (rLen K) := h ▸ c_len
theorem c_isiK (h : X.K = K) : CallR X (.builtin "isinstance") (rIsi K) := h ▸ call_isi
theorem c_isiTK (h : X.K = K) : CallR X (.builtin "isinstance") (rIsiT K) := h ▸ call_isiT
theorem c_listK (h : X.K = K) : CallR X (.type "list") (rList K) := h ▸ c_list
theorem c_tupleK (h : X.K = K) : CallR X (.type "tuple") (rTuple K) := h ▸ c_tuple
theorem c_allK (h : X.K = K) (hc : X.calm = true) : CallR X (.builtin "all") (rAll K) := h ▸ cr_all hc
theorem sl_LK (h : X.K = K) : SlR X (rSlL K) := h ▸ sl_list
theorem op_eqDK (h : X.K = K) (hu : X.A.units + 64 < cLine) : OpR X (compareOp .Eq) (rEqD K) := h ▸ op_eqD hu
theorem op_neDK (h : X.K = K) (hu : X.A.units + 64 < cLine) : OpR X (compareOp .NotEq) (rNeD K) := h ▸ op_neD hu
theorem pi_listK {tg e : Expr} {te : TE} (h : X.K = K) (he : PE X e te) : PI X tg e (iList K te) := h ▸ pi_list he
theorem pi_tupK {tg e : Expr} {te : TE} (h : X.K = K) (he : PE X e te) : PI X tg e (iTup K te) := h ▸ pi_tup he
theorem pe_appK {o e : Expr} {to te : TE} {apos cpos : PySem.Pos} (h : X.K = K) (ho : PE X o to) (he : PE X e te) (hbase : attributeBase o "append" X.env (eval o X.env) = eval o X.env := by rfl)
    (hfew : ((backTo cpos (starEach [e] X.env)).all (fun x => !x.1) && (backToKw cpos (keywordEach [] X.env)).all (fun x => x.1.isSome) && decide ([e].length + ([] : List Keyword).length + (if ([] : List Keyword).isEmpty then 0 else 1) < 30)) = true := by rfl)
    (hline : (apos.endLine == cpos.line) = true := by rfl) (hs : starEach [e] X.env = (false, eval e X.env) :: starEach [] X.env := by rfl) (hplain : (backTo cpos (starEach [] X.env)).any (·.1) = false := by rfl) :
    PE X (.Call (.Attribute o "append" apos) [e] [] cpos) (tBM K "list" rAppend to (tCons te tNil)) := h ▸ pe_bm PySem.F.plainAttrs_list PySem.F.slot_list_append PySem.F.type_list_append mt_append ho (pa_cons he pa_nil hs) hbase hfew hline hs hplain
end
/-- two readings of one walk -/
def iOr (a b : TI) : TI := fun σ H R => a σ H R ∨ b σ H R
theorem pi_or {X : Cx} {tg e : Expr} {a b : TI} (h1 : PI X tg e a) (h2 : PI X tg e b) : PI X tg e (iOr a b) :=
  ⟨fun pos s σ H R I h => h.elim (h1.run pos s σ H R I) (h2.run pos s σ H R I)⟩
/-- a list or a tuple, or the empty tuple of the top -/
def SeqO (K : PySem.W.Frag) (H : Hp) (p : Addr) (xs : List V) : Prop := H p = some (.lst xs) ∨ H p = some (.tup xs) ∨ (xs = [] ∧ ∃ o n, K.lookup p = some o ∧ o.cls = .type "tuple" ∧ o.data = .seq #[] n)
section
variable {K : PySem.W.Frag} {H H' : Hp} {p x : Addr} {xs : List V}
theorem SeqO.go (h : SeqO K H p xs) (s : ∀ o, H p = some o → H' p = some o) : SeqO K H' p xs := h.imp (s _) (fun z => z.imp (s _) id)
theorem SeqO.same (h : SeqO K H p xs) (s : Same H H') : SeqO K H' p xs := h.go (s _)
theorem SeqO.keepI {C dx : Addr} {fs : List (Str × V)} (h : SeqO K H p xs) (s : Keep x H H') (hx : H x = some (.ins C dx fs)) : SeqO K H' p xs := by
  rcases h with h | h | h
  · exact .inl (s _ _ h (ne_of h hx (by intro z; cases z)))
  · exact .inr (.inl (s _ _ h (ne_of h hx (by intro z; cases z))))
  · exact .inr (.inr h)
theorem v_isiQ {Q : VK} {t : Addr} (h : SeqO K H p xs) (ht : H t = some (.tup [.ty "list", .ty "tuple"])) (q : Q (.bl true) H) : rIsiT K [.ref p, .ref t] H Q := by
  have key : TyX K H (.ref p) (.type "tuple") → rIsiT K [.ref p, .ref t] H Q := fun ty => ⟨.ref p, t, _, .type "tuple", [.type "list", .type "tuple"], true, rfl, ht, .cons (.ty _) (.cons (.ty _) .nil), ty, kitAny_cons (b := false) (kit_ty (by decide +kernel)) (fun _ => kitAny_cons (b := true) (kit_ty (by decide +kernel)) (fun z => nomatch z) (fun _ => rfl)) (fun z => nomatch z), q⟩
  rcases h with h | h | ⟨_, o, n, h, c, _⟩
  · exact v_isiL h ht q
  · exact key (.base (.tup h))
  · exact key (.kTuple h c)
/-- a for over a list or a tuple -/
theorem e_forSeq {te : TE} {g : TG} {tb : TS} {D : Ends} {σ : L2.St} {H0 : Hp} (hp : SeqO K H0 p xs) (s0 : Same H0 H) (ht : ∀ Q : VK, Q (.ref p) H → te σ H Q) (Pv : Nat → L2.St → Hp → Prop) (h0 : Pv 0 σ H) (hG : ∀ i σ' H', Pv i σ' H' → Same H0 H')
    (hs : ∀ i x σ H H', i < xs.length → Pv i σ H → YAt xs i H x H' → g x σ H' fun σ2 H2 => tb { D with nx := Pv (i + 1), ct := Pv (i + 1), bk := D.nx } σ2 H2) (hd : ∀ σ H, Pv xs.length σ H → D.nx σ H) : tFor (iOr (iList K te) (iTup K te)) g tb D σ H := by
  rcases hp with hp | hp | ⟨rfl, o, n, h, c, e⟩
  · exact Or.inl (ht _ ⟨p, rfl, ⟨xs, SqL.of (s0 _ _ hp)⟩, for_it walk_list Pv h0 (fun i σ' H' _ z => SqL.of (hG i σ' H' z _ _ hp)) hs hd⟩)
  · exact Or.inr (ht _ ⟨p, rfl, ⟨xs, SqT.of (s0 _ _ hp)⟩, for_it walk_tup Pv h0 (fun i σ' H' _ z => SqT.of (hG i σ' H' z _ _ hp)) hs hd⟩)
  · have k : ∀ H', SqT K H' p [] := fun H' => .inr ⟨o, #[], n, h, c, e, by decide, .nil⟩
    exact Or.inr (ht _ ⟨p, rfl, ⟨[], k _⟩, for_it walk_tup Pv h0 (fun i σ' H' _ z => k _) hs hd⟩)
end
theorem DPut.cross {H : Hp} {a : Addr} {kvs : List (Key × V)} {l : List Nat} {v : V} (e : H a = some (.dK kvs)) (hn : valV kvs (Sum.inr (tx l)) = none) (hl : kvs.length < 1000000) : DPut H a (.str (tx l)) v (upd H a (.dK (kvs ++ [(Sum.inr (tx l), v)]))) := by
  have h := DPut.k (k := Sum.inr (tx l)) (v := v) e (szlt hl)
  rw [putK_new v hn] at h
  exact h
theorem key_tx {a b : List Nat} : (Sum.inr (tx a) : Key) = Sum.inr (tx b) ↔ a = b := by
  constructor
  · intro h
    injection h with h
    exact tx_inj.mp h
  · intro h
    rw [h]
/-- a dict by letters -/
theorem letV_none {g : Nat → V} {k : Nat} : ∀ {l : List Nat}, ¬ k ∈ l → valV (l.map fun c => ((Sum.inr (tx [c]) : Key), g c)) (Sum.inr (tx [k])) = none
  | [], _ => rfl
  | c :: r, h => by
    rw [List.map_cons, valV_neg, letV_none fun z => h (List.mem_cons_of_mem _ z)]
    intro e
    have := key_tx.mp e
    injection this with e _
    exact h (e ▸ List.mem_cons_self ..)
theorem letV_some {g : Nat → V} {k : Nat} : ∀ {l : List Nat}, k ∈ l → valV (l.map fun c => ((Sum.inr (tx [c]) : Key), g c)) (Sum.inr (tx [k])) = some (g k)
  | [], h => by cases h
  | c :: r, h => by
    by_cases e : c = k
    · subst e
      rw [List.map_cons, valV_pos rfl]
    · rw [List.map_cons, valV_neg, letV_some ((List.mem_cons.mp h).resolve_left fun z => e z.symm)]
      intro z
      have := key_tx.mp z
      injection this with z _
      exact e z
theorem dget_let {H : Hp} {d : Addr} {g : Nat → V} {k : Nat} {l : List Nat} (h : H d = some (.dK (l.map fun c => ((Sum.inr (tx [c]) : Key), g c)))) (hk : k ∈ l) : DGet H d (.str (tx [k])) (some (g k)) := by
  have e := DGet.k (k := Sum.inr (tx [k])) h
  rw [letV_some hk] at e
  exact e
theorem take_notin {l : List Nat} (h : l.Nodup) {i : Nat} (hi : i < l.length) : ¬ l.getD i 0 ∈ l.take i := by
  intro m
  obtain ⟨j, hj, e⟩ := List.mem_iff_getElem.mp m
  rw [List.length_take] at hj
  rw [List.getElem_take, List.getD_eq_getElem?_getD, List.getElem?_eq_getElem hi] at e
  have := (List.getElem_inj h).mp e
  omega
end Cw
set_option Elab.async false
set_option linter.all false
set_option maxRecDepth 100000
set_option maxHeartbeats 4000000
/-! the same steps, what is to be found asked behind the match -/
namespace Cw
open PySem PySem.Spec L2
section
variable {σ : St} {H : Hp} {Q : VK} {i : Nat} {y : V} {K : PySem.W.Frag}
theorem e_varG (q : ∃ v, σ[i]? = some (some v) ∧ Q v H) : tVar i σ H Q := q
theorem v_lenG {p : Addr} (q : ∃ ys, H p = some (.lst ys) ∧ Q (.int (ys.length : Nat)) H) : rLen K [.ref p] H Q := by
  obtain ⟨ys, h, q⟩ := q
  exact v_len h q
theorem v_inLG {x : List Nat} {p : Addr} (q : ∃ ls : List (List Nat), H p = some (.lst (ls.map fun l => V.str (tx l))) ∧ Q (.bl (decide (x ∈ ls))) H) : rIn K false (.str (tx x)) (.ref p) H Q := by
  obtain ⟨ys, h, q⟩ := q
  exact v_inL h q
theorem v_lenSetG {P : Program} {w : World} {p : Addr} (q : ∃ l : List Str, H p = some (SetT P w p l) ∧ Q (.int (l.length : Nat)) H) : rLenSet P w [.ref p] H Q := by
  obtain ⟨ys, h, q⟩ := q
  exact v_lenSet h q
theorem v_tyLG {P : Prop} {p : Addr} (q : ∃ xs, H p = some (.lst xs) ∧ P) : tyV K "list" (.ref p) H ∧ P := by
  obtain ⟨ys, h, q⟩ := q
  exact v_tyL h q
theorem v_iLG {P : Addr → Prop} {a : Addr} (q : ∃ xs, H a = some (.lst xs) ∧ P a) : ∃ a', V.ref a = .ref a' ∧ (∃ xs, SqL K H a' xs) ∧ P a' := by
  obtain ⟨ys, h, q⟩ := q
  exact v_iL h q
theorem v_dgetG {P : V → Prop} {a : Addr} (q : ∃ v, DGet H a y (some v) ∧ P v) : ∃ a' v, V.ref a = .ref a' ∧ DGet H a' y (some v) ∧ P v := by
  obtain ⟨v, h, q⟩ := q
  exact v_dget h q
end
end Cw
set_option Elab.async false
set_option linter.all false
set_option maxRecDepth 100000
set_option maxHeartbeats 4000000
/-! C(..) as a call with a promise of its own -/
namespace Cw
open PySem PySem.Spec L2
/-- from what a caller wants of C(..) to what __init__ promises -/
def Conv (C : Addr) (sp0 sp : Sp) : Prop := ∀ vs H Q E, sp vs H Q E → ∀ x dx, H x = none → H dx = none → dx ≠ x → sp0 (.ref x :: vs) (upd (upd H dx (.own x)) x (.ins C dx [])) (fun v H2 => v = .non ∧ Q (.ref x) H2) E
structure CDef (P : Program) (w : World) (K : PySem.W.Frag) (mg : Str → Option Value) (base : Heap) (CX : CXT) (k : Nat) (x : Str) (C : Addr) (sp : Sp) : Prop where
  ex : ∃ f fd ps sp0, mg x = some (.ref C) ∧ Mk K C f ∧ Binds K fd ps [] ∧ FnOk P w K mg base CX k f fd ps sp0 ∧ Conv C sp0 sp
section
variable {X : Cx} {CX : CXT} {k : Nat} {sp : Sp} {E : XK} {x : Str} {C : Addr} {p pos : PySem.Pos} {e : Expr} {es : List Expr} {t : TA}
theorem pe_mk (D : CDef X.prog X.w X.K X.mg X.base CX k x C sp) (hr : Room (k + 1) X.A) (hx : Passes CX X E) (ha : PA X (e :: es) t) (hg : Gl X x := by rfl) (hdb : (x == ("__debug__" : Str)) = false := by decide)
    (he : starEach (e :: es) X.env = (false, eval e X.env) :: starEach es X.env := by rfl) (hpl : (backTo pos (starEach es X.env)).any (·.1) = false := by rfl) : PE X (.Call (.Name x p) (e :: es) [] pos) (tCall sp [] E t) := by
  obtain ⟨f, fd, ps, sp0, hm, M, hb, F, cv⟩ := D.ex
  refine ⟨fun pins s σ H Q I h => ?_⟩
  refine wpAny_Call_Name_kw (ld_glob I hg hm ?_ hdb)
  refine PySem.W.callWith_K (h₀ := X.base) I.ok.mod.kin M.kp (thn (ha.run pos pins s σ H _ I h) fun us s1 ⟨vs, H1, I1, r, q⟩ => ⟨I1.kIn, ?_⟩) he hpl
  refine run_make M F hr hb .nil hx I1 r fun a da n1 n2 n3 => ?_
  have q : sp (vs ++ []) H1 Q E := q
  rw [List.append_nil] at q ⊢
  exact cv vs H1 Q E q a da n1 n2 n3
end
/-- a method with defaults, all parameters given -/
structure MAtD (K : PySem.W.Frag) (C : Addr) (m qual : Str) (st : Stmt) (dvs : List V) : Prop where
  ex : ∃ f fd, PySem.W.findIn K (.ref C) m = some (some (.ref f)) ∧ PySem.W.isFn K (.ref f) = true ∧ FunD K m qual (defArgs st) (defBody st) (defScope st) dvs [] f fd
section
variable {P : Program} {w : World} {K : PySem.W.Frag} {mg : Str → Option Value} {base : Heap} {CX : CXT} {k : Nat} {C : Addr} {x qual : Str} {ps N : List Str} {sp sp0 : Sp} {st : Stmt} {dvs : List V}
/-- C(..) by its __init__ -/
structure CMk (P : Program) (w : World) (K : PySem.W.Frag) (mg : Str → Option Value) (base : Heap) (CX : CXT) (k : Nat) (x : Str) (C : Addr) (sp : Sp) (ps : List Str) (qual : Str) (st : Stmt) (dvs : List V) : Prop where
  ex : ∃ f fd sp0, mg x = some (.ref C) ∧ Mk K C f ∧ Binds K fd ps [] ∧ FnOk P w K mg base CX k f fd ps sp0 ∧ Conv C sp0 sp ∧ FunD K "__init__" qual (defArgs st) (defBody st) (defScope st) dvs [] f fd
theorem CMk.cdef (D : CMk P w K mg base CX k x C sp ps qual st dvs) : CDef P w K mg base CX k x C sp := by
  obtain ⟨f, fd, sp0, a, b, c, d, e, _⟩ := D.ex
  exact ⟨f, fd, ps, sp0, a, b, c, d, e⟩
/-- C(..) by its __init__, that lets nothing out; h: how the arguments bind where all are given -/
theorem MAtD.make (F : MAtD K C "__init__" qual st dvs) (cf : ClsF K mg x C) (S : FnScope N ps (defScope st)) (hd : dvs ≠ [])
    (hb : ∀ (T : Addr) (kV doc pm : Value) (an : Option Addr) (cdv ct : Value) (us its : List Value), us.length = ps.length → its.length = dvs.length →
      ∃ k, bindArgs (PySem.W.fnOf "__init__" qual (defArgs st) (defBody st) (defScope st) (.ref T) kV doc pm an cdv ct) ⟨us, []⟩ = seqItems? (.ref T) >>= k ∧ k (some its.toArray) = pure (ps.zip (us ++ its.drop dvs.length)))
    (len : ∀ vs H Q E, sp0 vs H Q E → vs.length = ps.length) (cv : Conv C sp0 sp)
    (hbody : ∀ (f : Addr) (cdv : Value) (A : Around) (outer : List Env) (s : Shared) (H : Hp) (vs : List V) (Q : VK) (E : XK), Room k (A.deeper (PyProof.Rows.envOfC qual (defScope st) s.heap.objs.size f cdv)) → sp0 vs H Q E →
      ∃ t, PSs (cxOf CX0 P w K mg base N qual (defScope st) f cdv A outer s H E).nox (defBody st) t ∧ t { nx := fun _ H' => Q .non H', rt := Q } (start N vs) H) : CMk P w K mg base CX0 (k + 1) x C sp ps qual st dvs := by
  obtain ⟨f, fd, h1, h2, F⟩ := F.ex
  have B : Binds K fd ps [] := by
    obtain ⟨ds, r, b⟩ := F.binds1 (ps := ps) ps.length dvs.length hd (by omega) fun T kV doc pm an cdv ct us its l1 l2 => hb T kV doc pm an cdv ct us its l1 l2
    rw [List.drop_of_length_le (Nat.le_refl _)] at r
    cases r
    exact b
  refine ⟨f, fd, sp0, cf.at, ⟨cf.mks, h1, h2, cf.kp⟩, B, F.ok S len fun cdv A outer s H vs Q E hr h => ?_, cv, F⟩
  obtain ⟨t, a, b⟩ := hbody f cdv A outer s H vs Q E hr h
  exact ⟨t, a.nox, b⟩
theorem CDef.mono {j : Nat} (D : CDef P w K mg base CX j x C sp) (h : j ≤ k) : CDef P w K mg base CX k x C sp := by
  obtain ⟨f, fd, ps, sp0, a, b, c, d, e⟩ := D.ex
  exact ⟨f, fd, ps, sp0, a, b, c, d.mono h, e⟩
end
end Cw
set_option Elab.async false
set_option linter.all false
set_option maxRecDepth 100000
set_option maxHeartbeats 4000000
/-! enumerate(text) -/
namespace Cw
open PySem PySem.Spec L2
def Itx (l : List Nat) : It := ⟨fun i _ => i < l.length, fun i H v H' => ∃ T c, v = .ref T ∧ H T = none ∧ H' = upd H T (.tup [.int (i : Nat), .str (tx [c])]) ∧ l[i]? = some c, fun i _ => l.length ≤ i⟩
theorem turn_enumS {P : Program} {w : World} {K : PySem.W.Frag} {elts : List Expr} {kk : Nat} {tpos : PySem.Pos} (l : List Nat) (t : Tok) (e it : Addr) (hne : e ≠ it) :
    Turn P w K (.Tuple elts kk tpos) (Itx l) [e, it] e (fun i h => i ≤ l.length ∧ (∃ old, IsEnum h e it (i : Nat) old) ∧ h.IsStrIter it (strIterType (tx l)) (tx l) t i) where
  mem := by simp
  obj := fun i h st b hb => by
    obtain ⟨_, ⟨old, he⟩, ⟨o, ho, hc, hd⟩⟩ := st
    simp only [List.mem_cons, List.not_mem_nil, or_false] at hb
    rcases hb with z | z
    · subst z; exact ⟨_, he, fun v q => nomatch q⟩
    · subst z; exact ⟨o, ho, fun v q => by rw [hd] at q; cases q⟩
  keep := fun i h h' st k => by
    obtain ⟨a, ⟨old, he⟩, ⟨o, ho, r⟩⟩ := st
    exact ⟨a, ⟨old, k e (by simp) _ he⟩, ⟨o, k it (by simp) o ho, r⟩⟩
  item := by
    intro X hP hw hK hc i pins s σ H E I hf st hg
    subst hP hw hK
    obtain ⟨hi, st⟩ := st
    have hg : i < l.length := hg
    have W := WalksT.enumerateD (A := X.A) (Draws.text (prog := X.prog) (w := X.w) (A := X.A.in1) (I.ok.hd hc) it (tx l) t) e hne (by simp [hne]) (by simp)
    have hel : e < s.heap.objs.size := by obtain ⟨⟨_, he⟩, _⟩ := st; exact Heap.lt_size he
    have hil : it < s.heap.objs.size := by obtain ⟨_, ⟨_, q, _⟩⟩ := st; exact Heap.lt_size q
    refine W.item i s _ E (by simpa using hg) st fun T vals h' tk hv hT isT mid kp => ⟨_, rfl, W.go elts kk tpos i T { s with heap := h', toks := tk } _ E mid fun h2 st2 kp2 => ?_⟩
    obtain ⟨t', x, hx, rfl⟩ := hv
    obtain ⟨c, u, hc', rfl⟩ := hx
    have hTw := W.apart i T h' mid
    obtain ⟨o, ho, r⟩ := isT
    have isT2 : h2.IsTuple T #[.int i t', .str ⟨#[c]⟩ u] := ⟨o, kp2 T o hTw ho, r⟩
    have new : ObjOk X.prog X.w (upd H T (.tup [.int (i : Nat), .str (tx [c])])) h2 T (.tup [.int (i : Nat), .str (tx [c])]) := ⟨by show 2 ≤ sizeLine; decide, [.int i t', .str ⟨#[c]⟩ u], .cons ⟨_, rfl⟩ (.cons ⟨_, rfl⟩ .nil), isT2⟩
    refine ⟨.ref T, _, I.turnedNew (ch := [e, it]) (t' := tk) (fun b ob hb q => kp2 b ob hb (kp b ob hb q)) hf hT new, rfl, ⟨T, c, rfl, I.hok.fresh hT, rfl, by simpa using hc'⟩, ⟨hg, st2⟩, fun b hb => ?_⟩
    have hb2 : b < T := by
      simp only [List.mem_cons, List.not_mem_nil, or_false] at hb
      rcases hb with z | z
      · rw [z]; exact Nat.lt_of_lt_of_le hel hT
      · rw [z]; exact Nat.lt_of_lt_of_le hil hT
    rw [upd_ne (Nat.ne_of_lt hb2)]
    exact (hf b hb).1
  done := by
    intro X hP hw hK hc i pins s σ H E I hf st hg
    subst hP hw hK
    obtain ⟨hi, st⟩ := st
    have hg : l.length ≤ i := hg
    have e1 : i = (tx l).cps.size := by
      have : (tx l).cps.size = l.length := by simp
      omega
    subst e1
    have W := WalksT.enumerateD (A := X.A) (Draws.text (prog := X.prog) (w := X.w) (A := X.A.in1) (I.ok.hd hc) it (tx l) t) e hne (by simp [hne]) (by simp)
    exact W.done s _ E st fun h' tk kp => ⟨rfl, I.turnedL kp hf⟩
  self := fun A i s Q E st h => by
    obtain ⟨_, ⟨_, he⟩, _⟩ := st
    exact wpAny_pyIter_enum he h
def iEnumS (ta : TA) : TI := fun σ H R => ta σ H fun vs H1 => ∃ l : List Nat, vs = [.str (tx l)] ∧ R (Itx l) H1
theorem pi_enumS {X : Cx} {e : Expr} {ta : TA} {p pos tpos : PySem.Pos} {elts : List Expr} {kk : Nat} (hg : Gl X "enumerate") (hm : X.mg "enumerate" = none) (ha : PA X [e] ta) (hs : starEach [e] X.env = [(false, eval e X.env)] := by rfl) :
    PI X (.Tuple elts kk tpos) (.Call (.Name "enumerate" p) [e] [] pos) (iEnumS ta) := by
  refine ⟨fun pins s σ H R I h => ?_⟩
  refine PyProof.Rows.Call_ (ld_blt I hg hm PyProof.Rows.boot_enumerate (PyProof.Rows.callWith_type1 (thn (ha.run pos pins s σ H _ I h) fun us s1 ⟨vs, H1, I1, r1, l, ex, q⟩ => ?_) hs rfl))
  subst ex
  obtain ⟨u, rfl, t, rfl⟩ := vals1 r1
  refine call_enumerate_str fun h' he hit hsz hk => wpAny_pyIter_enum he ?_
  have I2 : L2.Inv X pins σ H1 { s1 with heap := h' } := I1.kept (t' := s1.toks) hk
  refine ⟨s1.heap.objs.size + 1, [s1.heap.objs.size + 1, s1.heap.objs.size], _, _, H1, rfl, I2, turn_enumS l t (s1.heap.objs.size + 1) s1.heap.objs.size (Nat.succ_ne_self _), ⟨Nat.zero_le _, ⟨.none, he⟩, hit⟩, fun b hb => ?_, q⟩
  have hle : s1.heap.objs.size ≤ b := by
    simp only [List.mem_cons, List.not_mem_nil, or_false] at hb
    rcases hb with z | z
    · rw [z]; exact Nat.le_succ _
    · rw [z]; exact Nat.le_refl _
  exact I1.fpOk hle (I1.hok.fresh hle)
theorem walk_enumS (l : List Nat) : Walk (Itx l) l.length (fun _ => True) (fun i H v H' => ∃ T c, v = .ref T ∧ H T = none ∧ H' = upd H T (.tup [.int (i : Nat), .str (tx [c])]) ∧ l[i]? = some c) :=
  ⟨fun _ _ hi _ => hi, fun _ _ => Nat.le_refl _, fun _ _ _ _ _ _ y => y⟩
section
variable {σ : St} {H : Hp}
theorem e_iEnumS {ta : TA} {R : It → Hp → Prop} (q : ta σ H fun vs H1 => ∃ l : List Nat, vs = [.str (tx l)] ∧ R (Itx l) H1) : iEnumS ta σ H R := q
theorem v_iEnumS {P : List Nat → Prop} {l : List Nat} (q : P l) : ∃ l' : List Nat, [V.str (tx l)] = [.str (tx l')] ∧ P l' := ⟨l, rfl, q⟩
end
end Cw
set_option Elab.async false
set_option linter.all false
set_option maxRecDepth 100000
set_option maxHeartbeats 4000000
/-! pairs of a number and a text, compared -/
namespace Cw
open PySem PySem.Spec L2
section
variable {X : Cx} {op : CmpOp} {ri : Int → Int → Bool} {rs : List Nat → List Nat → Bool} {z : Bool}
end
end Cw
set_option Elab.async false
set_option linter.all false
set_option maxRecDepth 100000
set_option maxHeartbeats 4000000
/-! names: one step, as a plain function -/
namespace Cw
open PySem PySem.Spec L2
/-- the name (turned about) without its last letters out of part, and these -/
def splitB (part : List Nat) : List Nat → List Nat → List Nat × List Nat
  | [], b => ([], b)
  | x :: r, b => if x ∈ part then splitB part r (x :: b) else (x :: r, b)
def putIn (k : Nat) (b : List Nat) : List Nat := b.takeWhile (fun c => decide (c < k)) ++ k :: b.dropWhile (fun c => decide (c < k))
def stepAt (k : Nat) (ra b : List Nat) : List Nat := if ra.head? = some k then ra.tail.reverse ++ b else ra.reverse ++ putIn k b
def stepOf (part name : List Nat) (k : Nat) : List Nat := stepAt k (splitB part name.reverse []).1 (splitB part name.reverse []).2
def joinOf (ks : List Nat) (ps : List (List Nat)) (name way : List Nat) : List Nat := way.foldl (fun n k => stepOf (crossOf ks ps k) n k) name
theorem splitB_eq (part : List Nat) : ∀ ra b : List Nat, (splitB part ra b).1.reverse ++ (splitB part ra b).2 = ra.reverse ++ b
  | [], b => rfl
  | x :: r, b => by
    unfold splitB
    by_cases h : x ∈ part
    · rw [if_pos h, splitB_eq part r (x :: b), List.reverse_cons, List.append_assoc]
      rfl
    · rw [if_neg h]
theorem putIn_len (k : Nat) (b : List Nat) : (putIn k b).length = b.length + 1 := by
  unfold putIn
  have h : (b.takeWhile (fun c => decide (c < k)) ++ b.dropWhile (fun c => decide (c < k))).length = b.length := by rw [List.takeWhile_append_dropWhile]
  rw [List.length_append] at h
  rw [List.length_append, List.length_cons]
  omega
theorem putIn_mem {k c : Nat} {b : List Nat} (h : c ∈ putIn k b) : c = k ∨ c ∈ b := by
  unfold putIn at h
  rw [List.mem_append, List.mem_cons] at h
  rcases h with h | h | h
  · exact .inr (List.takeWhile_sublist _ |>.subset h)
  · exact .inl h
  · exact .inr (List.dropWhile_sublist _ |>.subset h)
theorem stepAt_len (k : Nat) (ra b : List Nat) : (stepAt k ra b).length ≤ ra.length + b.length + 1 := by
  unfold stepAt
  split
  · rw [List.length_append, List.length_reverse, List.length_tail]
    omega
  · rw [List.length_append, List.length_reverse, putIn_len]
    omega
theorem stepAt_mem {k c : Nat} {ra b : List Nat} (h : c ∈ stepAt k ra b) : c = k ∨ c ∈ ra.reverse ++ b := by
  unfold stepAt at h
  split at h
  · rw [List.mem_append, List.mem_reverse] at h
    rcases h with h | h
    · exact .inr (List.mem_append_left _ (List.mem_reverse.mpr (List.mem_of_mem_tail h)))
    · exact .inr (List.mem_append_right _ h)
  · rw [List.mem_append] at h
    rcases h with h | h
    · exact .inr (List.mem_append_left _ h)
    · rcases putIn_mem h with e | e
      · exact .inl e
      · exact .inr (List.mem_append_right _ e)
theorem stepOf_len (part name : List Nat) (k : Nat) : (stepOf part name k).length ≤ name.length + 1 := by
  have h := congrArg List.length (splitB_eq part name.reverse [])
  simp only [List.length_append, List.length_reverse, List.length_nil] at h
  have := stepAt_len k (splitB part name.reverse []).1 (splitB part name.reverse []).2
  unfold stepOf
  omega
theorem stepOf_mem {part name : List Nat} {k c : Nat} (h : c ∈ stepOf part name k) : c = k ∨ c ∈ name := by
  have := stepAt_mem h
  rw [splitB_eq, List.reverse_reverse, List.append_nil] at this
  exact this
theorem joinOf_len (ks : List Nat) (ps : List (List Nat)) : ∀ (way name : List Nat), (joinOf ks ps name way).length ≤ name.length + way.length
  | [], name => Nat.le_refl _
  | k :: r, name => by
    show (joinOf ks ps (stepOf (crossOf ks ps k) name k) r).length ≤ _
    have := joinOf_len ks ps r (stepOf (crossOf ks ps k) name k)
    have := stepOf_len (crossOf ks ps k) name k
    rw [List.length_cons]
    omega
theorem joinOf_mem {ks : List Nat} {ps : List (List Nat)} {c : Nat} : ∀ {way name : List Nat}, c ∈ joinOf ks ps name way → c ∈ name ∨ c ∈ way
  | [], name, h => .inl h
  | k :: r, name, h => by
    rcases joinOf_mem (way := r) (name := stepOf (crossOf ks ps k) name k) h with z | z
    · rcases stepOf_mem z with e | e
      · exact .inr (e ▸ List.mem_cons_self ..)
      · exact .inl e
    · exact .inr (List.mem_cons_of_mem _ z)
theorem joinOf_snoc {ks : List Nat} {ps : List (List Nat)} {name way : List Nat} {k : Nat} : joinOf ks ps name (way ++ [k]) = stepOf (crossOf ks ps k) (joinOf ks ps name way) k := by
  unfold joinOf
  rw [List.foldl_append]
  rfl
/-! ### letters at their places -/
theorem at_last {x : Nat} {r b : List Nat} : atI ((x :: r).reverse ++ b) (((x :: r).length : Int) - 1) = some x := by
  have e : (((x :: r).length : Int) - 1) = ((r.length : Nat) : Int) := by
    rw [List.length_cons]
    omega
  rw [e]
  refine atI_nat ?_
  rw [List.reverse_cons, List.append_assoc, List.getElem?_append_right (by rw [List.length_reverse]; exact Nat.le_refl _), List.length_reverse, Nat.sub_self]
  rfl
theorem at_mid {x : Nat} {a b : List Nat} : atI (a ++ x :: b) ((a.length : Nat) : Int) = some x := by
  refine atI_nat ?_
  rw [List.getElem?_append_right (Nat.le_refl _), Nat.sub_self]
  rfl
theorem lt_one {a k : Nat} : decide ([a] < [k]) = decide (a < k) := by
  refine decide_eq_decide.mpr ⟨fun h => ?_, fun h => List.Lex.rel h⟩
  cases h with
  | rel h => exact h
  | cons h => cases h
section
variable {σ : St} {H : Hp} {tb : TS} {D : Ends} {tt : TT}
theorem g_nm {i : Nat} {v : V} {Q : St → Hp → Prop} (q : Q (σ.set i (some v)) H) : gName i v σ H Q := q
theorem s_while (W : Nat → St → Hp → Prop) (m : Nat) (h0 : W m σ H) (hs : ∀ m σ H, W m σ H → tt σ H fun b H1 => if b = true then ∃ N : St → Hp → Prop, (∀ σ' H', N σ' H' → ∃ m', m' < m ∧ W m' σ' H') ∧ tb { D with nx := N, ct := N, bk := D.nx } σ H1 else D.nx σ H1) : tWhile tt tb D σ H := ⟨W, ⟨m, h0⟩, hs⟩
theorem v_turn {W : Nat → St → Hp → Prop} {m : Nat} (q : tb { D with nx := fun σ' H' => ∃ m', m' < m ∧ W m' σ' H', ct := fun σ' H' => ∃ m', m' < m ∧ W m' σ' H', bk := D.nx } σ H) : ∃ N : St → Hp → Prop, (∀ σ' H', N σ' H' → ∃ m', m' < m ∧ W m' σ' H') ∧ tb { D with nx := N, ct := N, bk := D.nx } σ H := ⟨_, fun _ _ h => h, q⟩
end
section
variable {H : Hp} {Q : VK} {K : PySem.W.Frag} {p q : Addr}
theorem ok_strs {ls : List (List Nat)} (h : ∀ l ∈ ls, ∀ c ∈ l, c < 1000) : ∀ x ∈ ls.map tx, PyData.strOk x = true := by
  intro x hx
  obtain ⟨l, hl, rfl⟩ := List.mem_map.mp hx
  exact ok_tx (h l hl)
theorem map_tx_inj {a b : List (List Nat)} : a.map tx = b.map tx ↔ a = b := by
  constructor
  · intro h
    induction a generalizing b with
    | nil => cases b with
      | nil => rfl
      | cons y b => cases h
    | cons x a ih => cases b with
      | nil => cases h
      | cons y b =>
        rw [List.map_cons, List.map_cons] at h
        injection h with h1 h2
        rw [tx_inj.mp h1, ih h2]
  · intro h
    rw [h]
theorem strsV_map (ls : List (List Nat)) : strsV ls = (ls.map tx).map V.str := by
  unfold strsV
  rw [List.map_map]
  rfl
theorem v_eqT {a b : List (List Nat)} (h1 : H p = some (.tup (strsV a))) (h2 : H q = some (.tup (strsV b))) (ha : ∀ l ∈ a, ∀ c ∈ l, c < 1000) (hb : ∀ l ∈ b, ∀ c ∈ l, c < 1000) (k : Q (.bl (decide (a = b))) H) : rEqD K (.ref p) (.ref q) H Q := by
  rw [strsV_map] at h1 h2
  refine ⟨.tuple ((a.map tx).map PyData.str), .tuple ((b.map tx).map PyData.str), .tup (SqT.of h1) (dp_strs _), .tup (SqT.of h2) (dp_strs _), shaped_strsT _ (ok_strs ha), shaped_strsT _ (ok_strs hb), ?_⟩
  have e : PyData.eqv (.tuple ((a.map tx).map PyData.str)) (.tuple ((b.map tx).map PyData.str)) = decide (a = b) := by
    show PyData.eqvAll _ _ = _
    rw [eqvAll_strs, decide_eq_decide]
    exact map_tx_inj
  rw [e]
  exact k
end
end Cw
set_option Elab.async false
set_option linter.all false
set_option maxRecDepth 100000
set_option maxHeartbeats 4000000
/-! errors of one's own without values -/
namespace Cw
open PySem PySem.Spec L2
/-- an error class of the text, down from ValueError, without an __init__ -/
structure ExcF (K : PySem.W.Frag) (mg : Str → Option Value) (x : Str) (C : Addr) : Prop where
  «at» : mg x = some (.ref C)
  exc : PySem.W.excIn K C [.type "ValueError", .type "Exception", .type "BaseException", .type "object"] "ValueError.__new__" = true
  kp : PySem.W.keepIn K (.ref C) = true
  ty : PySem.W.typeIn K (.ref C) = some (.type "type")
  ec : ExcC K C
section
variable {X : Cx} {C : Addr} {x : Str} {p pos : PySem.Pos}
theorem pmk_own0 (F : ExcF X.K X.mg x C) (hg : Gl X x := by rfl) (hdb : (x == ("__debug__" : Str)) = false := by decide) : PMk X (.Call (.Name x p) [] [] pos) (fun _ H Q => Q (.ref C) none H) := by
  intro pins s σ H Q I h
  refine PySem.wpAny_Call_Name_kw (ld_glob I hg F.at ?_ hdb)
  refine PySem.W.callWith_K0 I.kIn F.kp ?_
  show wpAny _ _ (call (.ref C) []) _ _ _
  obtain ⟨bm, N, nm, qn, bs, hdct, sn, sub, ab, col, dd, k0, k1, k2, k3, k5, mN, hC, hN, hni, T⟩ := exc_obj I.kIn F.exc
  refine wpAny_call_exc_subT PySem.F.excBase_ValueError T hC hN hni (fun h' e hm => ?_) (Nat.zero_le _)
  exact mk_of I hm (raises_own F.ec.hs F.ty) h (I.hok.gone hm.new)
end
theorem v_gTup2 {K : PySem.W.Frag} {n i j : Nat} {σ : St} {H : Hp} {Q : St → Hp → Prop} {p : Addr} {a b : V} (hn : n = 2) (h : H p = some (.tup [a, b])) (q : Q ((σ.set i (some a)).set j (some b)) H) : gTup K n (gCons (gName i) (gCons (gName j) gNil)) (.ref p) σ H Q :=
  ⟨p, _, rfl, SqT.of h, hn.symm, a, [b], rfl, b, [], rfl, rfl, q⟩
theorem e_md {C : Addr} {m : Str} {sp : Sp} {E : XK} {ta : TE} {t : TA} {σ : St} {H : Hp} {Q : VK} (q : ta σ H fun x H1 => ∃ a dx fs, x = .ref a ∧ H1 a = some (.ins C dx fs) ∧ fs.lookup m = none ∧ t σ H1 fun vs H2 => sp (x :: vs) H2 Q E) : tMeth C m sp [] E ta t σ H Q := by
  have e : tMeth C m sp [] E ta t = fun σ H Q => ta σ H fun x H1 => ∃ a dx fs, x = .ref a ∧ H1 a = some (.ins C dx fs) ∧ fs.lookup m = none ∧ t σ H1 fun vs H2 => sp (x :: vs) H2 Q E := by
    unfold tMeth
    simp only [List.append_nil]
  rw [e]
  exact q
theorem v_md {P : Addr → Prop} {C a dx : Addr} {fs : List (Str × V)} {m : Str} {H : Hp} (h : H a = some (.ins C dx fs)) (hn : fs.lookup m = none) (q : P a) : ∃ a' dx fs, V.ref a = .ref a' ∧ H a' = some (.ins C dx fs) ∧ fs.lookup m = none ∧ P a' := ⟨a, dx, fs, rfl, h, hn, q⟩
end Cw
set_option Elab.async false
set_option linter.all false
set_option maxRecDepth 100000
set_option maxHeartbeats 4000000
/-! what the laws' own helpers need: copies of dicts, pop, several names at once, walks over dicts -/
namespace Cw
open PySem PySem.Spec L2
section
variable {σ : St} {H : Hp} {Q : VK} {D : Ends} {K : PySem.W.Frag} {X : Cx}
theorem e_par {i j : Nat} {ta : TA} (q : ta σ H fun vs H1 => ∃ v w, vs = [v, w] ∧ D.nx ((σ.set i (some v)).set j (some w)) H1) : tPar i j ta D σ H := q
theorem v_par {v w : V} {P : V → V → Prop} (q : P v w) : ∃ v' w', [v, w] = [v', w'] ∧ P v' w' := ⟨v, w, rfl, q⟩
theorem e_par3 {i j l : Nat} {ta : TA} (q : ta σ H fun vs H1 => ∃ u v w, vs = [u, v, w] ∧ D.nx (((σ.set i (some u)).set j (some v)).set l (some w)) H1) : tPar3 i j l ta D σ H := q
theorem v_par3 {u v w : V} {P : V → V → V → Prop} (q : P u v w) : ∃ u' v' w', [u, v, w] = [u', v', w'] ∧ P u' v' w' := ⟨u, v, w, rfl, q⟩
theorem e_lock {t : TS} {d : Addr} {u : HO} (h : H d = some u) (m : Mut (some u)) (q : ∀ od, t ⟨fun σ' H' => H' d = some (.frz od u) ∧ D.nx σ' (upd H' d u), fun v H' => H' d = some (.frz od u) ∧ D.rt v (upd H' d u), fun σ' H' => H' d = some (.frz od u) ∧ D.bk σ' (upd H' d u), fun σ' H' => H' d = some (.frz od u) ∧ D.ct σ' (upd H' d u)⟩ σ (upd H d (.frz od u))) : tLock t D σ H := ⟨d, u, h, m, q⟩
theorem e_iK {td : TE} {R : It → Hp → Prop} (q : td σ H fun x H1 => ∃ d o, x = .ref d ∧ ((∃ kvs, H1 d = some (.frz o (.dK kvs)) ∧ R (Itk d o kvs) H1) ∨ ∃ kvs, H1 d = some (.frz o (.dT kvs)) ∧ R (Itkt d o kvs) H1)) : iKeys td σ H R := q
theorem e_dnotin {ty td : TE} (q : ty σ H fun y H1 => td σ H1 fun x H2 => ∃ a o, x = .ref a ∧ DGet H2 a y o ∧ Q (.bl (!o.isSome)) H2) : tDNotIn ty td σ H Q := q
theorem v_dnotin {a : Addr} {y : V} {o : Option V} {P : Option V → Prop} (h : DGet H a y o) (q : P o) : ∃ a' o, V.ref a = .ref a' ∧ DGet H a' y o ∧ P o := ⟨a, o, rfl, h, q⟩
end
/-! ### tables by letters -/
structure Tab (ls : List Nat) (f : Nat → List Nat) : Prop where
  nd : ls.Nodup
  lt : ∀ c ∈ ls, c ∈ LET
  len : ls.length ≤ 8
  sub : ∀ a ∈ ls, ∀ b ∈ f a, b ∈ ls ∧ b ≠ a ∧ a ∈ f b
  gl : ∀ a ∈ ls, (f a).length ≤ 8
theorem asc2_all : ∀ a ∈ LET, ∀ b ∈ LET, a < b → ascOf [a, b] = [a, b] ∧ ascOf [b, a] = [a, b] := by decide +kernel
theorem asc2 {a b : Nat} (ha : a ∈ LET) (hb : b ∈ LET) (h : a < b) : ascOf [a, b] = [a, b] ∧ ascOf [b, a] = [a, b] := asc2_all a ha b hb h
theorem pairsOf_small (f : List (List Nat)) : ∀ l ∈ pairsOf f, ∀ c ∈ l, c < 1000 := by
  intro l hl c hc
  obtain ⟨a, b, rfl, ha, hb, _⟩ := pairsOf_mem.mp hl
  have h1 := LET_lt ha
  have h2 := LET_lt hb
  simp only [List.mem_cons, List.not_mem_nil, or_false] at hc
  rcases hc with rfl | rfl <;> omega
end Cw
set_option Elab.async false
set_option linter.all false
set_option maxRecDepth 100000
set_option maxHeartbeats 4000000
/-! the drawn tables, in plain words -/
namespace Cw
open PySem PySem.Spec L2
def ABC : List (List Nat) := [[97, 98, 99, 100, 101, 102, 103, 104], [98, 100, 102, 104, 106, 108, 110, 112], [115, 116, 117, 118, 119, 120, 121, 122]]
def addRel (rel : Nat → Nat → Bool) (x y : Nat) : Nat → Nat → Bool := fun a b => rel a b || (a == x && b == y) || (a == y && b == x)
/-- which kinds cross: both ways, never with itself, kinds alone -/
structure RelOk (ls : List Nat) (rel : Nat → Nat → Bool) : Prop where
  sym : ∀ a b, rel a b = rel b a
  «in» : ∀ a b, rel a b = true → a ∈ ls ∧ b ∈ ls ∧ a ≠ b
/-- only pairs up to here -/
def Upto (ls : List Nat) (rel : Nat → Nat → Bool) (i j : Nat) : Prop := ∀ i1 j1, i1 < j1 → j1 < ls.length → rel (ls.getD i1 0) (ls.getD j1 0) = true → i1 < i ∨ (i1 = i ∧ j1 < j)
def crossBy (ls : List Nat) (rel : Nat → Nat → Bool) (c : Nat) : List Nat := ls.filter (rel c)
theorem getD_inj {ls : List Nat} (h : ls.Nodup) {i j : Nat} (hi : i < ls.length) (hj : j < ls.length) (e : ls.getD i 0 = ls.getD j 0) : i = j := by
  rw [List.getD_eq_getElem?_getD, List.getD_eq_getElem?_getD, List.getElem?_eq_getElem hi, List.getElem?_eq_getElem hj] at e
  exact (List.getElem_inj h).mp e
section
variable {ls : List Nat} {rel : Nat → Nat → Bool} {i j : Nat}
theorem RelOk.add (ok : RelOk ls rel) {x y : Nat} (hx : x ∈ ls) (hy : y ∈ ls) (ne : x ≠ y) : RelOk ls (addRel rel x y) where
  sym a b := by
    unfold addRel
    rw [ok.sym a b, Bool.or_assoc, Bool.or_assoc]
    congr 1
    rw [Bool.or_comm, Bool.and_comm, Bool.and_comm (a == x)]
  «in» a b h := by
    unfold addRel at h
    simp only [Bool.or_eq_true, Bool.and_eq_true, beq_iff_eq] at h
    rcases h with (h | ⟨rfl, rfl⟩) | ⟨rfl, rfl⟩
    · exact ok.in a b h
    · exact ⟨hx, hy, ne⟩
    · exact ⟨hy, hx, ne.symm⟩
theorem Upto.add (hn : ls.Nodup) (hij : i < j) (hj : j < ls.length) (up : Upto ls rel i j) : Upto ls (addRel rel (ls.getD i 0) (ls.getD j 0)) i (j + 1) := by
  intro i1 j1 h1 h2 h3
  unfold addRel at h3
  simp only [Bool.or_eq_true, Bool.and_eq_true, beq_iff_eq] at h3
  rcases h3 with (h | ⟨h4, h5⟩) | ⟨h4, h5⟩
  · have := up i1 j1 h1 h2 h
    omega
  · have a := getD_inj hn (by omega) (by omega) h4
    have b := getD_inj hn h2 hj h5
    omega
  · have a := getD_inj hn (by omega) hj h4
    have b := getD_inj hn h2 (by omega) h5
    omega
theorem Upto.more (up : Upto ls rel i j) : Upto ls rel i (j + 1) := fun i1 j1 h1 h2 h3 => by
  have := up i1 j1 h1 h2 h3
  omega
end
theorem walk_rI {lo : Int} {n : Nat} (f : Nat → Int) (h : ∀ k : Nat, lo + (k : Int) = f k) : Walk (Itr lo n) n (fun _ => True) (YFn fun k => .int (f k)) :=
  walk_range.mono (fun _ h => h) fun i H x H' _ _ y => ⟨y.1, by show x = V.int (f i); rw [← h i]; exact y.2⟩
theorem at_getD {ls : List Nat} {i : Nat} (h : i < ls.length) : atI ls ((i : Nat) : Int) = some (ls.getD i 0) := by
  refine atI_nat ?_
  rw [List.getD_eq_getElem?_getD, List.getElem?_eq_getElem h]
  rfl
theorem ascOf_congr {a b : List Nat} (h : ∀ c, c ∈ a ↔ c ∈ b) : ascOf a = ascOf b := by
  unfold ascOf
  exact List.filter_congr fun c _ => decide_eq_decide.mpr (h c)
/-- a drawn table: a beginning of one of the three texts -/
structure Flr (num : Nat) (ls : List Nat) (rel : Nat → Nat → Bool) : Prop where
  cut : ∃ t ∈ ABC, ∃ m, 1 ≤ m ∧ m ≤ num ∧ ls = t.take m
  ok : RelOk ls rel
theorem abc_ok : ∀ t ∈ ABC, t.Nodup ∧ (∀ c ∈ t, c ∈ LET) ∧ t.length = 8 ∧ t.Pairwise (· < ·) := by decide +kernel
section
variable {num : Nat} {ls : List Nat} {rel : Nat → Nat → Bool}
theorem cut_nd (h : ∃ t ∈ ABC, ∃ m, 1 ≤ m ∧ m ≤ num ∧ ls = t.take m) : ls.Nodup := by
  obtain ⟨t, ht, m, h1, h2, rfl⟩ := h
  exact (List.take_sublist m t).nodup (abc_ok t ht).1
theorem cut_lt (h : ∃ t ∈ ABC, ∃ m, 1 ≤ m ∧ m ≤ num ∧ ls = t.take m) : ∀ c ∈ ls, c ∈ LET := by
  obtain ⟨t, ht, m, h1, h2, rfl⟩ := h
  exact fun c hc => (abc_ok t ht).2.1 c ((List.take_sublist m t).subset hc)
theorem cut_len (h : ∃ t ∈ ABC, ∃ m, 1 ≤ m ∧ m ≤ num ∧ ls = t.take m) : ls.length ≤ 8 ∧ ls.length ≤ num ∧ 1 ≤ ls.length := by
  obtain ⟨t, ht, m, h1, h2, rfl⟩ := h
  have := (abc_ok t ht).2.2.1
  rw [List.length_take]
  omega
theorem cut_lt' (h : ∃ t ∈ ABC, ∃ m, 1 ≤ m ∧ m ≤ num ∧ ls = t.take m) : ls.Pairwise (· < ·) := by
  obtain ⟨t, ht, m, h1, h2, rfl⟩ := h
  exact List.Pairwise.sublist (List.take_sublist m t) (abc_ok t ht).2.2.2
theorem Flr.tab (h : Flr num ls rel) : Tab ls (crossBy ls rel) where
  nd := cut_nd h.cut
  lt := cut_lt h.cut
  len := (cut_len h.cut).1
  sub a ha b hb := by
    obtain ⟨h1, h2⟩ := List.mem_filter.mp hb
    refine ⟨h1, (h.ok.in a b h2).2.2.symm, List.mem_filter.mpr ⟨ha, ?_⟩⟩
    rw [h.ok.sym]
    exact h2
  gl a ha := Nat.le_trans (List.length_filter_le _ _) (cut_len h.cut).1
end
end Cw
set_option Elab.async false
set_option linter.all false
set_option maxRecDepth 100000
set_option maxHeartbeats 4000000
/-! calls within a try; calls that raise nothing after all -/
namespace Cw
open PySem PySem.Spec L2
section
variable {P : Program} {w : World} {K : PySem.W.Frag} {mg : Str → Option Value} {base : Heap} {k : Nat} {f : Addr} {fd : FuncData} {ps : List Str} {sp : Sp}
/-- a promise whose wishes for errors are none -/
def calmOf (sp : Sp) : Sp := fun vs H Q _ => sp vs H Q fun _ _ _ => False
theorem calm_fn (F : FnOk P w K mg base (L2.CX P w) k f fd ps sp) : FnOk P w K mg base CX0 k f fd ps (calmOf sp) := by
  refine ⟨fun vs H Q E h => F.len _ _ _ _ h, fun A outer s H args us vs Q E hr e0 hb hv h => ?_⟩
  refine codeAny_mono (F.run A outer s H args us vs Q (fun _ _ _ => False) hr e0 hb hv h) fun r s' q => ?_
  cases r with
  | ok fl => cases fl <;> exact q
  | error e =>
    obtain ⟨a, B, H', cls, d, _, _, _, _, _, _, _, z⟩ := q
    exact z.elim
theorem Def.calm {x : Str} (D : Def P w K mg base (L2.CX P w) k x ps sp) : Def P w K mg base CX0 k x ps (calmOf sp) := by
  obtain ⟨f, fd, a, b, c, d⟩ := D.ex
  exact ⟨f, fd, a, b, c, calm_fn d⟩
theorem MDef.calm {C : Addr} {m : Str} (D : MDef P w K mg base (L2.CX P w) k C m ps sp) : MDef P w K mg base CX0 k C m ps (calmOf sp) := by
  obtain ⟨f, fd, a, b, c, d, e⟩ := D.ex
  exact ⟨f, fd, a, b, c, d, calm_fn e⟩
end
section
variable {X : Cx} {CX : CXT} {k : Nat} {C : Addr} {x m : Str} {ps : List Str} {sp : Sp} {E : St → XK} {p pos apos : PySem.Pos} {o e : Expr} {es : List Expr} {ta : TE} {t : TA}
def tMethS (C : Addr) (m : Str) (sp : Sp) (E : St → XK) (ta : TE) (t : TA) : TE := fun σ H Q => ta σ H fun x H1 => ∃ a dx fs, x = .ref a ∧ H1 a = some (.ins C dx fs) ∧ fs.lookup m = none ∧ t σ H1 fun vs H2 => sp (x :: vs) H2 Q (E σ)
end
/-- a try with one clause, its reading by name -/
def tTryA (K : PySem.W.Frag) (c : Value) (i : Nat) (ts : Addr → Value → Option Addr → TS) (Wout : WX) (tb : WX → TS) : TS := fun D σ H => tb (wAs K c i ts Wout D) D σ H
theorem e_tryA {K : PySem.W.Frag} {c : Value} {i : Nat} {ts : Addr → Value → Option Addr → TS} {Wout : WX} {tb : WX → TS} {D : Ends} {σ : St} {H : Hp} (q : tb (wAs K c i ts Wout D) D σ H) : tTryA K c i ts Wout tb D σ H := q
section
variable {σ : St} {H : Hp} {Q : VK} {C : Addr} {m : Str} {sp : Sp} {E : St → XK} {ta : TE} {t : TA}
theorem e_callS (q : t σ H fun vs H1 => sp vs H1 Q (E σ)) : tCallS sp E t σ H Q := q
theorem e_mdS (q : ta σ H fun x H1 => ∃ a dx fs, x = .ref a ∧ H1 a = some (.ins C dx fs) ∧ fs.lookup m = none ∧ t σ H1 fun vs H2 => sp (x :: vs) H2 Q (E σ)) : tMethS C m sp E ta t σ H Q := q
end
theorem s_asgT {te : TE} {K : PySem.W.Frag} {n : Nat} {t : TGs} {D : Ends} {σ : St} {H : Hp} (q : te σ H fun v H1 => gTup K n t v σ H1 fun σ' H' => D.nx σ' H') : tAsg te (gTup K n t) D σ H := q
theorem e_pr {tk tv : TE} {r : List (TE × TE)} {σ : St} {H : Hp} {Q : List (V × V) → Hp → Prop} (q : tk σ H fun x H1 => tv σ H1 fun y H2 => tPairs r σ H2 fun ps H3 => Q ((x, y) :: ps) H3) : tPairs ((tk, tv) :: r) σ H Q := q
theorem e_pr0 {σ : St} {H : Hp} {Q : List (V × V) → Hp → Prop} (q : Q [] H) : tPairs [] σ H Q := q
theorem e_disp {trs : List (TE × TE)} {σ : St} {H : Hp} {Q : VK} (q : ∀ p, H p = none → tPairs trs σ (upd H p (.dK [])) fun ps H2 => H2 p = some (.dK []) ∧ ∃ kvs : List (Key × V), ps = kvs.map (fun kv => (kV kv.1, kv.2)) ∧ kvs.length ≤ 15 ∧ Q (.ref p) (upd H2 p (.dK (mergeK [] kvs)))) : tDisp trs σ H Q := q
theorem sqL_same {K : PySem.W.Frag} {H H' : Hp} {a : Addr} {xs : List V} (h : SqL K H a xs) (s : Same H H') : SqL K H' a xs := by
  rcases h with (h | ⟨o, h⟩) | h
  · exact .inl (.inl (s _ _ h))
  · exact .inl (.inr ⟨o, s _ _ h⟩)
  · exact .inr h
theorem v_slL {K : PySem.W.Frag} {H : Hp} {Q : VK} {a : Addr} {xs : List V} {lo hi : Option Int} (h : SqL K H a xs) (q : ∀ p H', H p = none → Same H H' → H' p = some (.lst (cutV xs lo hi)) → Q (.ref p) H') : rSlL K (.ref a) lo hi H Q := ⟨a, xs, rfl, h, fun p hp => q p _ hp (Same.new hp) upd_same⟩
end Cw
set_option Elab.async false
set_option linter.all false
set_option maxRecDepth 100000
set_option maxHeartbeats 4000000
/-! plans that are not equal, in plain words -/
namespace Cw
open PySem PySem.Spec L2
theorem pairsOf_nodup (f : List (List Nat)) : (pairsOf f).Nodup := by
  have h : ∀ l : List Nat, l.Nodup → (l.flatMap fun a => (LET.filter fun b => decide ([a, b] ∈ f)).map fun b => [a, b]).Nodup := by
    intro l
    induction l with
    | nil => intro _; exact List.nodup_nil
    | cons c r ih =>
      intro hn
      rw [List.nodup_cons] at hn
      rw [List.flatMap_cons, List.nodup_append]
      refine ⟨?_, ih hn.2, ?_⟩
      · have : (LET.filter fun b => decide ([c, b] ∈ f)).Nodup := (LET_nodup.filter fun b => decide ([c, b] ∈ f))
        generalize LET.filter (fun b => decide ([c, b] ∈ f)) = m at this ⊢
        induction m with
        | nil => exact List.nodup_nil
        | cons x y ih2 =>
          rw [List.nodup_cons] at this
          rw [List.map_cons, List.nodup_cons]
          refine ⟨?_, ih2 this.2⟩
          intro z
          obtain ⟨w, hw, e⟩ := List.mem_map.mp z
          injection e with _ e
          injection e with e
          exact this.1 (e ▸ hw)
      · intro p hp q hq e
        subst e
        obtain ⟨b, _, e1⟩ := List.mem_map.mp hp
        obtain ⟨a, ha, hm⟩ := List.mem_flatMap.mp hq
        obtain ⟨b', _, e2⟩ := List.mem_map.mp hm
        have e3 := e1.trans e2.symm
        injection e3 with e3
        exact hn.1 (e3 ▸ ha)
  exact h LET LET_nodup
section
variable {K : PySem.W.Frag} {H : Hp} {Q : VK} {p q : Addr} {n m : Int} {a b : List Nat}
end
end Cw
set_option Elab.async false
set_option linter.all false
set_option maxRecDepth 100000
set_option maxHeartbeats 4000000
/-! list(text) -/
namespace Cw
open PySem PySem.Spec L2
end Cw
set_option Elab.async false
set_option linter.all false
set_option maxRecDepth 100000
set_option maxHeartbeats 4000000
/-! xs != ys of lists: their lengths differ, or they hold the same objects -/
namespace Cw
open PySem PySem.Spec L2
end Cw
set_option Elab.async false
set_option linter.all false
set_option maxRecDepth 100000
set_option maxHeartbeats 4000000
/-! names in plain words: no letter stands behind a greater or an equal one that it could be exchanged back to -/
namespace Cw
structure CrOk (cr : Nat → List Nat) : Prop where
  sym : ∀ a b, a ∈ cr b → b ∈ cr a
  irr : ∀ a, ¬ a ∈ cr a
/-- s may stand behind the letters of the list (the nearest first) -/
def okAt (cr : Nat → List Nat) (s : Nat) : List Nat → Prop
  | [] => True
  | t :: r => t ≠ s ∧ (t ∈ cr s → t < s ∧ okAt cr s r)
/-- a name, its last letter first -/
def NFr (cr : Nat → List Nat) : List Nat → Prop
  | [] => True
  | s :: r => okAt cr s r ∧ NFr cr r
def NF (cr : Nat → List Nat) (w : List Nat) : Prop := NFr cr w.reverse
section
variable {cr : Nat → List Nat} {s k x : Nat} {d e : List Nat}
theorem okAt_app : ∀ {q : List Nat}, okAt cr s (q ++ e) → (∀ y ∈ q, y ∈ cr s) → okAt cr s e
  | [], h, _ => h
  | y :: q, h, hq => okAt_app (q := q) (h.2 (hq y (List.mem_cons_self ..))).2 fun z hz => hq z (List.mem_cons_of_mem _ hz)
theorem okAt_lt : ∀ {q : List Nat}, okAt cr s (q ++ e) → (∀ y ∈ q, y ∈ cr s) → ∀ y ∈ q, y < s
  | [], _, _, y, hy => nomatch hy
  | z :: q, h, hq, y, hy => by
    have h2 := h.2 (hq z (List.mem_cons_self ..))
    rcases List.mem_cons.mp hy with rfl | hy
    · exact h2.1
    · exact okAt_lt h2.2 (fun z hz => hq z (List.mem_cons_of_mem _ hz)) y hy
theorem okAt_remove (hk : k ∈ cr s) : ∀ {q : List Nat}, okAt cr s (q ++ k :: e) → okAt cr s (q ++ e)
  | [], h => (h.2 hk).2
  | y :: q, h => ⟨h.1, fun z => ⟨(h.2 z).1, okAt_remove hk (h.2 z).2⟩⟩
theorem okAt_insert (hk : k ≠ s) : ∀ {q : List Nat}, okAt cr s (q ++ e) → ((∀ y ∈ q, y ∈ cr s) → k < s) → okAt cr s (q ++ k :: e)
  | [], h, hl => ⟨hk, fun _ => ⟨hl (fun _ z => nomatch z), h⟩⟩
  | y :: q, h, hl => ⟨h.1, fun z => ⟨(h.2 z).1, okAt_insert hk (h.2 z).2 fun hq => hl fun w hw => by
      rcases List.mem_cons.mp hw with rfl | hw
      · exact z
      · exact hq w hw⟩⟩
theorem NFr_right : ∀ {a b : List Nat}, NFr cr (a ++ b) → NFr cr b
  | [], _, h => h
  | _ :: a, b, h => NFr_right (a := a) h.2
theorem NFr_remove (ok : CrOk cr) : ∀ {d : List Nat}, (∀ y ∈ d, y ∈ cr k) → NFr cr (d ++ k :: e) → NFr cr (d ++ e)
  | [], _, h => h.2
  | y :: d, hd, h => ⟨okAt_remove (ok.sym _ _ (hd y (List.mem_cons_self ..))) h.1, NFr_remove ok (fun z hz => hd z (List.mem_cons_of_mem _ hz)) h.2⟩
theorem NFr_insert (ok : CrOk cr) {h0 : Nat} (hh : k < h0) (hok : okAt cr k e) : ∀ {d : List Nat}, (∀ y ∈ d, y ∈ cr k) → NFr cr (d ++ h0 :: e) → h0 ∈ cr k → NFr cr (d ++ h0 :: k :: e)
  | [], _, h, hc => ⟨okAt_insert (q := []) (by omega) h.1 fun _ => hh, hok, h.2⟩
  | y :: d, hd, h, hc => by
    have hy := hd y (List.mem_cons_self ..)
    refine ⟨?_, NFr_insert ok hh hok (fun z hz => hd z (List.mem_cons_of_mem _ hz)) h.2 hc⟩
    have h1 : okAt cr y ((d ++ [h0]) ++ e) := by
      rw [List.append_assoc]
      exact h.1
    have h2 : okAt cr y ((d ++ [h0]) ++ k :: e) := okAt_insert (fun z : k = y => ok.irr k (by rw [← z] at hy; exact hy)) h1 fun hq => by
      have := okAt_lt h1 hq h0 (by simp)
      omega
    rw [List.append_assoc] at h2
    exact h2
/-! ### what a step does -/
theorem splitB_spec (part : List Nat) : ∀ ra b : List Nat, ∃ c, (splitB part ra b).2 = c ++ b ∧ (∀ y ∈ c, y ∈ part) ∧ ra = c.reverse ++ (splitB part ra b).1 ∧ ∀ y, (splitB part ra b).1.head? = some y → ¬ y ∈ part
  | [], b => ⟨[], rfl, fun _ z => (nomatch z), rfl, fun _ z => (nomatch z)⟩
  | y :: r, b => by
    unfold splitB
    by_cases h : y ∈ part
    · rw [if_pos h]
      obtain ⟨c, h1, h2, h3, h4⟩ := splitB_spec part r (y :: b)
      refine ⟨c ++ [y], by rw [h1, List.append_assoc]; rfl, fun z hz => ?_, ?_, h4⟩
      · rcases List.mem_append.mp hz with z | z
        · exact h2 _ z
        · rw [List.mem_singleton.mp z]
          exact h
      · rw [List.reverse_append]
        show y :: r = y :: (c.reverse ++ _)
        rw [← h3]
    · rw [if_neg h]
      refine ⟨[], rfl, fun _ z => (nomatch z), rfl, fun z hz => ?_⟩
      injection hz with hz
      exact hz ▸ h
/-- the two ways of a step, the name's last letter first: d are exchanged, then the kind is found or not -/
theorem stepOf_cases (part name : List Nat) (k : Nat) : ∃ d e : List Nat, name.reverse = d ++ e ∧ (∀ y ∈ d, y ∈ part) ∧ (∀ y, e.head? = some y → ¬ y ∈ part) ∧
    ((∃ e', e = k :: e' ∧ (stepOf part name k).reverse = d ++ e') ∨ (e.head? ≠ some k ∧ (stepOf part name k).reverse = (putIn k d.reverse).reverse ++ e)) := by
  obtain ⟨c, h1, h2, h3, h4⟩ := splitB_spec part name.reverse []
  rw [List.append_nil] at h1
  refine ⟨c.reverse, (splitB part name.reverse []).1, h3, fun y hy => h2 y (List.mem_reverse.mp hy), h4, ?_⟩
  unfold stepOf
  rw [h1]
  generalize (splitB part name.reverse []).1 = ra
  unfold stepAt
  by_cases hc : ra.head? = some k
  · rw [if_pos hc]
    cases ra with
    | nil => cases hc
    | cons y r =>
      injection hc with hc
      subst hc
      exact .inl ⟨r, rfl, by simp⟩
  · rw [if_neg hc]
    exact .inr ⟨hc, by simp⟩
/-- the letters below k, the others -/
theorem putIn_split (k : Nat) (b : List Nat) : ∃ b1 b2, b = b1 ++ b2 ∧ putIn k b = b1 ++ k :: b2 ∧ (∀ y ∈ b1, y < k) ∧ ∀ y, b2.head? = some y → ¬ y < k := by
  refine ⟨b.takeWhile (fun c => decide (c < k)), b.dropWhile (fun c => decide (c < k)), List.takeWhile_append_dropWhile.symm, rfl, fun y hy => ?_, fun y hy => ?_⟩
  · have := List.all_eq_true.mp (List.all_takeWhile (p := fun c => decide (c < k)) (l := b)) y hy
    exact of_decide_eq_true this
  · have := List.head?_dropWhile_not (fun c => decide (c < k)) b
    rw [hy] at this
    simpa using this
theorem okAt_all : ∀ {q : List Nat}, (∀ y ∈ q, y < k) → okAt cr k e → (∀ y ∈ q, y ∈ cr k) → okAt cr k (q ++ e)
  | [], _, h, _ => h
  | y :: q, hl, h, hq => ⟨by have := hl y (List.mem_cons_self ..); omega, fun _ => ⟨hl y (List.mem_cons_self ..), okAt_all (fun z hz => hl z (List.mem_cons_of_mem _ hz)) h fun z hz => hq z (List.mem_cons_of_mem _ hz)⟩⟩
theorem okAt_stop (h1 : e.head? ≠ some k) (h2 : ∀ y, e.head? = some y → ¬ y ∈ cr k) : okAt cr k e := by
  cases e with
  | nil => trivial
  | cons y r => exact ⟨fun z => h1 (by rw [z]; rfl), fun z => absurd z (h2 y rfl)⟩
theorem NF_step (ok : CrOk cr) {name : List Nat} (h : NF cr name) : NF cr (stepOf (cr k) name k) := by
  obtain ⟨d, e, e1, hd, he, hc⟩ := stepOf_cases (cr k) name k
  unfold NF at h ⊢
  rw [e1] at h
  rcases hc with ⟨e', rfl, e2⟩ | ⟨hk, e2⟩
  · rw [e2]
    exact NFr_remove ok hd h
  · rw [e2]
    obtain ⟨b1, b2, eb, ep, hb1, hb2⟩ := putIn_split k d.reverse
    have ed : d = b2.reverse ++ b1.reverse := by
      have := congrArg List.reverse eb
      rw [List.reverse_reverse, List.reverse_append] at this
      exact this
    rw [ep, List.reverse_append, List.reverse_cons]
    have hd1 : ∀ y ∈ b1.reverse, y ∈ cr k := fun y hy => hd y (by rw [ed]; exact List.mem_append_right _ hy)
    have hok : okAt cr k (b1.reverse ++ e) := okAt_all (fun y hy => hb1 y (List.mem_reverse.mp hy)) (okAt_stop hk he) hd1
    have hn : NFr cr (b1.reverse ++ e) := by
      rw [ed, List.append_assoc] at h
      exact NFr_right h
    cases b2 with
    | nil =>
      show NFr cr (([] ++ [k] ++ b1.reverse) ++ e)
      exact ⟨hok, hn⟩
    | cons y r =>
      have hy : ¬ y < k := hb2 y rfl
      have hyc : y ∈ cr k := hd y (by rw [ed]; simp)
      have hne : y ≠ k := fun z => ok.irr k (z ▸ hyc)
      have e3 : ((y :: r).reverse ++ [k] ++ b1.reverse) ++ e = r.reverse ++ y :: k :: (b1.reverse ++ e) := by simp
      rw [e3]
      refine NFr_insert ok (by omega) hok (fun z hz => hd z (by rw [ed, List.reverse_cons]; exact List.mem_append_left _ (List.mem_append_left _ hz))) ?_ hyc
      rw [ed] at h
      have e4 : ((y :: r).reverse ++ b1.reverse) ++ e = r.reverse ++ y :: (b1.reverse ++ e) := by simp
      rw [e4] at h
      exact h
end
/-! ### ways -/
def joinC (cr : Nat → List Nat) (name way : List Nat) : List Nat := way.foldl (fun n k => stepOf (cr k) n k) name
theorem joinOf_C (ks : List Nat) (ps : List (List Nat)) (name way : List Nat) : joinOf ks ps name way = joinC (crossOf ks ps) name way := rfl
section
variable {cr : Nat → List Nat}
theorem NF_join (ok : CrOk cr) : ∀ {way name : List Nat}, NF cr name → NF cr (joinC cr name way)
  | [], _, h => h
  | k :: r, name, h => NF_join (way := r) ok (NF_step ok h)
theorem NF_nil : NF cr [] := trivial
/-- the same by any two letters -/
theorem NF.two {w : List Nat} (h : NF cr w) {p q r : List Nat} {t s : Nat} (e : w = p ++ t :: (q ++ s :: r)) (hq : ∀ y ∈ q, y ∈ cr s) : t ≠ s ∧ (t ∈ cr s → t < s) := by
  unfold NF at h
  have e2 : w.reverse = r.reverse ++ s :: (q.reverse ++ t :: p.reverse) := by rw [e]; simp
  rw [e2] at h
  have h1 := (NFr_right h).1
  have h2 := okAt_app h1 fun y hy => hq y (List.mem_reverse.mp hy)
  exact ⟨h2.1, fun z => (h2.2 z).1⟩
end
end Cw
set_option Elab.async false
set_option linter.all false
set_option maxRecDepth 100000
set_option maxHeartbeats 4000000
/-! ascending pairs of kinds -/
namespace Cw
open PySem PySem.Spec L2
def pairLt (p q : List Nat) : Prop := p.getD 0 0 < q.getD 0 0 ∨ (p.getD 0 0 = q.getD 0 0 ∧ p.getD 1 0 < q.getD 1 0)
theorem pairLt_mk {a b c d : Nat} : pairLt [a, b] [c, d] ↔ a < c ∨ (a = c ∧ b < d) := Iff.rfl
theorem LET_asc : LET.Pairwise (· < ·) := by decide +kernel
theorem pairsOf_sorted (f : List (List Nat)) : (pairsOf f).Pairwise pairLt := by
  unfold pairsOf
  have key : ∀ l : List Nat, l.Pairwise (· < ·) → (l.flatMap fun a => (LET.filter fun b => decide ([a, b] ∈ f)).map fun b => [a, b]).Pairwise pairLt := by
    intro l
    induction l with
    | nil => intro _; exact .nil
    | cons a r ih =>
      intro h
      obtain ⟨h1, h2⟩ := List.pairwise_cons.mp h
      rw [List.flatMap_cons]
      refine List.pairwise_append.mpr ⟨?_, ih h2, ?_⟩
      · refine List.pairwise_map.mpr ((List.Pairwise.filter _ LET_asc).imp fun {x y} h => ?_)
        exact .inr ⟨rfl, h⟩
      · intro p hp q hq
        obtain ⟨x, _, rfl⟩ := List.mem_map.mp hp
        obtain ⟨c, hc, hq⟩ := List.mem_flatMap.mp hq
        obtain ⟨y, _, rfl⟩ := List.mem_map.mp hq
        exact .inl (h1 c hc)
  exact key LET LET_asc
theorem pairLt_irr {p q : List Nat} (h : pairLt p q) : p ≠ q := by
  rintro rfl
  unfold pairLt at h
  omega
/-- the pairs of a plan with the kinds ls, ascending -/
structure Prs (ls : List Nat) (ps : List (List Nat)) : Prop where
  srt : ps.Pairwise pairLt
  mem : ∀ p ∈ ps, ∃ a b, p = [a, b] ∧ a < b ∧ a ∈ ls ∧ b ∈ ls
theorem prs_eq {ls : List Nat} {ps f : List (List Nat)} (h : Prs ls ps) (hl : ∀ c ∈ ls, c ∈ LET) (e : ∀ a b, a ∈ LET → b ∈ LET → ([a, b] ∈ f ↔ [a, b] ∈ ps)) : pairsOf f = ps := by
  have nd1 : (pairsOf f).Nodup := pairsOf_nodup f
  have nd2 : ps.Nodup := h.srt.imp fun {a b} z => pairLt_irr z
  have p : (pairsOf f).Perm ps := (List.perm_ext_iff_of_nodup nd1 nd2).mpr fun q => by
    rw [pairsOf_mem]
    constructor
    · rintro ⟨a, b, rfl, ha, hb, hm⟩
      exact (e a b ha hb).mp hm
    · intro hq
      obtain ⟨a, b, rfl, _, ha, hb⟩ := h.mem q hq
      exact ⟨a, b, rfl, hl a ha, hl b hb, (e a b (hl a ha) (hl b hb)).mpr hq⟩
  refine p.eq_of_pairwise (le := pairLt) (fun a b ha hb h1 h2 => ?_) (pairsOf_sorted f) h.srt
  unfold pairLt at h1 h2
  omega
theorem Prs.filter {ls : List Nat} {ps : List (List Nat)} (h : Prs ls ps) (t : List Nat → Bool) : Prs ls (ps.filter t) := ⟨h.srt.sublist List.filter_sublist, fun p hp => h.mem p (List.mem_filter.mp hp).1⟩
theorem crossOf_mem {ls : List Nat} {ps : List (List Nat)} {a b : Nat} : b ∈ crossOf ls ps a ↔ b ∈ ls ∧ ([a, b] ∈ ps ∨ [b, a] ∈ ps) := by
  unfold crossOf
  rw [List.mem_filter, Bool.or_eq_true, decide_eq_true_iff, decide_eq_true_iff]
theorem Prs.in_ls {ls : List Nat} {ps : List (List Nat)} (h : Prs ls ps) {a b : Nat} (m : [a, b] ∈ ps) : a < b ∧ a ∈ ls ∧ b ∈ ls := by
  obtain ⟨x, y, e, l, hx, hy⟩ := h.mem _ m
  injection e with e1 e2
  injection e2 with e2 _
  subst e1
  subst e2
  exact ⟨l, hx, hy⟩
theorem Prs.ok {ls : List Nat} {ps : List (List Nat)} (h : Prs ls ps) : CrOk (crossOf ls ps) where
  sym a b hb := by
    obtain ⟨h1, h2⟩ := crossOf_mem.mp hb
    refine crossOf_mem.mpr ⟨?_, h2.symm⟩
    rcases h2 with z | z
    · exact (h.in_ls z).2.1
    · exact (h.in_ls z).2.2
  irr a ha := by
    obtain ⟨_, h2⟩ := crossOf_mem.mp ha
    rcases h2 with z | z
    · exact Nat.lt_irrefl _ (h.in_ls z).1
    · exact Nat.lt_irrefl _ (h.in_ls z).1
theorem Prs.tab {ls : List Nat} {ps : List (List Nat)} (h : Prs ls ps) (nd : ls.Nodup) (lt : ∀ c ∈ ls, c ∈ LET) (l8 : ls.length ≤ 8) : Tab ls (crossOf ls ps) where
  nd := nd
  lt := lt
  len := l8
  sub a ha b hb := by
    obtain ⟨h1, h2⟩ := crossOf_mem.mp hb
    refine ⟨h1, fun e => ?_, crossOf_mem.mpr ⟨ha, h2.symm⟩⟩
    subst e
    rcases h2 with z | z
    · exact Nat.lt_irrefl _ (h.in_ls z).1
    · exact Nat.lt_irrefl _ (h.in_ls z).1
  gl a ha := Nat.le_trans (List.length_filter_le _ _) l8
theorem asc_two {a b : Nat} (ha : a ∈ LET) (hb : b ∈ LET) (h : a < b) : ascOf [a, b] = [a, b] ∧ ascOf [b, a] = [a, b] := by
  have p : (ascOf [a, b]).Perm [a, b] := by
    refine (List.perm_ext_iff_of_nodup (ascOf_nodup _) (by simp; omega)).mpr fun c => ?_
    rw [ascOf_mem]
    refine ⟨fun z => z.2, fun z => ⟨?_, z⟩⟩
    simp only [List.mem_cons, List.not_mem_nil, or_false] at z
    rcases z with rfl | rfl
    · exact ha
    · exact hb
  have s1 : (ascOf [a, b]).Pairwise (· < ·) := List.Pairwise.filter _ LET_asc
  have e : ascOf [a, b] = [a, b] := p.eq_of_pairwise (fun a b _ _ h1 h2 => by omega) s1 (by simp [h])
  exact ⟨e, by rw [ascOf_congr (b := [a, b]) fun c => by simp [or_comm]]; exact e⟩
end Cw
set_option Elab.async false
set_option linter.all false
set_option maxRecDepth 100000
set_option maxHeartbeats 4000000
/-! text[lo:hi:step] with a step that is drawn -/
namespace Cw
open PySem PySem.Spec L2
section
variable {X : Cx}
end
end Cw
set_option Elab.async false
set_option linter.all false
set_option maxRecDepth 100000
set_option maxHeartbeats 4000000
/-! abs(n) -/
namespace Cw
open PySem PySem.Spec PyProof.Rows L2
def rAbs : List V → Hp → VK → Prop := fun xs H Q => ∃ i : Int, xs = [.int i] ∧ Q (.int (if i < 0 then -i else i)) H
theorem c_abs {X : Cx} : CallR X (.builtin "abs") rAbs := by
  intro pins s σ H xs us Q I r h
  obtain ⟨i, rfl, q⟩ := h
  obtain ⟨u, rfl, t, rfl⟩ := vals1 r
  exact call_abs_int fun u tk => ⟨.int (if i < 0 then -i else i), H, I.tok _, ⟨_, rfl⟩, q⟩
theorem v_abs {H : Hp} {Q : VK} {i : Int} (q : Q (.int (if i < 0 then -i else i)) H) : rAbs [.int i] H Q := ⟨i, rfl, q⟩
end Cw
set_option Elab.async false
set_option linter.all false
set_option maxRecDepth 100000
set_option maxHeartbeats 4000000
/-! calls with keywords and with defaults, by where each parameter comes from -/
namespace Cw
open PySem PySem.Spec L2
/-- a parameter's value: the i-th that is given, a default, a keyword's -/
inductive Src where
  | pos (i : Nat)
  | dfl (i : Nat)
  | kw (i : Nat)
def Src.up : Src → Src
  | .pos i => .pos (i + 1)
  | .dfl i => .dfl i
  | .kw i => .kw i
def getS {α : Type} (us its ws : List α) : Src → Option α
  | .pos i => us[i]?
  | .dfl i => its[i]?
  | .kw i => ws[i]?
def gS (ss : List Src) {α : Type} (us its ws : List α) : List α := ss.filterMap (getS us its ws)
theorem vals_get : ∀ {vs : List V} {us : List Value}, Vals vs us → ∀ i : Nat, (vs[i]? = none ∧ us[i]? = none) ∨ ∃ v u, vs[i]? = some v ∧ us[i]? = some u ∧ RelV v u
  | _, _, .nil, i => .inl ⟨rfl, rfl⟩
  | _, _, .cons r t, 0 => .inr ⟨_, _, rfl, rfl, r⟩
  | _, _, .cons r t, i + 1 => by
    have := vals_get t i
    simpa using this
theorem gS_rel {vs ds zs : List V} {us its ws : List Value} (r1 : Vals vs us) (r2 : Vals ds its) (r3 : Vals zs ws) : ∀ ss : List Src, Vals (gS ss vs ds zs) (gS ss us its ws)
  | [] => .nil
  | s :: ss => by
    have ih := gS_rel r1 r2 r3 ss
    have key : (getS vs ds zs s = none ∧ getS us its ws s = none) ∨ ∃ v u, getS vs ds zs s = some v ∧ getS us its ws s = some u ∧ RelV v u := by
      cases s with
      | pos i => exact vals_get r1 i
      | dfl i => exact vals_get r2 i
      | kw i => exact vals_get r3 i
    unfold gS at ih ⊢
    rcases key with ⟨a, b⟩ | ⟨v, u, a, b, r⟩
    · rw [List.filterMap_cons_none a, List.filterMap_cons_none b]
      exact ih
    · rw [List.filterMap_cons_some a, List.filterMap_cons_some b]
      exact .cons r ih
/-- how a call binds its n values and its keywords ks -/
abbrev KB (K : PySem.W.Frag) (fd : FuncData) (ps : List Str) (n : Nat) (ks : List Str) (ss : List Src) (dvs : List V) : Prop := ∃ g, KBn K fd ps n ks g (fun vs zs => gS ss vs dvs zs)
section
variable {K : PySem.W.Frag} {x qual : Str} {params : Arguments} {body : List Stmt} {scope : Scope} {dvs : List V} {f : Addr} {fd : FuncData} {ps : List Str}
theorem FunD.kb (F : FunD K x qual params body scope dvs [] f fd) (n : Nat) (ks : List Str) (ss : List Src) (hd : dvs ≠ [])
    (h : ∀ (T : Addr) (kV doc pm : Value) (an : Option Addr) (cdv ct : Value) (us its ws : List Value), us.length = n → its.length = dvs.length → ws.length = ks.length →
      ∃ k, bindArgs (PySem.W.fnOf x qual params body scope (.ref T) kV doc pm an cdv ct) ⟨us, ks.zip ws⟩ = seqItems? (.ref T) >>= k ∧ k (some its.toArray) = pure (ps.zip (gS ss us its ws))) : KB K fd ps n ks ss dvs := by
  obtain ⟨its, b⟩ := F.kbindsD (ps := ps) n ks (fun {_} vs ds zs => gS ss vs ds zs) hd (fun r1 r2 r3 => gS_rel r1 r2 r3 ss) h
  exact ⟨_, b⟩
end
/-- C(..) by n values and the keywords ks -/
structure CDefN (P : Program) (w : World) (K : PySem.W.Frag) (mg : Str → Option Value) (base : Heap) (CX : CXT) (k : Nat) (x : Str) (C : Addr) (sp : Sp) (n : Nat) (ks : List Str) (ss : List Src) (dvs : List V) : Prop where
  ex : ∃ f fd ps sp0, mg x = some (.ref C) ∧ Mk K C f ∧ KB K fd ps (n + 1) ks (.pos 0 :: ss.map Src.up) dvs ∧ FnOk P w K mg base CX k f fd ps sp0 ∧ Conv C sp0 sp
/-- the reading of such a call -/
def tCN (sp : Sp) (n m : Nat) (ss : List Src) (dvs : List V) (E : XK) (t tk : TA) : TE := fun σ H Q => t σ H fun vs H1 => tk σ H1 fun zs H2 => vs.length = n ∧ zs.length = m ∧ sp (gS ss vs dvs zs) H2 Q E
section
variable {P : Program} {w : World} {K : PySem.W.Frag} {mg : Str → Option Value} {base : Heap} {CX : CXT} {k : Nat} {C : Addr} {x qual : Str} {sp : Sp} {st : Stmt} {dvs : List V} {n : Nat} {ks : List Str} {ss : List Src}
theorem CDefN.mono {j : Nat} (D : CDefN P w K mg base CX j x C sp n ks ss dvs) (h : j ≤ k) : CDefN P w K mg base CX k x C sp n ks ss dvs := by
  obtain ⟨f, fd, ps, sp0, a, b, c, d, e⟩ := D.ex
  exact ⟨f, fd, ps, sp0, a, b, c, d.mono h, e⟩
theorem CMk.kw {ps : List Str} (D : CMk P w K mg base CX k x C sp ps qual st dvs) (n : Nat) (ks : List Str) (ss : List Src) (hd : dvs ≠ [])
    (h : ∀ (T : Addr) (kV doc pm : Value) (an : Option Addr) (cdv ct : Value) (us its ws : List Value), us.length = n + 1 → its.length = dvs.length → ws.length = ks.length →
      ∃ k, bindArgs (PySem.W.fnOf "__init__" qual (defArgs st) (defBody st) (defScope st) (.ref T) kV doc pm an cdv ct) ⟨us, ks.zip ws⟩ = seqItems? (.ref T) >>= k ∧ k (some its.toArray) = pure (ps.zip (gS (.pos 0 :: ss.map Src.up) us its ws))) : CDefN P w K mg base CX k x C sp n ks ss dvs := by
  obtain ⟨f, fd, sp0, a, b, c, d, e, G⟩ := D.ex
  exact ⟨f, fd, ps, sp0, a, b, FunD.kb G (n + 1) ks _ hd h, d, e⟩
end
section
variable {X : Cx} {CX : CXT} {k n : Nat} {sp : Sp} {E : XK} {x : Str} {C : Addr} {p pos : PySem.Pos} {e : Expr} {es : List Expr} {kws : List Keyword} {t tk : TA} {ks : List Str} {ss : List Src} {dvs : List V}
end
/-! ### defs and methods by keywords -/
structure DefN (P : Program) (w : World) (K : PySem.W.Frag) (mg : Str → Option Value) (base : Heap) (CX : CXT) (k : Nat) (x : Str) (sp : Sp) (n : Nat) (ks : List Str) (ss : List Src) (dvs : List V) : Prop where
  ex : ∃ f fd ps, mg x = some (.ref f) ∧ PySem.W.keepIn K (.ref f) = true ∧ KB K fd ps n ks ss dvs ∧ FnOk P w K mg base CX k f fd ps sp
structure MDefN (P : Program) (w : World) (K : PySem.W.Frag) (mg : Str → Option Value) (base : Heap) (CX : CXT) (k : Nat) (C : Addr) (m : Str) (sp : Sp) (n : Nat) (ks : List Str) (ss : List Src) (dvs : List V) : Prop where
  ex : ∃ f fd ps, PySem.W.findIn K (.ref C) m = some (some (.ref f)) ∧ PySem.W.isFn K (.ref f) = true ∧ PySem.W.keepIn K (.ref f) = true ∧ KB K fd ps (n + 1) ks (.pos 0 :: ss.map Src.up) dvs ∧ FnOk P w K mg base CX k f fd ps sp
section
variable {P : Program} {w : World} {K : PySem.W.Frag} {mg : Str → Option Value} {base : Heap} {CX : CXT} {k : Nat} {C : Addr} {x m qual : Str} {sp : Sp} {st : Stmt} {dvs : List V} {n : Nat} {ks ps : List Str} {ss : List Src}
theorem DefN.mono {j : Nat} (D : DefN P w K mg base CX j x sp n ks ss dvs) (h : j ≤ k) : DefN P w K mg base CX k x sp n ks ss dvs := by
  obtain ⟨f, fd, ps, a, b, c, d⟩ := D.ex
  exact ⟨f, fd, ps, a, b, c, d.mono h⟩
theorem MDefN.mono {j : Nat} (D : MDefN P w K mg base CX j C m sp n ks ss dvs) (h : j ≤ k) : MDefN P w K mg base CX k C m sp n ks ss dvs := by
  obtain ⟨f, fd, ps, a, b, c, d, e⟩ := D.ex
  exact ⟨f, fd, ps, a, b, c, d, e.mono h⟩
theorem kb_of {fd : FuncData} (h : ∀ us ws : List Value, us.length = n → ws.length = ks.length → bindArgs fd ⟨us, ks.zip ws⟩ = pure (ps.zip (gS ss us [] ws))) : KB K fd ps n ks ss [] :=
  ⟨fun us ws => gS ss us [] ws, ⟨fun s us ws _ l1 l2 => .of_eq (h us ws l1 l2), fun r1 r2 => gS_rel r1 .nil r2 ss⟩⟩
theorem fd_eq {f : Addr} {fd fd' : FuncData} (h : ∃ oc od osl, K.lookup f = some ⟨oc, od, .func fd, osl⟩) (h' : ∃ oc od osl, K.lookup f = some ⟨oc, od, .func fd', osl⟩) : fd = fd' := by
  obtain ⟨_, _, _, h⟩ := h
  obtain ⟨_, _, _, h'⟩ := h'
  rw [h] at h'
  injection h' with h'
  injection h' with _ _ h' _
  injection h'
theorem Def.kw (D : Def P w K mg base CX k x ps sp) (F : FnAt K mg x st) (n : Nat) (ks : List Str) (ss : List Src)
    (h : ∀ (kV doc pm : Value) (an : Option Addr) (cdv ct : Value) (us ws : List Value), us.length = n → ws.length = ks.length → bindArgs (PySem.W.fnOf x x (defArgs st) (defBody st) (defScope st) .none kV doc pm an cdv ct) ⟨us, ks.zip ws⟩ = pure (ps.zip (gS ss us [] ws))) : DefN P w K mg base CX k x sp n ks ss [] := by
  obtain ⟨f, fd, a, b, c, d⟩ := D.ex
  obtain ⟨f', fd', a', G⟩ := F.ex
  rw [a] at a'
  injection a' with a'
  injection a' with a'
  subst a'
  have e := fd_eq c.lk (funLk G)
  subst e
  refine ⟨f, fd, ps, a, b, ?_, d⟩
  obtain ⟨oc, od, kV, doc, pm, an, cdv, ct, osl, rfl, _⟩ := G.ex
  exact kb_of (h kV doc pm an cdv ct)
theorem MDef.kw (D : MDef P w K mg base CX k C m ps sp) (F : MAt K C m qual st) (n : Nat) (ks : List Str) (ss : List Src)
    (h : ∀ (kV doc pm : Value) (an : Option Addr) (cdv ct : Value) (us ws : List Value), us.length = n + 1 → ws.length = ks.length → bindArgs (PySem.W.fnOf m qual (defArgs st) (defBody st) (defScope st) .none kV doc pm an cdv ct) ⟨us, ks.zip ws⟩ = pure (ps.zip (gS (.pos 0 :: ss.map Src.up) us [] ws))) : MDefN P w K mg base CX k C m sp n ks ss [] := by
  obtain ⟨f, fd, a, b, kp, c, d⟩ := D.ex
  obtain ⟨f', fd', a', b', G⟩ := F.ex
  rw [a] at a'
  injection a' with a'
  injection a' with a'
  injection a' with a'
  subst a'
  have e := fd_eq c.lk (funLk G)
  subst e
  refine ⟨f, fd, ps, a, b, kp, ?_, d⟩
  obtain ⟨oc, od, kV, doc, pm, an, cdv, ct, osl, rfl, _⟩ := G.ex
  exact kb_of (h kV doc pm an cdv ct)
end
section
variable {X : Cx} {CX : CXT} {k n : Nat} {sp : Sp} {E : XK} {x m : Str} {C : Addr} {p pos apos : PySem.Pos} {o e : Expr} {es : List Expr} {kws : List Keyword} {ta : TE} {t tk : TA} {ks : List Str} {ss : List Src} {dvs : List V}
/-- o.m(.., k = v) -/
def tMN (C : Addr) (m : Str) (sp : Sp) (n l : Nat) (ss : List Src) (dvs : List V) (E : XK) (ta : TE) (t tk : TA) : TE := fun σ H Q => ta σ H fun x H1 => ∃ a dx fs, x = .ref a ∧ H1 a = some (.ins C dx fs) ∧ fs.lookup m = none ∧ t σ H1 fun vs H2 => tk σ H2 fun zs H3 => vs.length = n ∧ zs.length = l ∧ sp (x :: gS ss vs dvs zs) H3 Q E
end
section
variable {X : Cx} {CX : CXT} {k : Nat} {C : Addr} {m : Str} {ps : List Str} {sp : Sp} {E : XK} {pos apos : PySem.Pos} {o : Expr} {ta : TE}
/-- o.m() -/
theorem pe_md0 {pl : Sem Bool} (D : MDef X.prog X.w X.K X.mg X.base CX k C m ps sp) (c : Cls X.K C) (hr : Room k X.A) (hx : Passes CX X E) (he : PE X o ta)
    (ht : eval (.Call (.Attribute o m apos) [] [] pos) X.env = (do
      let ov ← eval o X.env
      standAt apos.atName
      let (f, first) ← holding [ov] (getMethod ov m pl)
      callWith pos f first (backTo pos (starEach [] X.env)) (backToKw pos (keywordEach [] X.env))) := by rfl) :
    PE X (.Call (.Attribute o m apos) [] [] pos) (tMeth C m sp [] E ta tNil) := by
  obtain ⟨f, fd, a, b, kp, ⟨d, _⟩, g⟩ := D.ex
  exact pe_meth0 (pl := pl) he c ⟨a, b, kp⟩ g hr d .nil hx ht
end
section
variable {σ : St} {H : Hp} {Q : VK}
theorem e_CN {sp : Sp} {n m : Nat} {ss : List Src} {dvs : List V} {E : XK} {t tk : TA} (q : t σ H fun vs H1 => tk σ H1 fun zs H2 => vs.length = n ∧ zs.length = m ∧ sp (gS ss vs dvs zs) H2 Q E) : tCN sp n m ss dvs E t tk σ H Q := q
end
end Cw
set_option Elab.async false
set_option linter.all false
set_option maxRecDepth 100000
set_option maxHeartbeats 4000000
/-! ''.join(d): the keys of a dict, one behind another -/
namespace PySem
open Builtin Builtin.Str
section
variable {prog : Program} {w : World} {A : Around} {E : Value → Shared → Prop} {s : Shared} {J : Addr} {fp wr : List Addr} {G : Array GenState → Array GenState → Prop} {m : Nat} {P : Nat → Value → Prop} {Z : Nat → Shared → Prop}
end
section
variable {prog : Program} {w : World} {A : Around} {E : Value → Shared → Prop} {s : Shared} {sep : Str} {t : Tok} {Q : Value → Shared → Prop}
end
end PySem

namespace Cw
open PySem PySem.Spec L2 PyProof.Rows
section
variable {X : Cx} {K : PySem.W.Frag}
end
/-- [e for x in ..]: e makes new objects; Rel tells of each item what it is -/
theorem lc_mapA {σ : L2.St} {H : Hp} {i : Nat} {tt : TT} {te : TE} {P : Addr → Hp → Prop} {J : It} {n : Nat} {G : Hp → Prop} {it : Nat → V} (Rel : Nat → V → Hp → Prop) (w : Walk J n G (fun k H x H' => H' = H ∧ x = it k)) (hG : ∀ H', Same H H' → G H') (hn : n ≤ 1000000)
    (m1 : ∀ k v H1 H2, Rel k v H1 → Same H1 H2 → Rel k v H2) (m2 : ∀ k v H1 H2 D l, Rel k v H1 → H1 D = some (.lst l) → Keep D H1 H2 → Rel k v H2)
    (ht : ∀ k, k < n → ∀ H1, Same H H1 → ∀ R : Bool → Hp → Prop, (∀ H2, Same H1 H2 → R true H2) → tt ((wipe σ [i]).set i (some (it k))) H1 R)
    (he : ∀ k, k < n → ∀ H1, Same H H1 → ∀ R : VK, (∀ v H2, Same H1 H2 → Rel k v H2 → R v H2) → te ((wipe σ [i]).set i (some (it k))) H1 R)
    (q : ∀ D H' vs, H D = none → Same H H' → H' D = some (.lst vs) → vs.length = n → (∀ k v, vs[k]? = some v → Rel k v H') → P D H') :
    ∀ D, H D = none → ∃ W : Nat → Nat → Hp → Prop, (∃ m, W 0 m (upd H D (.lst []))) ∧ ∀ k m H, W k m H →
      (J.stop k H ∧ P D H) ∨ (J.go k H ∧ ∃ Nx : Hp → Prop, (∀ H', Nx H' → ∃ m', m' < m ∧ W (k + 1) m' H') ∧ ∀ x H', J.yld k H x H' → (gName i) x (wipe σ [i]) H' fun s2 H2 => wipe s2 [i] = wipe σ [i] ∧ tt s2 H2 fun c H3 =>
        if c = true then te s2 H3 fun y H4 => ∃ acc, H4 D = some (.lst acc) ∧ acc.length < sizeLine ∧ Nx (upd H4 D (.lst (acc ++ [y]))) else Nx H3) := by
  intro D hD
  refine lc_it w (vs := [i]) (σ := σ) (g := gName i) (tt := tt) (te := te) (Qd := fun H' => P D H') (fun k H' => Same H H' ∧ ∃ vs, H' D = some (.lst vs) ∧ vs.length = k ∧ ∀ j v, vs[j]? = some v → Rel j v H')
    ⟨Same.new hD, [], upd_same, rfl, fun j v z => by simp at z⟩ (fun k H' _ p => hG H' p.1) (fun k x H1 H2 hk p y => ?_) (fun H' p => ?_)
  · obtain ⟨p1, vs, p2, p3, p4⟩ := p
    obtain ⟨rfl, rfl⟩ := y
    refine ⟨wipe1, ht k hk _ p1 _ fun H3 s3 => ?_⟩
    rw [if_pos rfl]
    refine he k hk _ (p1.trans s3) _ fun v H4 s4 r4 => ?_
    have e4 := s4 _ _ (s3 _ _ p2)
    refine ⟨vs, e4, szlt (by omega), fun a o ha => ?_, vs ++ [v], upd_same, by rw [List.length_append, p3]; rfl, fun j u hj => ?_⟩
    · rw [upd_ne (ne_of_none ha hD)]
      exact s4 _ _ (s3 _ _ (p1 _ _ ha))
    · by_cases c : j < vs.length
      · rw [List.getElem?_append_left c] at hj
        exact m2 _ _ _ _ D vs (m1 _ _ _ _ (p4 j u hj) (s3.trans s4)) e4 Keep.put
      · have e : j = vs.length := by
          have := (List.getElem?_eq_some_iff.mp hj).1
          rw [List.length_append, List.length_singleton] at this
          omega
        rw [e, List.getElem?_append_right (Nat.le_refl _), Nat.sub_self] at hj
        injection hj with hj
        rw [e, ← hj, p3]
        exact m2 _ _ _ _ D vs r4 e4 Keep.put
  · obtain ⟨p1, vs, p2, p3, p4⟩ := p
    exact q D H' vs hD p1 p2 p3 p4
section
variable {σ : L2.St} {H : Hp} {Q : VK} {te ta : TE} {D : Ends} {K : PySem.W.Frag} {n : Nat} {t : TGs}
theorem s_asgL (q : te σ H fun v H1 => gLst K n t v σ H1 fun σ2 H2 => D.nx σ2 H2) : tAsg te (gLst K n t) D σ H := q
theorem e_MN {C : Addr} {m : Str} {sp : Sp} {n l : Nat} {ss : List Src} {dvs : List V} {E : XK} {t tk : TA} (q : ta σ H fun x H1 => ∃ a dx fs, x = .ref a ∧ H1 a = some (.ins C dx fs) ∧ fs.lookup m = none ∧ t σ H1 fun vs H2 => tk σ H2 fun zs H3 => vs.length = n ∧ zs.length = l ∧ sp (x :: gS ss vs dvs zs) H3 Q E) : tMN C m sp n l ss dvs E ta t tk σ H Q := q
end
end Cw
set_option Elab.async false
set_option linter.all false
set_option maxRecDepth 100000
set_option maxHeartbeats 4000000
/-! [e for i, x in enumerate(list)] -/
namespace Cw
open PySem PySem.Spec L2
section
variable {K : PySem.W.Frag} {σ : L2.St} {H : Hp} {i j : Nat} {tt : TT} {te : TE} {P : Addr → Hp → Prop} {a : Addr}
theorem e_iEnumL {ta : TA} {R : It → Hp → Prop} (q : ta σ H fun vs H1 => ∃ a xs, vs = [.ref a] ∧ SqL K H1 a xs ∧ R (Ite K a) H1) : iEnum K ta σ H R := q
theorem walk_enumL {xs : List V} : Walk (Ite K a) xs.length (fun H => H a = some (.lst xs)) (fun i H v H' => ∃ T x, v = .ref T ∧ H T = none ∧ H' = upd H T (.tup [.int (i : Nat), x]) ∧ xs[i]? = some x) := by
  refine ⟨fun i H hi h => ⟨xs, xs[i], SqL.of h, List.getElem?_eq_getElem hi⟩, fun H h => ⟨xs, SqL.of h, Nat.le_refl _⟩, fun i H v H' hi h y => ?_⟩
  obtain ⟨T, x, e1, e2, e3, e4⟩ := y
  exact ⟨T, x, e1, e2, e3, e4 xs (SqL.of h)⟩
end
end Cw
set_option Elab.async false
set_option linter.all false
set_option maxRecDepth 100000
set_option maxHeartbeats 4000000
/-! enumerate(tuple) -/
namespace PySem
open Sem (wp)
open AutoSeq1 (wpAny_loadPart')
set_option maxHeartbeats 4000000 in
theorem cw_newT (t : Addr) (items : Array Value) {o : Obj} (hc : o.cls = .type "tuple") (hd : ∃ n, o.data = .seq items n) :
    Meets (Builtin.«enumerate.__new__» ⟨[.type "enumerate", .ref t], []⟩) (fun _ R s => s.heap.get? t = some o ∧
      R (.ok (.ret (.ref (s.heap.push { cls := .type "tuple_iterator", data := .fields #[.ref t, .int 0 0] }).objs.size)))
        { s with heap := (s.heap.push { cls := .type "tuple_iterator", data := .fields #[.ref t, .int 0 0] }).push { cls := .type "enumerate", data := .fields #[.none, .bool false, .ref s.heap.objs.size, rawInt 0, .none, .none] } }) :=
  .of_wp fun prog w A R s h => by
    obtain ⟨hp, g, d, tk, os⟩ := s
    obtain ⟨ht, h⟩ := h
    have hsub := sub_enumerate
    obtain ⟨c, dct, dt, sl⟩ := o
    obtain ⟨n, hd⟩ := hd
    replace hc : c = .type "tuple" := hc
    replace hd : dt = .seq items n := hd
    subst hc hd
    have hT : Heap.IsTuple (Shared.heap ⟨hp, g, d, tk, os⟩) t items := ⟨_, ht, rfl, n, rfl⟩
    wp_walk using wpAny_loadPart' ht
    refine wpAny_stack_any fun st => wpAny_pure ?_
    split
    · rename_i c _ _ _ _ _
      cases (c == Value.type "enumerate")
      all_goals
        wp_walk using wpAny_loadPart' ht, wpAny_pyIter_tuple hT
        exact ⟨_, rfl, h⟩
    · wp_walk using wpAny_loadPart' ht, wpAny_pyIter_tuple hT
      exact ⟨_, rfl, h⟩
section
variable {prog : Program} {w : World} {A : Around} {E : Value → Shared → Prop} {s : Shared}
theorem cw_call_enumT {t : Addr} {items : Array Value} {Q : Value → Shared → Prop} (hT : s.heap.IsTuple t items)
    (h : ∀ h', IsEnum h' (s.heap.objs.size + 1) s.heap.objs.size 0 .none → h'.IsTupleIter s.heap.objs.size t 0 → (∀ b o, s.heap.get? b = some o → h'.get? b = some o) → Q (.ref (s.heap.objs.size + 1)) { s with heap := h' }) :
    wpAny (model prog w) A (call (.type "enumerate") [.ref t]) Q E s := by
  obtain ⟨o, ht, hc, hd⟩ := hT
  refine callType_new F.called_enumerate (by decide) (F.typeCall_enumerate_1 _) (F.newCall_enumerate_1 _) (fun obj => F.args_object_init_2 obj _) F.entry_enumerate_new (cw_newT t items hc hd) ⟨ht, ?_⟩
  generalize e1 : s.heap.push { cls := .type "tuple_iterator", data := .fields #[.ref t, .int 0 0] } = h1
  have hz : h1.objs.size = s.heap.objs.size + 1 := by rw [← e1]; exact Heap.size_push ..
  have hi : h1.get? s.heap.objs.size = some { cls := .type "tuple_iterator", data := .fields #[.ref t, .int 0 0] } := by rw [← e1]; exact Heap.get?_push_size _ rfl
  have k1 : ∀ b o, s.heap.get? b = some o → h1.get? b = some o := fun b o x => by rw [← e1]; exact Heap.get?_push_of_some _ x
  show _ ∧ _
  rw [hz]
  generalize e2 : h1.push { cls := .type "enumerate", data := .fields #[.none, .bool false, .ref s.heap.objs.size, rawInt 0, .none, .none] } = h2
  have he : IsEnum h2 (s.heap.objs.size + 1) s.heap.objs.size 0 .none := by rw [← e2, ← hz]; exact Heap.get?_push_size _ rfl
  have k2 : ∀ b o, h1.get? b = some o → h2.get? b = some o := fun b o x => by rw [← e2]; exact Heap.get?_push_of_some _ x
  exact ⟨⟨_, he, rfl⟩, h _ he ⟨_, k2 _ _ hi, rfl, rfl⟩ fun b o x => k2 _ _ (k1 _ _ x)⟩
end
end PySem
namespace Cw
open PySem PySem.Spec L2
/-- the tuple at a, each item in a new pair -/
def Itet (K : PySem.W.Frag) (a : Addr) (xs : List V) : It :=
  ⟨fun i H => i < xs.length ∧ SqT K H a xs, fun i H v H' => ∃ T x, v = .ref T ∧ H T = none ∧ H' = upd H T (.tup [.int (i : Nat), x]) ∧ xs[i]? = some x, fun i H => xs.length ≤ i ∧ SqT K H a xs⟩
theorem turn_enumT {P : Program} {w : World} {K : PySem.W.Frag} {elts : List Expr} {kk : Nat} {tpos : PySem.Pos} (a e it : Addr) (xs : List V) (hne : e ≠ it) (ha : a ≠ it) (he' : e ≠ a) :
    Turn P w K (.Tuple elts kk tpos) (Itet K a xs) [e, it] e (fun i h => i ≤ xs.length ∧ (∃ old, IsEnum h e it (i : Nat) old) ∧ h.IsTupleIter it a i) where
  mem := by simp
  obj := fun i h st b hb => by
    obtain ⟨_, ⟨old, he⟩, ⟨o, ho, hc, hd⟩⟩ := st
    simp only [List.mem_cons, List.not_mem_nil, or_false] at hb
    rcases hb with rfl | rfl
    · exact ⟨_, he, fun v q => nomatch q⟩
    · exact ⟨o, ho, fun v q => by rw [hd] at q; cases q⟩
  keep := fun i h h' st k => by
    obtain ⟨h0, ⟨old, he⟩, ⟨o, ho, r⟩⟩ := st
    exact ⟨h0, ⟨old, k e (by simp) _ he⟩, ⟨o, k it (by simp) o ho, r⟩⟩
  item := by
    intro X hP hw hK hc i pins s σ H E I hf st hg
    subst hP hw hK
    obtain ⟨hi, hq⟩ := hg
    obtain ⟨x, hx⟩ : ∃ x, xs[i]? = some x := ⟨_, List.getElem?_eq_getElem hi⟩
    obtain ⟨its, rv, p, hz⟩ := I.tuple hq
    obtain ⟨u, hu, ru⟩ := rv.get hx
    have pT : s.heap.IsTuple a its.toArray := p
    have W := WalksT.enumerateD (A := X.A) (Draws.tuple (prog := X.prog) (w := X.w) (A := X.A.in1) (I.ok.hd hc) it a ha its.toArray) e hne (by simp [hne, he']) (by simp)
    obtain ⟨_, ⟨old, he⟩, hit⟩ := st
    have hel : e < s.heap.objs.size := Heap.lt_size he
    have hil : it < s.heap.objs.size := by obtain ⟨_, q, _⟩ := hit; exact Heap.lt_size q
    have hin : i < its.toArray.size := by
      have := (List.getElem?_eq_some_iff.mp hu).1
      simpa using this
    refine W.item i s _ E hin ⟨⟨old, he⟩, hit, pT⟩ fun T vals h' tk hv hT isT mid kp => ⟨_, rfl, W.go elts kk tpos i T { s with heap := h', toks := tk } _ E mid fun h2 st2 kp2 => ?_⟩
    obtain ⟨t', y, hy, rfl⟩ := hv
    have eu : y = u := by
      have z : its.toArray[i]? = some u := by simpa using hu
      rw [z] at hy
      injection hy with hy
      exact hy.symm
    subst eu
    have hTw := W.apart i T h' mid
    obtain ⟨o, ho, r⟩ := isT
    have isT2 : h2.IsTuple T #[.int i t', y] := ⟨o, kp2 T o hTw ho, r⟩
    have new : ObjOk X.prog X.w (upd H T (.tup [.int (i : Nat), x])) h2 T (.tup [.int (i : Nat), x]) := ⟨by show 2 ≤ sizeLine; decide, [.int i t', y], .cons ⟨_, rfl⟩ (.cons ru .nil), isT2⟩
    refine ⟨.ref T, _, I.turnedNew (ch := [e, it]) (t' := tk) (fun b ob hb q => kp2 b ob hb (kp b ob hb q)) hf hT new, rfl, ⟨T, x, rfl, I.hok.fresh hT, rfl, hx⟩, ⟨hi, st2.1, st2.2.1⟩, fun b hb => ?_⟩
    have hb2 : b < T := by
      simp only [List.mem_cons, List.not_mem_nil, or_false] at hb
      rcases hb with rfl | rfl
      · exact Nat.lt_of_lt_of_le hel hT
      · exact Nat.lt_of_lt_of_le hil hT
    rw [upd_ne (Nat.ne_of_lt hb2)]
    exact (hf b hb).1
  done := by
    intro X hP hw hK hc i pins s σ H E I hf st hg
    subst hP hw hK
    obtain ⟨hi, hq⟩ := hg
    obtain ⟨h0, ⟨old, he⟩, hit⟩ := st
    obtain ⟨its, rv, p, hz⟩ := I.tuple hq
    have pT : s.heap.IsTuple a its.toArray := p
    have hl := rv.length
    have e1 : i = its.toArray.size := by
      rw [List.size_toArray]
      omega
    subst e1
    have W := WalksT.enumerateD (A := X.A) (Draws.tuple (prog := X.prog) (w := X.w) (A := X.A.in1) (I.ok.hd hc) it a ha its.toArray) e hne (by simp [hne, he']) (by simp)
    exact W.done s _ E ⟨⟨old, he⟩, hit, pT⟩ fun h' tk kp => ⟨rfl, I.turnedL kp hf⟩
  self := fun A i s Q E st h => by
    obtain ⟨_, ⟨_, he⟩, _⟩ := st
    exact wpAny_pyIter_enum he h
def iEnumT (K : PySem.W.Frag) (ta : TA) : TI := fun σ H R => ta σ H fun vs H1 => ∃ a xs, vs = [.ref a] ∧ SqT K H1 a xs ∧ R (Itet K a xs) H1
theorem pi_enumT {X : Cx} {e : Expr} {ta : TA} {p pos tpos : PySem.Pos} {elts : List Expr} {kk : Nat} (hg : Gl X "enumerate") (hm : X.mg "enumerate" = none) (ha : PA X [e] ta) (hs : starEach [e] X.env = [(false, eval e X.env)] := by rfl) :
    PI X (.Tuple elts kk tpos) (.Call (.Name "enumerate" p) [e] [] pos) (iEnumT X.K ta) := by
  refine ⟨fun pins s σ H R I h => ?_⟩
  refine PyProof.Rows.Call_ (ld_blt I hg hm PyProof.Rows.boot_enumerate (PyProof.Rows.callWith_type1 (thn (ha.run pos pins s σ H _ I h) fun us s1 ⟨vs, H1, I1, r1, a, xs, ex, hq, q⟩ => ?_) hs rfl))
  subst ex
  obtain ⟨u, rfl, ru⟩ := vals1 r1
  cases ru
  obtain ⟨its, rv, p', hz⟩ := I1.tuple hq
  have al : a < s1.heap.objs.size := by
    obtain ⟨o, ho, _⟩ := p'
    exact Heap.lt_size ho
  refine cw_call_enumT p' fun h' he hit hk => wpAny_pyIter_enum he ?_
  have I2 : L2.Inv X pins σ H1 { s1 with heap := h' } := I1.kept (t' := s1.toks) hk
  refine ⟨s1.heap.objs.size + 1, [s1.heap.objs.size + 1, s1.heap.objs.size], _, _, H1, rfl, I2, turn_enumT a (s1.heap.objs.size + 1) s1.heap.objs.size xs (Nat.succ_ne_self _) (Nat.ne_of_lt al) (fun z => absurd al (by rw [← z]; exact Nat.not_lt_of_le (Nat.le_succ _))), ⟨Nat.zero_le _, ⟨.none, he⟩, hit⟩, fun b hb => ?_, q⟩
  have hle : s1.heap.objs.size ≤ b := by
    simp only [List.mem_cons, List.not_mem_nil, or_false] at hb
    rcases hb with rfl | rfl
    · exact Nat.le_succ _
    · exact Nat.le_refl _
  exact I1.fpOk hle (I1.hok.fresh hle)
end Cw
set_option Elab.async false
set_option linter.all false
set_option maxRecDepth 100000
set_option maxHeartbeats 4000000
/-! lists and tuples of objects, each of which stands for a value -/
namespace Cw
open PySem PySem.Spec L2
section
variable {α : Type} {R : Hp → Addr → α → Prop} {H H' : Hp} {t : Addr} {D : List α}
/-- the values, each with its object -/
abbrev refV (E : List (α × Addr)) : List V := E.map fun e => V.ref e.2
structure RefsL (R : Hp → Addr → α → Prop) (H : Hp) (t : Addr) (D : List α) : Prop where
  ex : ∃ E : List (α × Addr), E.map (·.1) = D ∧ H t = some (.lst (refV E)) ∧ ∀ e ∈ E, R H e.2 e.1
structure RefsT (R : Hp → Addr → α → Prop) (H : Hp) (t : Addr) (D : List α) : Prop where
  ex : ∃ E : List (α × Addr), E.map (·.1) = D ∧ H t = some (.tup (refV E)) ∧ ∀ e ∈ E, R H e.2 e.1
theorem RefsL.same (h : RefsL R H t D) (s : Same H H') (hr : ∀ p a, R H p a → R H' p a) : RefsL R H' t D := by
  obtain ⟨E, e1, e2, e3⟩ := h.ex
  exact ⟨E, e1, s _ _ e2, fun e he => hr _ _ (e3 e he)⟩
theorem RefsT.same (h : RefsT R H t D) (s : Same H H') (hr : ∀ p a, R H p a → R H' p a) : RefsT R H' t D := by
  obtain ⟨E, e1, e2, e3⟩ := h.ex
  exact ⟨E, e1, s _ _ e2, fun e he => hr _ _ (e3 e he)⟩
theorem refs_of : ∀ {vs : List V} {D : List α}, vs.length = D.length → (∀ (k : Nat) v d, vs[k]? = some v → D[k]? = some d → ∃ p, v = .ref p ∧ R H p d) → ∃ E : List (α × Addr), E.map (·.1) = D ∧ vs = refV E ∧ ∀ e ∈ E, R H e.2 e.1
  | [], [], _, _ => ⟨[], rfl, rfl, fun _ z => nomatch z⟩
  | [], _ :: _, h, _ => nomatch h
  | _ :: _, [], h, _ => nomatch h
  | v :: vs, d :: D, hl, h => by
    obtain ⟨p, rfl, r⟩ := h 0 v d rfl rfl
    obtain ⟨E, e1, e2, e3⟩ := refs_of (vs := vs) (D := D) (Nat.succ.inj hl) fun k v d h1 h2 => h (k + 1) v d h1 h2
    refine ⟨(d, p) :: E, by rw [List.map_cons, e1], by rw [e2]; rfl, fun e he => ?_⟩
    rcases List.mem_cons.mp he with rfl | he
    · exact r
    · exact e3 e he
theorem take_succ_get {l : List α} {i : Nat} {a : α} (h : l[i]? = some a) : l.take (i + 1) = l.take i ++ [a] := by rw [List.take_succ, h]; rfl
end
section
variable {K : PySem.W.Frag} {H H0 : Hp} {p : Addr} {te0 te : TE} {σ : L2.St}
/-- a loop over a list or a tuple -/
theorem e_forSeqA {xs : List V} {g : TG} {tb : TS} {D : Ends} (hp : SeqO K H0 p xs) (s0 : Same H0 H) (ht : ∀ Q : VK, Q (.ref p) H → te0 σ H Q) (Pv : Nat → L2.St → Hp → Prop) (h0 : Pv 0 σ H) (hG : ∀ i σ' H', Pv i σ' H' → Same H0 H')
    (hs : ∀ i x σ H1, xs[i]? = some x → Pv i σ H1 → g x σ H1 fun σ2 H2 => tb { D with nx := Pv (i + 1), ct := Pv (i + 1), bk := D.nx } σ2 H2) (hd : ∀ σ H, Pv xs.length σ H → D.nx σ H) : tFor (iOr (iList K te0) (iTup K te0)) g tb D σ H := by
  rcases hp with hp | hp | ⟨rfl, o, n, h, c, e⟩
  · refine Or.inl (ht _ ⟨p, rfl, ⟨xs, SqL.of (s0 _ _ hp)⟩, for_it (walk_list (K := K) (xs := xs)) Pv h0 (fun i σ' H' _ z => SqL.of (hG i σ' H' z _ _ hp)) (fun i v σ' H1 H2 hi pv y => ?_) hd⟩)
    obtain ⟨rfl, hx⟩ := y
    exact hs i v σ' _ hx pv
  · refine Or.inr (ht _ ⟨p, rfl, ⟨xs, SqT.of (s0 _ _ hp)⟩, for_it (walk_tup (K := K) (xs := xs)) Pv h0 (fun i σ' H' _ z => SqT.of (hG i σ' H' z _ _ hp)) (fun i v σ' H1 H2 hi pv y => ?_) hd⟩)
    obtain ⟨rfl, hx⟩ := y
    exact hs i v σ' _ hx pv
  · have k0 : ∀ H', SqT K H' p [] := fun H' => .inr ⟨o, #[], n, h, c, e, by decide, .nil⟩
    exact Or.inr (ht _ ⟨p, rfl, ⟨[], k0 _⟩, for_it (walk_tup (K := K) (xs := [])) Pv h0 (fun i σ' H' _ z => k0 _) (fun i v σ' H1 H2 hi _ _ => absurd hi (Nat.not_lt_zero _)) hd⟩)
variable {α : Type} {E : List (α × Addr)} {R' : Hp → V → α → Prop} {i : Nat} {tt : TT} {Q : VK}
theorem refV_get {k : Nat} {e : α × Addr} (h : E[k]? = some e) : (refV E).getD k .non = .ref e.2 := by rw [List.getD_eq_getElem?_getD, List.getElem?_map, h]; rfl
theorem lc_refsW {P : Addr → Hp → Prop} {J : It} {G : Hp → Prop} (w : Walk J E.length G (fun k H x H' => H' = H ∧ x = (refV E).getD k .non)) (hG : ∀ H', Same H H' → G H') (hl : E.length ≤ 1000000) (m1 : ∀ v a H1 H2, R' H1 v a → Same H1 H2 → R' H2 v a) (m2 : ∀ v a H1 H2 D l, R' H1 v a → H1 D = some (.lst l) → Keep D H1 H2 → R' H2 v a)
    (ht : ∀ e ∈ E, ∀ H1, Same H H1 → ∀ R : Bool → Hp → Prop, (∀ H2, Same H1 H2 → R true H2) → tt ((wipe σ [i]).set i (some (.ref e.2))) H1 R)
    (he : ∀ e ∈ E, ∀ H1, Same H H1 → ∀ R : VK, (∀ v H2, Same H1 H2 → R' H2 v e.1 → R v H2) → te ((wipe σ [i]).set i (some (.ref e.2))) H1 R)
    (q : ∀ D H' vs, H D = none → Same H H' → H' D = some (.lst vs) → vs.length = E.length → (∀ (k : Nat) (v : V) (e : α × Addr), vs[k]? = some v → E[k]? = some e → R' H' v e.1) → P D H') :
    ∀ D, H D = none → ∃ W : Nat → Nat → Hp → Prop, (∃ m, W 0 m (upd H D (.lst []))) ∧ ∀ k m H, W k m H →
      (J.stop k H ∧ P D H) ∨ (J.go k H ∧ ∃ Nx : Hp → Prop, (∀ H', Nx H' → ∃ m', m' < m ∧ W (k + 1) m' H') ∧ ∀ x H', J.yld k H x H' → (gName i) x (wipe σ [i]) H' fun s2 H2 => wipe s2 [i] = wipe σ [i] ∧ tt s2 H2 fun c H3 =>
        if c = true then te s2 H3 fun y H4 => ∃ acc, H4 D = some (.lst acc) ∧ acc.length < sizeLine ∧ Nx (upd H4 D (.lst (acc ++ [y]))) else Nx H3) := by
  refine lc_mapA (P := P) (fun k v H' => ∀ e, E[k]? = some e → R' H' v e.1) w hG hl (fun k v H1 H2 h s e z => m1 _ _ _ _ (h e z) s) (fun k v H1 H2 D l h e0 kp e z => m2 _ _ _ _ _ _ (h e z) e0 kp) (fun k hk H1 s1 R r => ?_) (fun k hk H1 s1 R r => ?_) (fun D H' vs hD s e l h => q D H' vs hD s e l fun k v e h1 h2 => h k v h1 e h2)
  · have z : E[k]? = some E[k] := List.getElem?_eq_getElem hk
    rw [refV_get z]
    exact ht _ (List.getElem_mem hk) H1 s1 R r
  · have z : E[k]? = some E[k] := List.getElem?_eq_getElem hk
    rw [refV_get z]
    exact he _ (List.getElem_mem hk) H1 s1 R fun v H2 s2 h => r v H2 s2 fun e h2 => by
      rw [z] at h2
      injection h2 with h2
      rw [← h2]
      exact h
theorem yld_get {xs : List V} {k : Nat} {v : V} (h : xs[k]? = some v) : v = xs.getD k .non := by rw [List.getD_eq_getElem?_getD, h]; rfl
/-- a comprehension over a list or a tuple of objects -/
theorem i_refs {P : Addr → Hp → Prop} (hp : SeqO K H0 p (refV E)) (s0 : Same H0 H) (hl : E.length ≤ 1000000) (ht0 : ∀ Q : VK, Q (.ref p) H → te0 σ H Q) (m1 : ∀ v a H1 H2, R' H1 v a → Same H1 H2 → R' H2 v a) (m2 : ∀ v a H1 H2 D l, R' H1 v a → H1 D = some (.lst l) → Keep D H1 H2 → R' H2 v a)
    (ht : ∀ e ∈ E, ∀ H1, Same H H1 → ∀ R : Bool → Hp → Prop, (∀ H2, Same H1 H2 → R true H2) → tt ((wipe σ [i]).set i (some (.ref e.2))) H1 R)
    (he : ∀ e ∈ E, ∀ H1, Same H H1 → ∀ R : VK, (∀ v H2, Same H1 H2 → R' H2 v e.1 → R v H2) → te ((wipe σ [i]).set i (some (.ref e.2))) H1 R)
    (q : ∀ D H' vs, H D = none → Same H H' → H' D = some (.lst vs) → vs.length = E.length → (∀ (k : Nat) (v : V) (e : α × Addr), vs[k]? = some v → E[k]? = some e → R' H' v e.1) → P D H') : iOr (iList K te0) (iTup K te0) σ H fun J H1 => ∀ D, H1 D = none → ∃ W : Nat → Nat → Hp → Prop, (∃ m, W 0 m (upd H1 D (.lst []))) ∧ ∀ k m H, W k m H →
      (J.stop k H ∧ P D H) ∨ (J.go k H ∧ ∃ Nx : Hp → Prop, (∀ H', Nx H' → ∃ m', m' < m ∧ W (k + 1) m' H') ∧ ∀ x H', J.yld k H x H' → (gName i) x (wipe σ [i]) H' fun s2 H2 => wipe s2 [i] = wipe σ [i] ∧ tt s2 H2 fun c H3 =>
        if c = true then te s2 H3 fun y H4 => ∃ acc, H4 D = some (.lst acc) ∧ acc.length < sizeLine ∧ Nx (upd H4 D (.lst (acc ++ [y]))) else Nx H3) := by
  rcases hp with hp | hp | ⟨hn, o, n, h, c, e⟩
  · refine Or.inl (ht0 _ ⟨p, rfl, ⟨_, SqL.of (s0 _ _ hp)⟩, ?_⟩)
    have w := walk_list (K := K) (a := p) (xs := refV E)
    rw [List.length_map] at w
    exact lc_refsW (P := P) (w.mono (G' := fun H' => Same H H') (fun H' s => SqL.of (s _ _ (s0 _ _ hp))) fun k H' v H2 hk _ y => ⟨y.1, yld_get y.2⟩) (fun _ s => s) hl m1 m2 ht he q
  · refine Or.inr (ht0 _ ⟨p, rfl, ⟨_, SqT.of (s0 _ _ hp)⟩, ?_⟩)
    have w := walk_tup (K := K) (a := p) (xs := refV E)
    rw [List.length_map] at w
    exact lc_refsW (P := P) (w.mono (G' := fun H' => Same H H') (fun H' s => SqT.of (s _ _ (s0 _ _ hp))) fun k H' v H2 hk _ y => ⟨y.1, yld_get y.2⟩) (fun _ s => s) hl m1 m2 ht he q
  · have k0 : ∀ H', SqT K H' p [] := fun H' => .inr ⟨o, #[], n, h, c, e, by decide, .nil⟩
    obtain rfl : E = [] := List.map_eq_nil_iff.mp hn
    refine Or.inr (ht0 _ ⟨p, rfl, ⟨[], k0 _⟩, ?_⟩)
    exact lc_refsW (P := P) (E := ([] : List (α × Addr))) ((walk_tup (K := K) (a := p) (xs := [])).mono (G' := fun H' => Same H H') (fun H' s => k0 _) fun k H' v H2 hk _ y => absurd hk (Nat.not_lt_zero _)) (fun _ s => s) (Nat.zero_le _) m1 m2 ht he q
/-- .. over a tuple -/
theorem lc_refsT {P : Addr → Hp → Prop} (hp : H p = some (.tup (refV E))) (hl : E.length ≤ 1000000) (m1 : ∀ v a H1 H2, R' H1 v a → Same H1 H2 → R' H2 v a) (m2 : ∀ v a H1 H2 D l, R' H1 v a → H1 D = some (.lst l) → Keep D H1 H2 → R' H2 v a)
    (ht : ∀ e ∈ E, ∀ H1, Same H H1 → ∀ R : Bool → Hp → Prop, (∀ H2, Same H1 H2 → R true H2) → tt ((wipe σ [i]).set i (some (.ref e.2))) H1 R)
    (he : ∀ e ∈ E, ∀ H1, Same H H1 → ∀ R : VK, (∀ v H2, Same H1 H2 → R' H2 v e.1 → R v H2) → te ((wipe σ [i]).set i (some (.ref e.2))) H1 R)
    (q : ∀ D H' vs, H D = none → Same H H' → H' D = some (.lst vs) → vs.length = E.length → (∀ (k : Nat) (v : V) (e : α × Addr), vs[k]? = some v → E[k]? = some e → R' H' v e.1) → P D H') :
    ∀ D, H D = none → ∃ W : Nat → Nat → Hp → Prop, (∃ m, W 0 m (upd H D (.lst []))) ∧ ∀ k m H, W k m H →
      ((Itt K p).stop k H ∧ P D H) ∨ ((Itt K p).go k H ∧ ∃ Nx : Hp → Prop, (∀ H', Nx H' → ∃ m', m' < m ∧ W (k + 1) m' H') ∧ ∀ x H', (Itt K p).yld k H x H' → (gName i) x (wipe σ [i]) H' fun s2 H2 => wipe s2 [i] = wipe σ [i] ∧ tt s2 H2 fun c H3 =>
        if c = true then te s2 H3 fun y H4 => ∃ acc, H4 D = some (.lst acc) ∧ acc.length < sizeLine ∧ Nx (upd H4 D (.lst (acc ++ [y]))) else Nx H3) := by
  have w := walk_tup (K := K) (a := p) (xs := refV E)
  rw [List.length_map] at w
  exact lc_refsW (P := P) (w.mono (G' := fun H' => Same H H') (fun H' s => SqT.of (s _ _ hp)) fun k H' v H2 hk _ y => ⟨y.1, yld_get y.2⟩) (fun _ s => s) hl m1 m2 ht he q
end
end Cw
set_option Elab.async false
set_option linter.all false
set_option maxRecDepth 100000
set_option maxHeartbeats 4000000
/-! dicts of numbers; places found one behind the other -/
namespace Cw
open PySem PySem.Spec L2
section
variable {H : Hp} {d : Addr} {g : Nat → V} {k : Nat} {l : List Nat}
def nKV (l : List Nat) (g : Nat → V) : List (Key × V) := l.map fun (c : Nat) => ((Sum.inl ((c : Nat) : Int) : Key), g c)
theorem nKV_some : ∀ {l : List Nat}, k ∈ l → valV (nKV l g) (Sum.inl (k : Int)) = some (g k)
  | [], h => nomatch h
  | c :: r, h => by
    unfold nKV
    by_cases e : c = k
    · rw [List.map_cons, valV_pos (by rw [e]), e]
    · rw [List.map_cons, valV_neg fun z => e (by
        injection z with z
        exact Int.ofNat.inj z)]
      exact nKV_some ((List.mem_cons.mp h).resolve_left fun z => e z.symm)
theorem nKV_none : ∀ {l : List Nat}, ¬ k ∈ l → valV (nKV l g) (Sum.inl (k : Int)) = none
  | [], _ => rfl
  | c :: r, h => by
    unfold nKV
    rw [List.map_cons, valV_neg fun z => h (by
      injection z with z
      rw [← Int.ofNat.inj z]
      exact List.mem_cons_self ..)]
    exact nKV_none fun z => h (List.mem_cons_of_mem _ z)
theorem num_get (h : H d = some (.dK (nKV l g))) (hk : k ∈ l) : DGet H d (.int (k : Int)) (some (g k)) := by
  have e := DGet.k (k := Sum.inl (k : Int)) h
  rw [nKV_some hk] at e
  exact e
theorem num_not (h : H d = some (.dK (nKV l g))) (hk : ¬ k ∈ l) : DGet H d (.int (k : Int)) none := by
  have e := DGet.k (k := Sum.inl (k : Int)) h
  rw [nKV_none hk] at e
  exact e
theorem num_put {v : V} (h : H d = some (.dK (nKV l g))) (hk : ¬ k ∈ l) (hl : l.length ≤ 1000000) : DPut H d (.int (k : Int)) v (upd H d (.dK (nKV (l ++ [k]) fun c => if c = k then v else g c))) := by
  have e := DPut.k (k := Sum.inl (k : Int)) (v := v) h (by unfold nKV; rw [List.length_map]; exact Nat.lt_of_le_of_lt hl (show 1000000 < sizeLine by decide))
  have e2 : putK (nKV l g) (Sum.inl (k : Int)) v = nKV (l ++ [k]) fun c => if c = k then v else g c := by
    unfold putK
    rw [if_neg (by rw [valV_any, nKV_none hk]; exact Bool.false_ne_true)]
    unfold nKV
    rw [List.map_append]
    have e3 : (l.map fun (c : Nat) => ((Sum.inl ((c : Nat) : Int) : Key), if c = k then v else g c)) = l.map fun (c : Nat) => ((Sum.inl ((c : Nat) : Int) : Key), g c) := List.map_congr_left fun c hc => by
      have ne : ¬ c = k := fun z => hk (by rw [← z]; exact hc)
      rw [if_neg ne]
    show _ = _ ++ [((Sum.inl ((k : Nat) : Int) : Key), if k = k then v else g k)]
    rw [if_pos rfl, e3]
  rw [e2] at e
  exact e
theorem num_put_in {v : V} (h : H d = some (.dK (nKV l g))) (hk : k ∈ l) (hl : l.length ≤ 1000000) : DPut H d (.int (k : Int)) v (upd H d (.dK (nKV l fun c => if c = k then v else g c))) := by
  have e := DPut.k (k := Sum.inl (k : Int)) (v := v) h (by unfold nKV; rw [List.length_map]; exact Nat.lt_of_le_of_lt hl (show 1000000 < sizeLine by decide))
  have e2 : putK (nKV l g) (Sum.inl (k : Int)) v = nKV l fun c => if c = k then v else g c := by
    unfold putK
    rw [if_pos (by rw [valV_any, nKV_some hk]; rfl)]
    unfold nKV
    rw [List.map_map]
    refine List.map_congr_left fun c _ => ?_
    show (if (Sum.inl (c : Int) : Key) = Sum.inl (k : Int) then _ else _) = ((Sum.inl (c : Int) : Key), if c = k then v else g c)
    by_cases q : c = k
    · rw [q, if_pos rfl, if_pos rfl]
    · rw [if_neg fun z => q (by
        injection z with z
        exact Int.ofNat.inj z), if_neg q]
  rw [e2] at e
  exact e
end
/-! ### places -/
def numV (l : List Nat) : List V := l.map fun n => V.int ((n : Nat) : Int)
/-- the doors of one place -/
def addT (T : List (List Nat)) (x : Nat) (fd : List Nat) : List Nat := T.foldl (fun fd r => if r.getD x 0 ∈ fd then fd else fd ++ [r.getD x 0]) fd
/-- places found one behind the other -/
def fp (T : List (List Nat)) : Nat → Nat → List Nat → List Nat
  | 0, _, fd => fd
  | n + 1, i, fd => if i < fd.length then fp T n (i + 1) (addT T (fd.getD i 0) fd) else fd
def bfs (T : List (List Nat)) (n first : Nat) : List Nat := fp T (n + 1) 0 [first]
/-- tables of n places -/
def OkT (n : Nat) (T : List (List Nat)) : Prop := ∀ r ∈ T, r.length = n ∧ ∀ x ∈ r, x < n
section
variable {T : List (List Nat)} {n x : Nat} {fd : List Nat}
theorem OkT.get (h : OkT n T) {r : List Nat} (hr : r ∈ T) (hx : x < n) : r.getD x 0 < n := by
  obtain ⟨h1, h2⟩ := h r hr
  rw [List.getD_eq_getElem?_getD, List.getElem?_eq_getElem (show x < r.length by omega)]
  exact h2 _ (List.getElem_mem _)
/-- what is found so far: different places -/
structure FdOk (n : Nat) (fd : List Nat) : Prop where
  nd : fd.Nodup
  lt : ∀ x ∈ fd, x < n
theorem FdOk.len (h : FdOk n fd) : fd.length ≤ n := by
  have := List.Nodup.length_le_of_subset h.nd (fun x hx => List.mem_range.mpr (h.lt x hx) : fd ⊆ List.range n)
  rwa [List.length_range] at this
theorem FdOk.one (h : x < n) : FdOk n [x] := ⟨(by simp : [x].Nodup), fun y hy => by rw [List.mem_singleton.mp hy]; exact h⟩
theorem FdOk.snoc (h : FdOk n fd) (hx : x < n) (m : ¬ x ∈ fd) : FdOk n (fd ++ [x]) := by
  refine ⟨List.nodup_append.mpr ⟨h.nd, (by simp : [x].Nodup), fun a ha b hb e => m (by rw [List.mem_singleton.mp hb] at e; exact e ▸ ha)⟩, fun y hy => ?_⟩
  rcases List.mem_append.mp hy with z | z
  · exact h.lt y z
  · rw [List.mem_singleton.mp z]
    exact hx
theorem FdOk.add (hT : OkT n T) (h : FdOk n fd) (hx : x < n) : FdOk n (addT T x fd) := by
  unfold addT
  induction T generalizing fd with
  | nil => exact h
  | cons r T ih =>
    rw [List.foldl_cons]
    have hT' : OkT n T := fun s hs => hT s (List.mem_cons_of_mem _ hs)
    refine ih hT' ?_
    by_cases c : r.getD x 0 ∈ fd
    · rw [if_pos c]
      exact h
    · rw [if_neg c]
      exact h.snoc (hT.get (List.mem_cons_self ..) hx) c
theorem addT_pre (T : List (List Nat)) (x : Nat) (fd : List Nat) : ∃ q, addT T x fd = fd ++ q := by
  unfold addT
  induction T generalizing fd with
  | nil => exact ⟨[], (List.append_nil _).symm⟩
  | cons r T ih =>
    rw [List.foldl_cons]
    obtain ⟨q, hq⟩ := ih (if r.getD x 0 ∈ fd then fd else fd ++ [r.getD x 0])
    rw [hq]
    by_cases c : r.getD x 0 ∈ fd
    · rw [if_pos c]
      exact ⟨q, rfl⟩
    · rw [if_neg c]
      exact ⟨[r.getD x 0] ++ q, by rw [List.append_assoc]⟩
theorem addT_snoc (T : List (List Nat)) (r : List Nat) (x : Nat) (fd : List Nat) : addT (T ++ [r]) x fd = if r.getD x 0 ∈ addT T x fd then addT T x fd else addT T x fd ++ [r.getD x 0] := by
  unfold addT
  rw [List.foldl_append]
  rfl
theorem fp_ok (hT : OkT n T) : ∀ (m i : Nat) {fd : List Nat}, FdOk n fd → FdOk n (fp T m i fd)
  | 0, _, _, h => h
  | m + 1, i, fd, h => by
    show FdOk n (if i < fd.length then fp T m (i + 1) (addT T (fd.getD i 0) fd) else fd)
    by_cases c : i < fd.length
    · rw [if_pos c]
      exact fp_ok hT m (i + 1) (h.add hT (h.lt _ (by rw [List.getD_eq_getElem?_getD, List.getElem?_eq_getElem c]; exact List.getElem_mem _)))
    · rw [if_neg c]
      exact h
theorem fp_pre (T : List (List Nat)) : ∀ (m i : Nat) (fd : List Nat), ∃ q, fp T m i fd = fd ++ q
  | 0, _, fd => ⟨[], (List.append_nil _).symm⟩
  | m + 1, i, fd => by
    show ∃ q, (if i < fd.length then fp T m (i + 1) (addT T (fd.getD i 0) fd) else fd) = fd ++ q
    by_cases c : i < fd.length
    · rw [if_pos c]
      obtain ⟨a, ha⟩ := addT_pre T (fd.getD i 0) fd
      obtain ⟨b, hb⟩ := fp_pre T m (i + 1) (addT T (fd.getD i 0) fd)
      exact ⟨a ++ b, by rw [hb, ha, List.append_assoc]⟩
    · rw [if_neg c]
      exact ⟨[], (List.append_nil _).symm⟩
theorem bfs_ok (hT : OkT n T) (h : x < n) : FdOk n (bfs T n x) := fp_ok hT _ _ (.one h)
end
end Cw
set_option Elab.async false
set_option linter.all false
set_option maxRecDepth 100000
set_option maxHeartbeats 4000000
/-! text.replace(letter, "", 1): the first such letter is left out -/
namespace Cw
open PySem PySem.Spec L2 PyProof.Rows Builtin Builtin.Str
theorem occ_one {p q : List Nat} {c : Nat} (hp : ¬ c ∈ p) : occurrences (tx (p ++ c :: q)) (tx [c]) 0 (tx (p ++ c :: q)).length 1 = [p.length] := by
  have hat : ∀ i, StrLaws.At (tx (p ++ c :: q)) (tx [c]) (tx (p ++ c :: q)).length i ↔ (p ++ c :: q)[i]? = some c := fun i => StrLaws.subAt_one (tx (p ++ c :: q)) c i
  have h0 : (p ++ c :: q)[p.length]? = some c := by rw [List.getElem?_append_right (Nat.le_refl _), Nat.sub_self]; rfl
  have hl := StrLaws.occ_length_le (tx (p ++ c :: q)) (tx [c]) 0 (tx (p ++ c :: q)).length 1
  rcases StrLaws.occ_head (tx (p ++ c :: q)) (tx [c]) 1 (Nat.le_refl _) with ⟨_, h⟩ | ⟨i, r, e, h1, h2⟩
  · exact absurd ((hat _).mpr h0) (h _)
  · rw [e] at hl ⊢
    have hr : r = [] := by
      cases r with
      | nil => rfl
      | cons a r => simp at hl
    have hi := (hat i).mp h1
    have e1 : ¬ i < p.length := by
      intro z
      rw [List.getElem?_append_left z] at hi
      exact hp (List.mem_of_getElem? hi)
    have e2 : ¬ p.length < i := fun z => h2 _ z ((hat _).mpr h0)
    rw [hr, show i = p.length by omega]
/-! ### def without_first(way, kind): return way.replace(kind, "", 1) -/
end Cw
set_option Elab.async false
set_option linter.all false
set_option maxRecDepth 100000
set_option maxHeartbeats 4000000
/-! the vectors of the laws, in plain words -/
namespace Cw
/-- one coordinate of the marks, behind the door d -/
def thr (cr : Nat → List Nat) (d : Nat) (f : Nat → Int) : Nat → Int := fun e => if e = d then - f d else if e ∈ cr d then f e else f e + 2 * f d
/-- the first letter of the list is the last door -/
def act (cr : Nat → List Nat) (w : List Nat) (f : Nat → Int) : Nat → Int := w.foldr (thr cr) f
def unit (x : Nat) : Nat → Int := fun e => if e = x then 1 else 0
section
variable {cr : Nat → List Nat} {a b d e k : Nat} {f : Nat → Int} {w : List Nat}
theorem act_app (u v : List Nat) (f : Nat → Int) : act cr (u ++ v) f = act cr u (act cr v f) := by
  unfold act
  rw [List.foldr_append]
theorem thr_self : thr cr d f d = - f d := if_pos rfl
theorem thr_cr (ok : CrOk cr) (h : e ∈ cr d) : thr cr d f e = f e := by
  unfold thr
  rw [if_neg (fun z : e = d => ok.irr d (by rw [z] at h; exact h)), if_pos h]
theorem thr_not (h : e ≠ d) (h2 : ¬ e ∈ cr d) : thr cr d f e = f e + 2 * f d := by
  unfold thr
  rw [if_neg h, if_neg h2]
theorem thr_thr (ok : CrOk cr) : thr cr d (thr cr d f) = f := by
  funext e
  by_cases h : e = d
  · subst h
    rw [thr_self, thr_self]
    omega
  · by_cases h2 : e ∈ cr d
    · rw [thr_cr ok h2, thr_cr ok h2]
    · rw [thr_not h h2, thr_not h h2, thr_self]
      omega
theorem thr_comm (ok : CrOk cr) (h : a ∈ cr b) : thr cr a (thr cr b f) = thr cr b (thr cr a f) := by
  have h' := ok.sym _ _ h
  have ne : a ≠ b := fun z => ok.irr b (z ▸ h)
  funext e
  by_cases e1 : e = a
  · subst e1
    rw [thr_self, thr_cr ok h, thr_cr ok h, thr_self]
  · by_cases e2 : e = b
    · subst e2
      rw [thr_cr ok h', thr_self, thr_self, thr_cr ok h']
    · by_cases c1 : e ∈ cr a
      · by_cases c2 : e ∈ cr b
        · rw [thr_cr ok c1, thr_cr ok c2, thr_cr ok c2, thr_cr ok c1]
        · rw [thr_cr ok c1, thr_not e2 c2, thr_not e2 c2, thr_cr ok c1, thr_cr ok h']
      · by_cases c2 : e ∈ cr b
        · rw [thr_not e1 c1, thr_cr ok c2, thr_cr ok h, thr_cr ok c2, thr_not e1 c1]
        · rw [thr_not e1 c1, thr_not e2 c2, thr_cr ok h, thr_not e2 c2, thr_not e1 c1, thr_cr ok h']
          omega
theorem act_comm (ok : CrOk cr) : ∀ {q : List Nat}, (∀ y ∈ q, y ∈ cr k) → act cr q (thr cr k f) = thr cr k (act cr q f)
  | [], _ => rfl
  | y :: q, h => by
    show thr cr y (act cr q (thr cr k f)) = thr cr k (thr cr y (act cr q f))
    rw [act_comm ok fun z hz => h z (List.mem_cons_of_mem _ hz), thr_comm ok (h y (List.mem_cons_self ..))]
theorem act_step (ok : CrOk cr) (name : List Nat) (k : Nat) (f : Nat → Int) : act cr (stepOf (cr k) name k) f = act cr (name ++ [k]) f := by
  obtain ⟨d, e, e1, hd, he, hc⟩ := stepOf_cases (cr k) name k
  have e1' := congrArg List.reverse e1
  rw [List.reverse_reverse, List.reverse_append] at e1'
  have hd' : ∀ y ∈ d.reverse, y ∈ cr k := fun y hy => hd y (List.mem_reverse.mp hy)
  rcases hc with ⟨e', rfl, e2⟩ | ⟨hk, e2⟩
  · have e3 := congrArg List.reverse e2
    rw [List.reverse_reverse, List.reverse_append] at e3
    rw [e3, e1', List.reverse_cons, act_app, act_app, act_app, act_app]
    show _ = act cr e'.reverse (thr cr k (act cr d.reverse (thr cr k f)))
    rw [act_comm ok hd', thr_thr ok]
  · have e3 := congrArg List.reverse e2
    rw [List.reverse_reverse, List.reverse_append, List.reverse_reverse] at e3
    obtain ⟨b1, b2, eb, ep, hb1, hb2⟩ := putIn_split k d.reverse
    rw [e3, e1', ep, eb]
    have h2 : ∀ y ∈ b2, y ∈ cr k := fun y hy => hd' y (by rw [eb]; exact List.mem_append_right _ hy)
    simp only [act_app]
    show act cr e.reverse (act cr b1 (thr cr k (act cr b2 f))) = act cr e.reverse (act cr b1 (act cr b2 (thr cr k f)))
    rw [act_comm ok h2]
theorem act_join (ok : CrOk cr) : ∀ (way name : List Nat) (f : Nat → Int), act cr (joinC cr name way) f = act cr (name ++ way) f
  | [], name, f => by rw [List.append_nil]; rfl
  | k :: r, name, f => by
    show act cr (joinC cr (stepOf (cr k) name k) r) f = _
    rw [act_join ok r, act_app, act_step ok, ← act_app, List.append_assoc]
    rfl
/-! ### doors that lead back -/
def desc (cr : Nat → List Nat) (s : Nat) : List Nat → Prop
  | [] => False
  | t :: r => t = s ∨ (t ∈ cr s ∧ desc cr s r)
def Red (cr : Nat → List Nat) : List Nat → Prop
  | [] => True
  | t :: r => ¬ desc cr t r ∧ Red cr r
theorem desc_split {s : Nat} : ∀ {w : List Nat}, desc cr s w → ∃ p q, w = p ++ s :: q ∧ ∀ y ∈ p, y ∈ cr s
  | [], h => h.elim
  | t :: r, h => by
    rcases h with rfl | ⟨h1, h2⟩
    · exact ⟨[], r, rfl, fun _ z => (nomatch z)⟩
    · obtain ⟨p, q, rfl, hp⟩ := desc_split h2
      refine ⟨t :: p, q, rfl, fun y hy => ?_⟩
      rcases List.mem_cons.mp hy with rfl | hy
      · exact h1
      · exact hp y hy
theorem desc_pass {s : Nat} (ok : CrOk cr) {q : List Nat} : ∀ {p : List Nat}, (∀ y ∈ p, y ∈ cr s) → (desc cr s (p ++ q) ↔ desc cr s q)
  | [], _ => Iff.rfl
  | y :: p, h => by
    have hy := h y (List.mem_cons_self ..)
    have ih := desc_pass (q := q) ok (p := p) fun z hz => h z (List.mem_cons_of_mem _ hz)
    constructor
    · rintro (rfl | ⟨_, h2⟩)
      · exact absurd hy (ok.irr _)
      · exact ih.mp h2
    · exact fun z => .inr ⟨hy, ih.mpr z⟩
/-- taken out: the door before its letter keeps what it is -/
theorem desc_out {s t : Nat} (ok : CrOk cr) (h : s ∈ cr t) {q : List Nat} : ∀ {p : List Nat}, desc cr t (p ++ q) → desc cr t (p ++ s :: q)
  | [], z => .inr ⟨h, z⟩
  | y :: p, z => by
    rcases z with z | ⟨z1, z2⟩
    · exact .inl z
    · exact .inr ⟨z1, desc_out ok h z2⟩
theorem Red_out {s : Nat} (ok : CrOk cr) {q : List Nat} : ∀ {p : List Nat}, (∀ y ∈ p, y ∈ cr s) → Red cr (p ++ s :: q) → Red cr (p ++ q)
  | [], _, h => h.2
  | y :: p, hp, h => ⟨fun z => h.1 (desc_out ok (ok.sym _ _ (hp y (List.mem_cons_self ..))) z), Red_out ok (fun z hz => hp z (List.mem_cons_of_mem _ hz)) h.2⟩
theorem Red_right : ∀ {p q : List Nat}, Red cr (p ++ q) → Red cr q
  | [], _, h => h
  | _ :: p, _, h => Red_right (p := p) h.2
/-- what is taken out of a reduced way -/
theorem Red_desc {s : Nat} (ok : CrOk cr) (h : Red cr w) (hs : desc cr s w) : ∃ u, Red cr u ∧ ¬ desc cr s u ∧ u.length + 1 = w.length ∧ (∀ f, act cr w f = thr cr s (act cr u f)) ∧ ∀ y ∈ u, y ∈ w := by
  obtain ⟨p, q, rfl, hp⟩ := desc_split hs
  refine ⟨p ++ q, Red_out ok hp h, ?_, by simp; omega, fun f => ?_, fun y hy => ?_⟩
  · rw [desc_pass ok hp]
    exact (Red_right h).1
  · rw [act_app, act_app]
    show act cr p (thr cr s (act cr q f)) = _
    rw [act_comm ok hp]
  · rcases List.mem_append.mp hy with z | z
    · exact List.mem_append_left _ z
    · exact List.mem_append_right _ (List.mem_cons_of_mem _ z)
end
/-- all coordinates are at least nought, one is above -/
def Pos (ls : List Nat) (v : Nat → Int) : Prop := (∀ x ∈ ls, 0 ≤ v x) ∧ ∃ x ∈ ls, 0 < v x
theorem mul_nn {c x : Int} (h : 0 ≤ c) (h2 : 0 ≤ x) : 0 ≤ c * x := Int.mul_nonneg h h2
theorem Pos.comb {ls : List Nat} {u v : Nat → Int} {c b : Int} (hu : Pos ls u) (hv : Pos ls v) (hc : 0 ≤ c) (hb : 0 < b) : Pos ls fun x => c * u x + b * v x := by
  refine ⟨fun x hx => ?_, ?_⟩
  · have := mul_nn hc (hu.1 x hx)
    have := mul_nn (Int.le_of_lt hb) (hv.1 x hx)
    show 0 ≤ c * u x + b * v x
    omega
  · obtain ⟨x, hx, h⟩ := hv.2
    refine ⟨x, hx, ?_⟩
    have := mul_nn hc (hu.1 x hx)
    have := Int.mul_pos hb h
    show 0 < c * u x + b * v x
    omega
theorem Pos.congr {ls : List Nat} {u v : Nat → Int} (hu : Pos ls u) (h : ∀ x ∈ ls, v x = u x) : Pos ls v := by
  refine ⟨fun x hx => h x hx ▸ hu.1 x hx, ?_⟩
  obtain ⟨x, hx, p⟩ := hu.2
  exact ⟨x, hx, h x hx ▸ p⟩
/-- the mark of the door e behind the way w, coordinate by coordinate -/
def mark (cr : Nat → List Nat) (w : List Nat) (e : Nat) : Nat → Int := fun x => act cr w (unit x) e
section
variable {cr : Nat → List Nat} {ls : List Nat}
theorem mark_pos (ok : CrOk cr) : ∀ (n : Nat) (w : List Nat), w.length = n → Red cr w → (∀ y ∈ w, y ∈ ls) →
    (∀ s ∈ ls, ¬ desc cr s w → Pos ls (mark cr w s)) ∧
    (∀ s ∈ ls, ∀ t ∈ ls, s ≠ t → ¬ s ∈ cr t → desc cr s w → ¬ desc cr t w → ∀ a b : Int, 0 ≤ a → a ≤ b → 0 < b → Pos ls fun x => a * mark cr w s x + b * mark cr w t x) := by
  intro n
  induction n using Nat.strongRecOn with
  | ind n ih =>
    intro w hn hr hw
    refine ⟨fun s hs hd => ?_, fun s hs t ht ne nc hd hd2 a b ha hab hb => ?_⟩
    · cases w with
      | nil =>
        refine ⟨fun x _ => ?_, s, hs, ?_⟩
        · show 0 ≤ unit x s
          unfold unit
          split <;> omega
        · show 0 < unit s s
          unfold unit
          rw [if_pos rfl]
          omega
      | cons t r =>
        have hr' : r.length < n := by rw [← hn]; simp
        have ht : t ∈ ls := hw t (List.mem_cons_self ..)
        have ne : s ≠ t := fun z => hd (.inl z.symm)
        obtain ⟨i1, i2⟩ := ih r.length hr' r rfl hr.2 fun y hy => hw y (List.mem_cons_of_mem _ hy)
        by_cases hc : s ∈ cr t
        · have hsr : ¬ desc cr s r := fun z => hd (.inr ⟨ok.sym _ _ hc, z⟩)
          refine (i1 s hs hsr).congr fun x _ => ?_
          show thr cr t (act cr r (unit x)) s = _
          rw [thr_cr ok hc]
          rfl
        · have key : ∀ x ∈ ls, mark cr (t :: r) s x = 1 * mark cr r s x + 2 * mark cr r t x := by
            intro x _
            show thr cr t (act cr r (unit x)) s = _
            rw [thr_not ne hc]
            show mark cr r s x + 2 * mark cr r t x = _
            omega
          by_cases hsr : desc cr s r
          · exact (i2 s hs t ht ne hc hsr hr.1 1 2 (by decide) (by decide) (by decide)).congr key
          · exact ((i1 s hs hsr).comb (i1 t ht hr.1) (by decide) (by decide)).congr key
    · obtain ⟨u, ru, du, lu, au, mu⟩ := Red_desc ok hr hd
      obtain ⟨i1, i2⟩ := ih u.length (by omega) u rfl ru fun y hy => hw y (mu y hy)
      have nc' : ¬ t ∈ cr s := fun z => nc (ok.sym _ _ z)
      have key : ∀ x ∈ ls, a * mark cr w s x + b * mark cr w t x = b * mark cr u t x + (2 * b - a) * mark cr u s x := by
        intro x _
        have e1 : mark cr w s x = - mark cr u s x := by
          show act cr w (unit x) s = _
          rw [au, thr_self]
          rfl
        have e2 : mark cr w t x = mark cr u t x + 2 * mark cr u s x := by
          show act cr w (unit x) t = _
          rw [au, thr_not ne.symm nc']
          rfl
        rw [e1, e2, Int.mul_neg, Int.mul_add, Int.sub_mul, ← Int.mul_assoc, Int.mul_comm b 2]
        omega
      by_cases htu : desc cr t u
      · exact (i2 t ht s hs ne.symm nc' htu du b (2 * b - a) (by omega) (by omega) (by omega)).congr key
      · exact ((i1 t ht htu).comb (i1 s hs du) (by omega) (by omega)).congr key
/-- a door leads back just if a coordinate of its mark is below nought -/
theorem mark_neg (ok : CrOk cr) {w : List Nat} (hr : Red cr w) (hw : ∀ y ∈ w, y ∈ ls) {s : Nat} (hs : s ∈ ls) : (∃ x ∈ ls, mark cr w s x < 0) ↔ desc cr s w := by
  constructor
  · rintro ⟨x, hx, h⟩
    by_cases hd : desc cr s w
    · exact hd
    · have := ((mark_pos ok _ w rfl hr hw).1 s hs hd).1 x hx
      omega
  · intro hd
    obtain ⟨u, ru, du, lu, au, mu⟩ := Red_desc ok hr hd
    obtain ⟨x, hx, h⟩ := ((mark_pos ok _ u rfl ru fun y hy => hw y (mu y hy)).1 s hs du).2
    refine ⟨x, hx, ?_⟩
    show act cr w (unit x) s < 0
    rw [au, thr_self]
    have : 0 < act cr u (unit x) s := h
    omega
/-! ### names by marks -/
theorem NF.tail {c : Nat} {r : List Nat} (h : NF cr (c :: r)) : NF cr r := by
  unfold NF at h ⊢
  rw [List.reverse_cons] at h
  have key : ∀ {a b : List Nat}, NFr cr (a ++ b) → NFr cr a := by
    intro a b
    induction a with
    | nil => intro _; trivial
    | cons s a ih =>
      intro h
      refine ⟨?_, ih h.2⟩
      have h1 := h.1
      clear h ih
      induction a with
      | nil => trivial
      | cons t a ih => exact ⟨h1.1, fun z => ⟨(h1.2 z).1, ih (h1.2 z).2⟩⟩
  exact key h
theorem NF.red : ∀ {w : List Nat}, NF cr w → Red cr w
  | [], _ => trivial
  | t :: r, h => by
    refine ⟨fun z => ?_, NF.red h.tail⟩
    obtain ⟨p, q, rfl, hp⟩ := desc_split z
    exact (h.two (p := []) (q := p) (r := q) rfl hp).1 rfl
/-- the first letter is the least door back -/
theorem NF.least {c s : Nat} {r : List Nat} (h : NF cr (c :: r)) (hs : desc cr s (c :: r)) : c ≤ s := by
  rcases hs with rfl | ⟨h1, h2⟩
  · exact Nat.le_refl _
  · obtain ⟨p, q, rfl, hp⟩ := desc_split h2
    exact Nat.le_of_lt ((h.two (p := []) (q := p) (r := q) rfl hp).2 h1)
end
end Cw
set_option Elab.async false
set_option linter.all false
set_option maxRecDepth 100000
set_option maxHeartbeats 4000000
/-! a drawn floor, in plain words -/
namespace Cw
/-- the letters of a drawn floor and which cross -/
structure Fl (ls : List Nat) (f : Nat → List Nat) : Prop where
  tab : Tab ls f
  ok : CrOk f
  asc : ls.Pairwise (· < ·)
  pos : 0 < ls.length
theorem Flr.fl {num : Nat} {ls : List Nat} {rel : Nat → Nat → Bool} (h : Flr num ls rel) : Fl ls (crossBy ls rel) where
  tab := h.tab
  asc := cut_lt' h.cut
  pos := (cut_len h.cut).2.2
  ok := by
    refine ⟨fun a b hab => ?_, fun a ha => ?_⟩
    · obtain ⟨h1, h2⟩ := List.mem_filter.mp hab
      have h3 := h.ok.in b a h2
      refine List.mem_filter.mpr ⟨h3.1, ?_⟩
      rw [h.ok.sym]
      exact h2
    · obtain ⟨h1, h2⟩ := List.mem_filter.mp ha
      exact (h.ok.in a a h2).2.2 rfl
theorem Fl.plain {ls : List Nat} {f : Nat → List Nat} (h : Fl ls f) : Fl ls (fun _ => []) where
  tab := ⟨h.tab.nd, h.tab.lt, h.tab.len, fun _ _ _ z => (nomatch z), fun _ _ => by simp⟩
  ok := ⟨fun _ _ z => (nomatch z), fun _ z => (nomatch z)⟩
  asc := h.asc
  pos := h.pos
section
variable {ls : List Nat} {f : Nat → List Nat}
end
end Cw
set_option Elab.async false
set_option linter.all false
set_option maxRecDepth 100000
set_option maxHeartbeats 4000000
/-! ways turned back; the doors that lead nearer -/
namespace Cw
section
variable {cr f : Nat → List Nat} {ls : List Nat}
/-! ### odd and even -/
/-! ### doors nearer -/
instance descDec (cr : Nat → List Nat) (s : Nat) : (w : List Nat) → Decidable (desc cr s w)
  | [] => isFalse id
  | t :: r => by
    have := descDec cr s r
    exact inferInstanceAs (Decidable (t = s ∨ (t ∈ cr s ∧ desc cr s r)))
/-- letters of a way that all before them cross -/
def frees (f : Nat → List Nat) (ks : List Nat) (p : List Nat) : List Nat := p.foldl (fun free k => free.filter fun o => decide (o ∈ f k)) ks
end
end Cw
set_option Elab.async false
set_option linter.all false
set_option maxRecDepth 100000
set_option maxHeartbeats 4000000
/-! walls in plain words: two doors of one kind lie in one wall just if their marks agree but for the sign -/
namespace Cw
/-! ### sums of coordinates -/
def sumL : List Nat → (Nat → Int) → Int
  | [], _ => 0
  | x :: r, v => v x + sumL r v
theorem sumL_congr {u v : Nat → Int} : ∀ {ls : List Nat}, (∀ x ∈ ls, u x = v x) → sumL ls u = sumL ls v
  | [], _ => rfl
  | x :: r, h => by
    show u x + sumL r u = v x + sumL r v
    rw [h x (List.mem_cons_self ..), sumL_congr fun y hy => h y (List.mem_cons_of_mem _ hy)]
theorem sumL_comb (a b : Int) (u v : Nat → Int) : ∀ ls : List Nat, sumL ls (fun x => a * u x + b * v x) = a * sumL ls u + b * sumL ls v
  | [] => by simp [sumL]
  | x :: r => by
    show (a * u x + b * v x) + sumL r _ = a * (u x + sumL r u) + b * (v x + sumL r v)
    rw [sumL_comb a b u v r, Int.mul_add, Int.mul_add]
    omega
theorem sumL_nonneg {v : Nat → Int} : ∀ {ls : List Nat}, (∀ x ∈ ls, 0 ≤ v x) → 0 ≤ sumL ls v
  | [], _ => by simp [sumL]
  | x :: r, h => by
    show 0 ≤ v x + sumL r v
    have := h x (List.mem_cons_self ..)
    have := sumL_nonneg (ls := r) fun y hy => h y (List.mem_cons_of_mem _ hy)
    omega
theorem sumL_nonpos {v : Nat → Int} : ∀ {ls : List Nat}, (∀ x ∈ ls, v x ≤ 0) → sumL ls v ≤ 0
  | [], _ => by simp [sumL]
  | x :: r, h => by
    show v x + sumL r v ≤ 0
    have := h x (List.mem_cons_self ..)
    have := sumL_nonpos (ls := r) fun y hy => h y (List.mem_cons_of_mem _ hy)
    omega
theorem sumL_out {g : Nat → Int} {s : Nat} : ∀ {ls : List Nat}, ¬ s ∈ ls → sumL ls (fun x => g x * unit x s) = 0
  | [], _ => rfl
  | y :: r, h => by
    show g y * unit y s + sumL r _ = 0
    rw [sumL_out fun z => h (List.mem_cons_of_mem _ z)]
    unfold unit
    rw [if_neg fun z : s = y => h (z ▸ List.mem_cons_self ..)]
    simp
theorem sumL_unit {g : Nat → Int} {s : Nat} : ∀ {ls : List Nat}, ls.Nodup → s ∈ ls → sumL ls (fun x => g x * unit x s) = g s
  | [], _, h => nomatch h
  | y :: r, hn, h => by
    show g y * unit y s + sumL r _ = g s
    have hn' := List.nodup_cons.mp hn
    by_cases e : s = y
    · subst e
      rw [sumL_out hn'.1]
      unfold unit
      rw [if_pos rfl]
      omega
    · rw [sumL_unit hn'.2 ((List.mem_cons.mp h).resolve_left e)]
      unfold unit
      rw [if_neg e]
      omega
section
variable {f : Nat → List Nat} {ls : List Nat} {s t : Nat}
/-- a way acts as a matrix of whole numbers -/
theorem act_lin (hn : ls.Nodup) (ok : CrOk f) (g : Nat → Int) : ∀ {w : List Nat} {s : Nat}, (∀ y ∈ w, y ∈ ls) → s ∈ ls → act f w g s = sumL ls fun x => g x * mark f w s x
  | [], s, _, hs => (sumL_unit hn hs).symm
  | t :: r, s, hw, hs => by
    have ht := hw t (List.mem_cons_self ..)
    have hr : ∀ y ∈ r, y ∈ ls := fun y hy => hw y (List.mem_cons_of_mem _ hy)
    show thr f t (act f r g) s = _
    by_cases e : s = t
    · subst e
      rw [thr_self, act_lin hn ok g hr hs]
      have := sumL_comb (-1) 0 (fun x => g x * mark f r s x) (fun _ => 0) ls
      have e2 : sumL ls (fun x => g x * mark f (s :: r) s x) = sumL ls fun x => -1 * (g x * mark f r s x) + 0 * 0 := sumL_congr fun x _ => by
        show g x * thr f s (act f r (unit x)) s = _
        rw [thr_self, Int.mul_neg]
        show -(g x * mark f r s x) = _
        omega
      rw [e2, this]
      omega
    · by_cases c : s ∈ f t
      · rw [thr_cr ok c, act_lin hn ok g hr hs]
        refine sumL_congr fun x _ => ?_
        show _ = g x * thr f t (act f r (unit x)) s
        rw [thr_cr ok c]
        rfl
      · rw [thr_not e c, act_lin hn ok g hr hs, act_lin hn ok g hr ht]
        have := sumL_comb 1 2 (fun x => g x * mark f r s x) (fun x => g x * mark f r t x) ls
        have e2 : sumL ls (fun x => g x * mark f (t :: r) s x) = sumL ls fun x => 1 * (g x * mark f r s x) + 2 * (g x * mark f r t x) := sumL_congr fun x _ => by
          show g x * thr f t (act f r (unit x)) s = _
          rw [thr_not e c]
          show g x * (mark f r s x + 2 * mark f r t x) = _
          rw [Int.mul_add, ← Int.mul_assoc, Int.mul_comm (g x) 2, Int.mul_assoc]
          omega
        rw [e2, this]
        omega
theorem mark_nn (ok : CrOk f) {w : List Nat} (hr : Red f w) (hw : ∀ y ∈ w, y ∈ ls) (hs : s ∈ ls) (hd : ¬ desc f s w) : Pos ls (mark f w s) := (mark_pos ok _ w rfl hr hw).1 s hs hd
theorem mark_np (ok : CrOk f) {w : List Nat} (hr : Red f w) (hw : ∀ y ∈ w, y ∈ ls) (hs : s ∈ ls) (hd : desc f s w) : ∀ x ∈ ls, mark f w s x ≤ 0 := by
  intro x hx
  obtain ⟨u, ru, du, lu, au, mu⟩ := Red_desc ok hr hd
  have := (mark_nn ok ru (fun y hy => hw y (mu y hy)) hs du).1 x hx
  show act f w (unit x) s ≤ 0
  rw [au, thr_self]
  have : 0 ≤ act f u (unit x) s := this
  omega
/-! ### the end of a way that may be left off -/
/-! ### where a wall begins -/
end
end Cw
set_option Elab.async false
set_option linter.all false
set_option maxRecDepth 100000
set_option maxHeartbeats 4000000
/-! more of walls in plain words -/
namespace Cw
section
variable {f : Nat → List Nat} {ls : List Nat} {s t : Nat}
end
end Cw
set_option Elab.async false
set_option linter.all false
set_option maxRecDepth 100000
set_option maxHeartbeats 4000000
/-! rooms beyond a wall, by the marks of the doors of a shortest way -/
namespace Cw
section
variable {f : Nat → List Nat} {ls : List Nat} {s c : Nat}
end
end Cw
set_option Elab.async false
set_option linter.all false
set_option maxRecDepth 100000
set_option maxHeartbeats 4000000
/-! text.index(letter); vectors turned by one kind -/
namespace Cw
open PySem PySem.Spec PyProof.Rows L2
def rIdx : V → List V → Hp → VK → Prop := fun x xs H Q => ∃ a b i rest, x = .str a ∧ xs = [.str b] ∧ Builtin.Str.occurrences a b 0 a.length 1 = i :: rest ∧ Q (.int (i : Nat)) H
theorem pe_index {X : Cx} {o e : Expr} {to te : TE} {apos pos : PySem.Pos} (ho : PE X o to) (he : PE X e te) (hs : starEach [e] X.env = [(false, eval e X.env)] := by rfl) (hbase : attributeBase o "index" X.env (eval o X.env) = eval o X.env := by rfl) (hline : (apos.endLine == pos.line) = true := by rfl) :
    PE X (.Call (.Attribute o "index" apos) [e] [] pos) (tM1 rIdx to te) := pe_m1 F.slot_str_index F.type_str_index mt_sindex ho he hs hbase hline
/-- the first place of a letter -/
def ixOf (l : List Nat) (c : Nat) : Nat := l.idxOf c
theorem lt_ixOf : ∀ {l : List Nat} {c j : Nat}, j < l.idxOf c → l[j]? ≠ some c
  | [], c, j, h => by simp
  | a :: r, c, j, h => by
    rw [List.idxOf_cons] at h
    by_cases e : a = c
    · subst e
      simp at h
    · have e' : (a == c) = false := beq_eq_false_iff_ne.mpr e
      rw [e'] at h
      simp only [cond_false] at h
      cases j with
      | zero =>
        rw [List.getElem?_cons_zero]
        exact fun z => e (Option.some.inj z)
      | succ j =>
        rw [List.getElem?_cons_succ]
        exact lt_ixOf (by omega)
theorem v_index {H : Hp} {Q : VK} {l : List Nat} {c : Nat} (h : c ∈ l) (q : Q (.int ((ixOf l c : Nat) : Int)) H) : rIdx (.str (tx l)) [.str (tx [c])] H Q := by
  have hi : ixOf l c < l.length := List.idxOf_lt_length_iff.mpr h
  have e : l = l.take (ixOf l c) ++ c :: l.drop (ixOf l c + 1) := by
    have e1 : l[ixOf l c] = c := List.getElem_idxOf hi
    conv => lhs; rw [← List.take_append_drop (ixOf l c) l, List.drop_eq_getElem_cons hi, e1]
  have hn : ¬ c ∈ l.take (ixOf l c) := fun m => by
    obtain ⟨j, hj, ej⟩ := List.getElem_of_mem m
    rw [List.length_take] at hj
    rw [List.getElem_take] at ej
    have hj2 : j < ixOf l c := by omega
    exact lt_ixOf hj2 (by rw [List.getElem?_eq_getElem (show j < l.length by omega), ej])
  refine ⟨_, _, ixOf l c, [], rfl, rfl, ?_, q⟩
  have o := occ_one (q := l.drop (ixOf l c + 1)) hn
  rw [← e] at o
  rw [o, List.length_take, Nat.min_eq_left (by omega)]
theorem ixOf_get {l : List Nat} {c : Nat} (h : c ∈ l) : ixOf l c < l.length ∧ l.getD (ixOf l c) 0 = c := by
  have hi : ixOf l c < l.length := List.idxOf_lt_length_iff.mpr h
  refine ⟨hi, ?_⟩
  rw [List.getD_eq_getElem?_getD, List.getElem?_eq_getElem hi]
  exact List.getElem_idxOf hi
/-! ### one turn of a vector -/
end Cw
set_option Elab.async false
set_option linter.all false
set_option maxRecDepth 100000
set_option maxHeartbeats 4000000
/-! text.find(letter) -/
namespace Cw
open PySem PySem.Spec PyProof.Rows L2
def rFind : V → List V → Hp → VK → Prop := fun x xs H Q => ∃ a b, x = .str a ∧ xs = [.str b] ∧ Q (.int (match Builtin.Str.occurrences a b 0 a.length 1 with | i :: _ => (i : Int) | [] => -1)) H
theorem mt_find {X : Cx} : MtR X "str.find" rFind := by
  rintro pins s σ H x xs v us Q I rx rs ⟨a, b, rfl, rfl, q⟩
  obtain ⟨t, rfl⟩ := rx
  match us, rs with
  | [_], .cons r1 .nil =>
    obtain ⟨t2, rfl⟩ := r1
    exact PySem.SC.find ⟨.int (match Builtin.Str.occurrences a b 0 a.length 1 with | i :: _ => (i : Int) | [] => -1), H, I.tok _, ⟨_, rfl⟩, q⟩
theorem pe_find {X : Cx} {o e : Expr} {to te : TE} {apos pos : PySem.Pos} (ho : PE X o to) (he : PE X e te) (hs : starEach [e] X.env = [(false, eval e X.env)] := by rfl) (hbase : attributeBase o "find" X.env (eval o X.env) = eval o X.env := by rfl) (hline : (apos.endLine == pos.line) = true := by rfl) :
    PE X (.Call (.Attribute o "find" apos) [e] [] pos) (tM1 rFind to te) := pe_m1 F.slot_str_find F.type_str_find mt_find ho he hs hbase hline
theorem v_find {H : Hp} {Q : VK} {l : List Nat} {c : Nat} (h : c ∈ l) (q : Q (.int ((ixOf l c : Nat) : Int)) H) : rFind (.str (tx l)) [.str (tx [c])] H Q := by
  obtain ⟨a, b, i, rest, e1, e2, ho, e3⟩ := v_index (H := H) (Q := fun v _ => v = .int ((ixOf l c : Nat) : Int)) h rfl
  injection e1 with e1
  injection e2 with e2
  injection e2 with e2
  subst e1 e2
  refine ⟨_, _, rfl, rfl, ?_⟩
  rw [ho]
  injection e3 with e3
  show Q (.int (i : Int)) H
  rw [e3]
  exact q
end Cw
set_option Elab.async false
set_option linter.all false
set_option maxRecDepth 100000
set_option maxHeartbeats 4000000
/-! more operators of classes of one's own: o + text, o[text], o == text -/
namespace PySem.W
open PySem PySem.Calls PyProof.Rows Builtin
section
variable {prog : Program} {w : World} {A : Around} {E : Value → Shared → Prop} {s : Shared} {K : Frag} {x C L f : Addr} {h0 : Heap} {m : Str → Option Value} {ox : Obj} {od : Option Obj}
theorem binop_own {b : Value} {T : String} {Q : Value → Shared → Prop} (F : Fr h0 L s.heap m) (X0 : K.In h0) (I : InstAt s.heap x ox C od) (hb : Looks (model prog w) s.heap (typeOf b) (.type T)) (hno : fillsNumberSlot (.type T) "add" = pure false) (hc : selfFirst K C = true)
    (hs : findIn K (.ref C) (PySem.dunder "add") = some (some (.ref f))) (hf : isFn K (.ref f) = true)
    (h : wpAny (model prog w) A (call (.ref f) [.ref x, b]) (CmpBack Q) E s) : wpAny (model prog w) A (binaryOp .Add (.ref x) b) Q E s := by
  have X := X0.keeps F.keep
  obtain ⟨cd, hcd, hm⟩ := any_some hc
  obtain ⟨rest, hm⟩ : ∃ rest, cd.mro = .ref C :: rest := by
    cases q : cd.mro with
    | nil => rw [q] at hm; cases hm
    | cons a r => rw [q] at hm; exact ⟨r, by rw [List.head?_cons] at hm; cases (beq_iff_eq.mp hm); rfl⟩
  have ne : (Value.ref C == Value.type T) = false := rfl
  unfold binaryOp
  refine wpAny_holding (wpAny_bind ?_)
  unfold binaryOp1
  refine wpAny_bind (I.type.here (wpAny_bind (hb.here (wpAny_bind ((fills_K X hcd hm hs).here ?_)))))
  simp only [ne, Bool.false_eq_true, if_false]
  refine wpAny_bind ?_
  show wpAny (model prog w) A (fillsNumberSlot (.type T) "add") _ _ _
  rw [hno]
  refine wpAny_pure ?_
  simp only [Bool.and_false, Bool.false_eq_true, if_false, Bool.false_and]
  refine wpAny_bind (wpAny_pure ?_)
  simp only [Bool.false_eq_true, if_false, if_true]
  refine wpAny_bind (m := tryMethod (.ref x) _ b) ?_
  unfold tryMethod
  refine wpAny_bind (special_fn X I hs (beq_iff_eq.mp hf) (wpAny_mono h (fun v s' hv => ?_) fun _ _ e => e))
  cases v <;> first | exact hv.elim | exact wpAny_pure (wpAny_pure (wpAny_pure hv))
end
end PySem.W
namespace Cw
open PySem PySem.Spec L2
section
variable {X : Cx} {CX : CXT} {k : Nat} {C : Addr} {m : Str} {ps : List Str} {sp : Sp} {E : XK}
/-- o op text, by the class's own method -/
def rMS (C : Addr) (sp : Sp) (E : XK) : R2 := fun x y H Q => ∃ a dx fs z, x = .ref a ∧ y = .str z ∧ H a = some (.ins C dx fs) ∧ sp [.ref a, .str z] H Q E
theorem op_addM (D : MDef X.prog X.w X.K X.mg X.base CX k C "__add__" ps sp) (hc : PySem.W.selfFirst X.K C = true) (hr : Room k X.A) (hx : Passes CX X E) : OpR X (binaryOp .Add) (rMS C sp E) := by
  obtain ⟨f, fd, h1, h2, kp, ⟨hb, _⟩, F⟩ := D.ex
  intro pins s σ H x y v u Q I rx ry h
  obtain ⟨a, dx, fs, z, rfl, rfl, ha, hq⟩ := h
  cases rx
  obtain ⟨t, rfl⟩ := ry
  obtain ⟨mA, J, _⟩ := ins_get I.hok ha
  obtain ⟨od, J, _⟩ := J.look
  obtain ⟨mm, hF⟩ := I.fr
  refine PySem.W.binop_own (T := "str") hF I.ok.mod.kin J .now PyProof.Rows.noFill_str_add hc h1 h2 ?_
  have z := run_fn (us := [.ref a, .str z t]) (vs := [.ref a, .str z]) (dvs := []) F hr hb .nil hx I (.cons rfl (.cons ⟨t, rfl⟩ .nil)) hq
  refine wpAny_mono z (fun v s' q => ?_) fun _ _ q => q
  obtain ⟨y, H', I', r, q⟩ := q
  have k : EP X pins σ Q v s' := ⟨y, H', I', r, q⟩
  cases v <;> first | exact k | (exfalso; cases y <;> first | (obtain ⟨_, r⟩ := r; cases r) | cases r)
end
section
variable {σ : St} {H : Hp} {Q : VK} {K : PySem.W.Frag}
end
end Cw
set_option Elab.async false
set_option linter.all false
set_option maxRecDepth 100000
set_option maxHeartbeats 4000000
/-! tables of vectors -/
namespace Cw
open PySem PySem.Spec L2
def marksKV (ls : List Nat) (A : Nat → Addr) : List (Key × V) := ls.map fun c => ((Sum.inr (tx [c]) : Key), V.ref (A c))
def vecV (ls : List Nat) (v : Nat → Int) : List V := ls.map fun x => V.int (v x)
structure MarksAt (H : Hp) (m : Addr) (ls : List Nat) (M : Nat → Nat → Int) : Prop where
  ex : ∃ A : Nat → Addr, H m = some (.dK (marksKV ls A)) ∧ ∀ c ∈ ls, H (A c) = some (.tup (vecV ls (M c)))
theorem MarksAt.same {H H' : Hp} {m : Addr} {ls : List Nat} {M : Nat → Nat → Int} (h : MarksAt H m ls M) (s : Same H H') : MarksAt H' m ls M := by
  obtain ⟨A, a, b⟩ := h.ex
  exact ⟨A, s _ _ a, fun c hc => s _ _ (b c hc)⟩
theorem MarksAt.congr {H : Hp} {m : Addr} {ls : List Nat} {M M' : Nat → Nat → Int} (h : MarksAt H m ls M) (e : ∀ c ∈ ls, ∀ x ∈ ls, M c x = M' c x) : MarksAt H m ls M' := by
  obtain ⟨A, a, b⟩ := h.ex
  refine ⟨A, a, fun c hc => ?_⟩
  rw [b c hc]
  congr 2
  exact List.map_congr_left fun x hx => by rw [e c hc x hx]
/-- the keys of a table by letters -/
theorem walk_let {d : Addr} {o : Obj} {ls : List Nat} {g : Nat → V} : Walk (Itk d o (ls.map fun c => ((Sum.inr (tx [c]) : Key), g c))) ls.length (fun H => H d = some (.frz o (.dK (ls.map fun c => ((Sum.inr (tx [c]) : Key), g c))))) (YFn fun k => .str (tx [ls.getD k 0])) := by
  have w := walk_keys (d := d) (o := o) (kvs := ls.map fun c => ((Sum.inr (tx [c]) : Key), g c))
  rw [List.length_map] at w
  refine w.mono (fun _ z => z) fun i H x H' hi _ y => ?_
  obtain ⟨rfl, kk, vv, hkv, rfl⟩ := y
  refine ⟨rfl, ?_⟩
  rw [List.getElem?_map, List.getElem?_eq_getElem hi] at hkv
  injection hkv with hkv
  injection hkv with a b
  show _ = V.str (tx [ls.getD i 0])
  rw [← a, List.getD_eq_getElem?_getD, List.getElem?_eq_getElem hi]
  rfl
section
variable {K : PySem.W.Frag} {a : Addr} {ls : List Nat} {f : Nat → V}
end
section
variable {σ : St} {H : Hp} {Q : VK} {te : TE} {K : PySem.W.Frag}
theorem e_iT {R : It → Hp → Prop} (q : te σ H fun x H1 => ∃ a, x = .ref a ∧ (∃ xs, SqT K H1 a xs) ∧ R (Itt K a) H1) : iTup K te σ H R := q
theorem v_lenT {p : Addr} {ys : List V} (h : H p = some (.tup ys)) (q : Q (.int ys.length) H) : rLen K [.ref p] H Q := ⟨p, ys, rfl, .inr (SqT.of h), q⟩
theorem v_ixT {p : Addr} {xs : List V} {a : Int} {v : V} (h : H p = some (.tup xs)) (c : atI xs a = some v) (q : Q v H) : rIxT K (.ref p) (.int a) H Q := ⟨p, xs, a, v, rfl, rfl, SqT.of h, c, q⟩
theorem vals_some {σ : St} {i : Nat} {tt : TT} {te : TE} {P : Addr → Hp → Prop} {J : It} {G : Hp → Prop} {ls : List Nat} {it f : Nat → V} {b : Nat → Bool} (w : Walk J ls.length G (YFn fun k => it (ls.getD k 0))) (hG : ∀ H', Same H H' → G H') (hn : ls.length ≤ 1000000)
    (ht : ∀ c ∈ ls, ∀ H1, Same H H1 → ∀ R : Bool → Hp → Prop, (∀ H2, Same H1 H2 → R (b c) H2) → tt ((wipe σ [i]).set i (some (it c))) H1 R)
    (he : ∀ c ∈ ls, b c = true → ∀ H1, Same H H1 → ∀ R : VK, (∀ H2, Same H1 H2 → R (f c) H2) → te ((wipe σ [i]).set i (some (it c))) H1 R)
    (q : ∀ D H', H D = none → Same H H' → H' D = some (.lst ((ls.filter b).map f)) → P D H') :
    ∀ D, H D = none → ∃ W : Nat → Nat → Hp → Prop, (∃ m, W 0 m (upd H D (.lst []))) ∧ ∀ k m H, W k m H →
      (J.stop k H ∧ P D H) ∨ (J.go k H ∧ ∃ Nx : Hp → Prop, (∀ H', Nx H' → ∃ m', m' < m ∧ W (k + 1) m' H') ∧ ∀ x H', J.yld k H x H' → (gName i) x (wipe σ [i]) H' fun s2 H2 => wipe s2 [i] = wipe σ [i] ∧ tt s2 H2 fun c H3 =>
        if c = true then te s2 H3 fun y H4 => ∃ acc, H4 D = some (.lst acc) ∧ acc.length < sizeLine ∧ Nx (upd H4 D (.lst (acc ++ [y]))) else Nx H3) := by
  refine lc_gen (b := fun k => b (ls.getD k 0)) (f := fun k => f (ls.getD k 0)) w hG hn (fun k hk H1 s1 R r => ht _ (getD_mem hk) H1 s1 R r) (fun k hk c H1 s1 R r => he _ (getD_mem hk) c H1 s1 R r) (fun D H' hD s' e => q D H' hD s' ?_)
  rw [e, range_map ls b f]
end
end Cw
namespace Cw
open PySem PySem.Spec L2
end Cw
set_option Elab.async false
set_option linter.all false
set_option maxRecDepth 100000
set_option maxHeartbeats 4000000
/-! places found: nothing leads out of them; tables numbered anew -/
namespace Cw
open PySem PySem.Spec L2
section
variable {T : List (List Nat)} {n x : Nat} {fd : List Nat}
theorem addT_sub (T : List (List Nat)) (x : Nat) (fd : List Nat) : ∀ y ∈ fd, y ∈ addT T x fd := fun y hy => by
  obtain ⟨q, hq⟩ := addT_pre T x fd
  rw [hq]
  exact List.mem_append_left _ hy
theorem addT_has : ∀ {T : List (List Nat)} {fd : List Nat}, ∀ r ∈ T, r.getD x 0 ∈ addT T x fd
  | [], _, r, hr => nomatch hr
  | s :: T, fd, r, hr => by
    show r.getD x 0 ∈ addT T x (if s.getD x 0 ∈ fd then fd else fd ++ [s.getD x 0])
    rcases List.mem_cons.mp hr with rfl | hr
    · refine addT_sub _ _ _ _ ?_
      by_cases c : r.getD x 0 ∈ fd
      · rw [if_pos c]
        exact c
      · rw [if_neg c]
        exact List.mem_append_right _ (List.mem_singleton.mpr rfl)
    · exact addT_has r hr
theorem fp_closed (hT : OkT n T) : ∀ (m i : Nat) {fd : List Nat}, FdOk n fd → m + i = n + 1 → i ≤ fd.length → (∀ j, j < i → ∀ r ∈ T, r.getD (fd.getD j 0) 0 ∈ fd) → ∀ y ∈ fp T m i fd, ∀ r ∈ T, r.getD y 0 ∈ fp T m i fd
  | 0, i, fd, ok, hm, hi, _ => by
    have := ok.len
    omega
  | m + 1, i, fd, ok, hm, hi, h => by
    show ∀ y ∈ (if i < fd.length then fp T m (i + 1) (addT T (fd.getD i 0) fd) else fd), ∀ r ∈ T, r.getD y 0 ∈ (if i < fd.length then fp T m (i + 1) (addT T (fd.getD i 0) fd) else fd)
    by_cases c : i < fd.length
    · rw [if_pos c]
      have hx : fd.getD i 0 < n := ok.lt _ (getD_mem c)
      obtain ⟨q, hq⟩ := addT_pre T (fd.getD i 0) fd
      have gj : ∀ j, j < fd.length → (addT T (fd.getD i 0) fd).getD j 0 = fd.getD j 0 := fun j hj => by
        rw [hq, List.getD_eq_getElem?_getD, List.getElem?_append_left hj, ← List.getD_eq_getElem?_getD]
      refine fp_closed hT m (i + 1) (ok.add hT hx) (by omega) (by rw [hq, List.length_append]; omega) fun j hj r hr => ?_
      rw [gj j (by omega)]
      by_cases e : j = i
      · rw [e]
        exact addT_has r hr
      · exact addT_sub _ _ _ _ (h j (by omega) r hr)
    · rw [if_neg c]
      intro y hy r hr
      obtain ⟨j, hj, e⟩ := List.getElem_of_mem hy
      have z := h j (by omega) r hr
      have g : fd.getD j 0 = y := by rw [List.getD_eq_getElem?_getD, List.getElem?_eq_getElem hj, ← e]; rfl
      rw [g] at z
      exact z
theorem bfs_closed (hT : OkT n T) (h : x < n) : ∀ y ∈ bfs T n x, ∀ r ∈ T, r.getD y 0 ∈ bfs T n x := fp_closed hT (n + 1) 0 (.one h) rfl (Nat.zero_le _) fun _ z => absurd z (Nat.not_lt_zero _)
/-- the tables of the places found, numbered in their order -/
def rowN (fd r : List Nat) : List Nat := fd.map fun p => ixOf fd (r.getD p 0)
def numT (T : List (List Nat)) (fd : List Nat) : List (List Nat) := T.map (rowN fd)
theorem numT_ok (hT : OkT n T) (h : x < n) : OkT (bfs T n x).length (numT T (bfs T n x)) := fun r hr => by
  obtain ⟨s, hs, rfl⟩ := List.mem_map.mp hr
  refine ⟨List.length_map _, fun y hy => ?_⟩
  obtain ⟨p, hp, rfl⟩ := List.mem_map.mp hy
  exact (ixOf_get (bfs_closed hT h p hp s hs)).1
end
end Cw
set_option Elab.async false
set_option linter.all false
set_option maxRecDepth 100000
set_option maxHeartbeats 4000000
/-! {x: i for i, x in enumerate(list)} of different numbers -/
namespace Cw
open PySem PySem.Spec L2
theorem ix_snoc {l : List Nat} {c d : Nat} (h : c ∈ l) : ixOf (l ++ [d]) c = ixOf l c := by
  unfold ixOf
  rw [List.idxOf_append, if_pos h]
theorem ix_last {l : List Nat} {d : Nat} (h : ¬ d ∈ l) : ixOf (l ++ [d]) d = l.length := by
  unfold ixOf
  rw [List.idxOf_append, if_neg h, List.idxOf_cons_self, Nat.zero_add]
section
variable {K : PySem.W.Frag} {σ : L2.St} {H : Hp} {i j : Nat} {tt : TT} {tk tv : TE} {P : Addr → Hp → Prop} {a : Addr}
/-- the turns of a dict comprehension, told by what holds before each -/
theorem dc_turns {J : It} {n : Nat} {G : Hp → Prop} {Y : Nat → Hp → V → Hp → Prop} (w : Walk J n G Y) {g : TG} {vs : List Nat} {H1 : Hp} {D : Addr} {Qd : Hp → Prop} (Pv : Nat → Hp → Prop) (h0 : Pv 0 (upd H1 D (.dK []))) (hG : ∀ k H, k ≤ n → Pv k H → G H)
    (hs : ∀ k x H H', k < n → Pv k H → Y k H x H' → g x (wipe σ vs) H' fun σ2 H2 => wipe σ2 vs = wipe σ vs ∧ tt σ2 H2 fun b H3 => if b = true then tk σ2 H3 fun y H4 => tv σ2 H4 fun z H5 => ∃ kvs k', y = kV k' ∧ H5 D = some (.dK kvs) ∧ kvs.length < sizeLine ∧ Pv (k + 1) (upd H5 D (.dK (putK kvs k' z))) else Pv (k + 1) H3) (hd : ∀ H, Pv n H → Qd H) :
    ∃ W : Nat → Nat → Hp → Prop, (∃ m, W 0 m (upd H1 D (.dK []))) ∧ ∀ k m H, W k m H →
      (J.stop k H ∧ Qd H) ∨ (J.go k H ∧ ∃ Nx : Hp → Prop, (∀ H', Nx H' → ∃ m', m' < m ∧ W (k + 1) m' H') ∧ ∀ x H', J.yld k H x H' → g x (wipe σ vs) H' fun σ2 H2 => wipe σ2 vs = wipe σ vs ∧ tt σ2 H2 fun b H3 =>
        if b = true then tk σ2 H3 fun y H4 => tv σ2 H4 fun z H5 => ∃ kvs k', y = kV k' ∧ H5 D = some (.dK kvs) ∧ kvs.length < sizeLine ∧ Nx (upd H5 D (.dK (putK kvs k' z))) else Nx H3) := by
  refine ⟨fun k m H => m + k = n ∧ Pv k H, ⟨n, by omega, h0⟩, fun k m H ⟨hm, p⟩ => ?_⟩
  have gg := hG k H (by omega) p
  cases m with
  | zero =>
    obtain rfl : k = n := by omega
    exact .inl ⟨w.stops H gg, hd H p⟩
  | succ m => exact .inr ⟨w.goes k H (by omega) gg, Pv (k + 1), fun H' p' => ⟨m, by omega, by omega, p'⟩, fun x H' y => hs k x H H' (by omega) p (w.yields k H x H' (by omega) gg y)⟩
theorem dc_numE {fd : List Nat} (hij : i ≠ j) (nd : fd.Nodup) (e : H a = some (.lst (numV fd))) (hn : fd.length ≤ 1000000)
    (ht : ∀ σ' H1, ∀ R : Bool → Hp → Prop, R true H1 → tt σ' H1 R)
    (hk : ∀ k x, ∀ H1, ∀ R : VK, R x H1 → tk (((wipe σ [i, j]).set i (some (.int ((k : Nat) : Int)))).set j (some x)) H1 R)
    (hv : ∀ k x, ∀ H1, ∀ R : VK, R (.int ((k : Nat) : Int)) H1 → tv (((wipe σ [i, j]).set i (some (.int ((k : Nat) : Int)))).set j (some x)) H1 R)
    (q : ∀ D H', H D = none → Same H H' → H' D = some (.dK (nKV fd fun p => .int ((ixOf fd p : Nat) : Int))) → P D H') :
    ∀ D, H D = none → ∃ W : Nat → Nat → Hp → Prop, (∃ m, W 0 m (upd H D (.dK []))) ∧ ∀ k m H, W k m H →
      ((Ite K a).stop k H ∧ P D H) ∨ ((Ite K a).go k H ∧ ∃ Nx : Hp → Prop, (∀ H', Nx H' → ∃ m', m' < m ∧ W (k + 1) m' H') ∧ ∀ x H', (Ite K a).yld k H x H' → (gTup K 2 (gCons (gName i) (gCons (gName j) gNil))) x (wipe σ [i, j]) H' fun s2 H2 => wipe s2 [i, j] = wipe σ [i, j] ∧ tt s2 H2 fun c H3 =>
        if c = true then tk s2 H3 fun y H4 => tv s2 H4 fun z H5 => ∃ kvs k', y = kV k' ∧ H5 D = some (.dK kvs) ∧ kvs.length < sizeLine ∧ Nx (upd H5 D (.dK (putK kvs k' z))) else Nx H3) := by
  intro D hD
  have lnm : (numV fd).length = fd.length := List.length_map _
  have w := walk_enumL (K := K) (a := a) (xs := numV fd)
  rw [lnm] at w
  refine dc_turns w (vs := [i, j]) (σ := σ) (g := gTup K 2 (gCons (gName i) (gCons (gName j) gNil))) (tt := tt) (tk := tk) (tv := tv) (Qd := fun H' => P D H') (fun k H' => Same H H' ∧ H' D = some (.dK (nKV (fd.take k) fun p => .int ((ixOf (fd.take k) p : Nat) : Int))))
    ⟨Same.new hD, upd_same⟩ (fun k H' _ p => p.1 _ _ e) (fun k x H1 H2 hkl p y => ?_) (fun H' p => q D H' hD p.1 (by rw [p.2, List.take_length]))
  obtain ⟨p1, p2⟩ := p
  obtain ⟨T, x0, rfl, hT, rfl, hx⟩ := y
  have hx1 : fd[k]? = some fd[k] := List.getElem?_eq_getElem hkl
  have hx0 : x0 = .int ((fd[k] : Nat) : Int) := by
    unfold numV at hx
    rw [List.getElem?_map, hx1] at hx
    exact (Option.some.inj hx).symm
  subst hx0
  have nk : ¬ fd[k] ∈ fd.take k := by
    have z := take_notin nd hkl
    rwa [List.getD_eq_getElem?_getD, hx1] at z
  refine v_gTup2 rfl upd_same ?_
  have s2 : Same H1 (upd H1 T (.tup [.int ((k : Nat) : Int), .int ((fd[k] : Nat) : Int)])) := Same.new hT
  refine ⟨?_, ht _ _ _ ?_⟩
  · show (((((σ.set j none).set i none).set i _).set j _).set j none).set i none = (σ.set j none).set i none
    rw [List.set_set, List.set_set, List.set_comm _ _ hij, List.set_set, List.set_set]
  rw [if_pos rfl]
  refine hk k _ _ _ ?_
  refine hv k _ _ _ ?_
  have e2 := s2 _ _ p2
  refine ⟨_, Sum.inl ((fd[k] : Nat) : Int), rfl, e2, szlt (by unfold nKV; rw [List.length_map, List.length_take]; omega), fun b o hb => ?_, ?_⟩
  · rw [upd_ne (ne_of_none hb hD)]
    exact s2 _ _ (p1 _ _ hb)
  · rw [upd_same]
    refine congrArg (fun z => some (HO.dK z)) ?_
    unfold putK
    rw [if_neg (by rw [valV_any, nKV_none nk]; exact Bool.false_ne_true)]
    have et : fd.take (k + 1) = fd.take k ++ [fd[k]] := by rw [List.take_succ, hx1]; rfl
    have lt : (fd.take k).length = k := by rw [List.length_take]; omega
    rw [et]
    unfold nKV
    rw [List.map_append]
    have e3 : ((fd.take k).map fun (c : Nat) => ((Sum.inl ((c : Nat) : Int) : Key), V.int ((ixOf (fd.take k ++ [fd[k]]) c : Nat) : Int))) = (fd.take k).map fun (c : Nat) => ((Sum.inl ((c : Nat) : Int) : Key), V.int ((ixOf (fd.take k) c : Nat) : Int)) := List.map_congr_left fun c hc => by rw [ix_snoc hc]
    show _ = _ ++ [((Sum.inl ((fd[k] : Nat) : Int) : Key), V.int ((ixOf (fd.take k ++ [fd[k]]) fd[k] : Nat) : Int))]
    rw [e3, ix_last nk, lt]
end
end Cw
set_option Elab.async false
set_option linter.all false
set_option maxRecDepth 100000
set_option maxHeartbeats 4000000
/-! zip(text, tuple) -/
namespace Cw
open PySem PySem.Spec L2
/-- the letters of x and the items at a, in new pairs -/
def Itzs (K : PySem.W.Frag) (x : Str) (a : Addr) (xs : List V) : It :=
  ⟨fun i H => i < xs.length ∧ SqT K H a xs, fun i H v H' => ∃ T c y, v = .ref T ∧ H T = none ∧ H' = upd H T (.tup [.str ⟨#[c]⟩, y]) ∧ x.cps[i]? = some c ∧ xs[i]? = some y, fun i H => xs.length ≤ i ∧ SqT K H a xs⟩
theorem turn_zipS {P : Program} {w : World} {K : PySem.W.Frag} {elts : List Expr} {kk : Nat} {tpos : PySem.Pos} {x : Str} {tx' : Tok} {a z TI TO i1 i2 : Addr} {xs : List V} (hx : x.cps.size = xs.length) (ne : a ≠ i2) (S : ZipSep2 z TI TO i1 i2 [i1] [i2, a]) :
    Turn P w K (.Tuple elts kk tpos) (Itzs K x a xs) [z, TI, TO, i1, i2] z (fun i h => i ≤ xs.length ∧ IsZip h z TI TO .none ∧ IsTupOf2 h TI (.ref i1) (.ref i2) ∧ (∃ u v, IsTupOf2 h TO u v) ∧ h.IsStrIter i1 (strIterType x) x tx' i ∧ h.IsTupleIter i2 a i) where
  mem := List.mem_cons_self ..
  obj := fun i h st b hb => by
    obtain ⟨_, st1, st2, ⟨u, v, st3⟩, ⟨o4, q4, _, d4⟩, ⟨o5, q5, _, d5⟩⟩ := st
    simp only [List.mem_cons, List.not_mem_nil, or_false] at hb
    rcases hb with rfl | rfl | rfl | rfl | rfl
    · exact ⟨_, st1, fun v q => nomatch q⟩
    · exact ⟨_, st2, fun v q => nomatch q⟩
    · exact ⟨_, st3, fun v q => nomatch q⟩
    · exact ⟨o4, q4, fun v q => by rw [d4] at q; cases q⟩
    · exact ⟨o5, q5, fun v q => by rw [d5] at q; cases q⟩
  keep := fun i h h' st k => by
    obtain ⟨st0, st1, st2, ⟨u, v, st3⟩, ⟨o4, q4, r4⟩, ⟨o5, q5, r5⟩⟩ := st
    exact ⟨st0, k z (by simp) _ st1, k TI (by simp) _ st2, ⟨u, v, k TO (by simp) _ st3⟩, ⟨o4, k i1 (by simp) _ q4, r4⟩, ⟨o5, k i2 (by simp) _ q5, r5⟩⟩
  item := by
    intro X hP hw hK hc i pins s σ H E I hf st hg
    subst hP hw hK
    obtain ⟨hi, hq⟩ := hg
    obtain ⟨y, hy⟩ : ∃ y, xs[i]? = some y := ⟨_, List.getElem?_eq_getElem hi⟩
    obtain ⟨its, rv, p, hz⟩ := I.tuple hq
    obtain ⟨u, hu, ru⟩ := rv.get hy
    have pT : s.heap.IsTuple a its.toArray := p
    have li : i < its.toArray.size := by
      have := (List.getElem?_eq_some_iff.mp hu).1
      simpa using this
    have lt : its.toArray.size = xs.length := by
      have := rv.length
      rw [List.size_toArray]
      omega
    have W := WalksT.zipD2 (A := X.A) S (Draws.text (prog := X.prog) (w := X.w) (A := X.A.in1) (I.ok.hd hc) i1 x tx') (Draws.tuple (prog := X.prog) (w := X.w) (A := X.A.in1) (I.ok.hd hc) i2 a ne its.toArray)
    obtain ⟨_, st1, st2, st3, st4, st5⟩ := st
    have lz : z < s.heap.objs.size := Heap.lt_size st1
    have lTI : TI < s.heap.objs.size := Heap.lt_size st2
    have lTO : TO < s.heap.objs.size := by obtain ⟨_, _, q⟩ := st3; exact Heap.lt_size q
    have l1 : i1 < s.heap.objs.size := by obtain ⟨_, q, _⟩ := st4; exact Heap.lt_size q
    have l2 : i2 < s.heap.objs.size := by obtain ⟨_, q, _⟩ := st5; exact Heap.lt_size q
    refine W.item i s _ E (by rw [hx, lt]; omega) ⟨st1, st2, st3, st4, st5, pT⟩ fun T vals h' tk hv hT isT mid kp => ⟨_, rfl, W.go elts kk tpos i T { s with heap := h', toks := tk } _ E mid fun h2 sn kp2 => ?_⟩
    obtain ⟨y1, y2, ⟨c, uc, hc1, rfl⟩, hy2, rfl⟩ := hv
    obtain rfl : y2 = u := by
      have zz : its.toArray[i]? = some u := by simpa using hu
      rw [zz] at hy2
      exact (Option.some.inj hy2).symm
    have hTw := W.apart i T h' mid
    obtain ⟨o, ho, r⟩ := isT
    have isT2 : h2.IsTuple T #[.str ⟨#[c]⟩ uc, y2] := ⟨o, kp2 T o hTw ho, r⟩
    have fresh : ∀ b, b ∈ [z, TI, TO, i1, i2] → b < T := fun b hb => by
      simp only [List.mem_cons, List.not_mem_nil, or_false] at hb
      rcases hb with rfl | rfl | rfl | rfl | rfl <;> exact Nat.lt_of_lt_of_le (by assumption) hT
    have new : ObjOk X.prog X.w (upd H T (.tup [.str ⟨#[c]⟩, y])) h2 T (.tup [.str ⟨#[c]⟩, y]) := ⟨by show 2 ≤ sizeLine; decide, [.str ⟨#[c]⟩ uc, y2], .cons ⟨_, rfl⟩ (.cons ru .nil), isT2⟩
    have notW : ∀ b, b ∉ [z, TI, TO, i1, i2] → b ∉ [z, TO, i1, i2] := fun b hb q => hb (by
      simp only [List.mem_cons, List.not_mem_nil, or_false] at q ⊢
      rcases q with q | q | q | q
      · exact .inl q
      · exact .inr (.inr (.inl q))
      · exact .inr (.inr (.inr (.inl q)))
      · exact .inr (.inr (.inr (.inr q))))
    refine ⟨.ref T, _, I.turnedNew (ch := [z, TI, TO, i1, i2]) (t' := tk) (fun b ob hb q => kp2 b ob (notW b hb) (kp b ob (notW b hb) q)) hf hT new, rfl, ⟨T, c, y, rfl, I.hok.fresh hT, rfl, hc1, hy⟩, ⟨hi, sn.1, sn.2.1, sn.2.2.1, sn.2.2.2.1, sn.2.2.2.2.1⟩, fun b hb => ?_⟩
    rw [upd_ne (Nat.ne_of_lt (fresh b hb))]
    exact (hf b hb).1
  done := by
    intro X hP hw hK hc i pins s σ H E I hf st hg
    subst hP hw hK
    obtain ⟨hi, hq⟩ := hg
    obtain ⟨h0, st1, st2, st3, st4, st5⟩ := st
    obtain ⟨its, rv, p, hz⟩ := I.tuple hq
    have pT : s.heap.IsTuple a its.toArray := p
    have hl := rv.length
    have lt : its.toArray.size = xs.length := by
      rw [List.size_toArray]
      omega
    have W := WalksT.zipD2 (A := X.A) S (Draws.text (prog := X.prog) (w := X.w) (A := X.A.in1) (I.ok.hd hc) i1 x tx') (Draws.tuple (prog := X.prog) (w := X.w) (A := X.A.in1) (I.ok.hd hc) i2 a ne its.toArray)
    have em : min x.cps.size its.toArray.size = i := by
      rw [hx, lt, Nat.min_self]
      omega
    rw [em] at W
    exact W.done s _ E ⟨st1, st2, st3, st4, st5, pT⟩ fun h' tk kp => ⟨rfl, I.turnedL (ch := [z, TI, TO, i1, i2]) (fun b o hb q => kp b o (fun q' => hb (by
      simp only [List.mem_cons, List.not_mem_nil, or_false] at q' ⊢
      rcases q' with q | q | q | q
      · exact .inl q
      · exact .inr (.inr (.inl q))
      · exact .inr (.inr (.inr (.inl q)))
      · exact .inr (.inr (.inr (.inr q))))) q) hf⟩
  self := fun A i s Q E st h => wpAny_pyIter_zip st.2.1 h
def iZipS (K : PySem.W.Frag) (ta : TA) : TI := fun σ H R => ta σ H fun vs H1 => ∃ x a xs, vs = [.str x, .ref a] ∧ SqT K H1 a xs ∧ x.cps.size = xs.length ∧ R (Itzs K x a xs) H1
theorem pi_zipS {X : Cx} {e e2 : Expr} {ta : TA} {p pos tpos : PySem.Pos} {elts : List Expr} {kk : Nat} (hg : Gl X "zip") (hm : X.mg "zip" = none) (ha : PA X [e, e2] ta)
    (hs : starEach [e, e2] X.env = (false, eval e X.env) :: starEach [e2] X.env := by rfl) (hpl : (backTo pos (starEach [e2] X.env)).any (·.1) = false := by rfl) :
    PI X (.Tuple elts kk tpos) (.Call (.Name "zip" p) [e, e2] [] pos) (iZipS X.K ta) := by
  refine ⟨fun pins s σ H R I h => ?_⟩
  refine PyProof.Rows.Call_ (ld_blt I hg hm PyProof.Rows.boot_zip (PyProof.Rows.callWith_type1 (thn (ha.run pos pins s σ H _ I h) fun us s1 ⟨vs, H1, I1, r1, x, a, xs, ex, hq, hx, q⟩ => ?_) hs hpl))
  subst ex
  obtain ⟨u1, u2, rfl, ru1, ru2⟩ := vals2 r1
  obtain ⟨t, rfl⟩ := ru1
  cases ru2
  obtain ⟨its, rv, p', hz⟩ := I1.tuple hq
  have al : a < s1.heap.objs.size := by
    obtain ⟨o, ho, _⟩ := p'
    exact Heap.lt_size ho
  refine zip_begins2 (begins_text x t) (begins_tuple a its.toArray) trivial p' fun h' hz' hTI hTO g1 g2 hsz hk => wpAny_pyIter_zip hz' ?_
  have I2 : L2.Inv X pins σ H1 { s1 with heap := h' } := I1.kept (t' := s1.toks) hk
  refine ⟨s1.heap.objs.size + 4, [s1.heap.objs.size + 4, s1.heap.objs.size + 2, s1.heap.objs.size + 3, s1.heap.objs.size, s1.heap.objs.size + 1], _, _, H1, rfl, I2, turn_zipS (tx' := t) hx (Nat.ne_of_lt (Nat.lt_succ_of_lt al)) (zip_sep2 (N := s1.heap.objs.size) (fp1 := []) (fp2 := [a]) (fun _ z => nomatch z) fun b hb => by rw [List.mem_singleton.mp hb]; exact al), ⟨Nat.zero_le _, hz', hTI, ⟨_, _, hTO⟩, ⟨_, g1, rfl, rfl⟩, ⟨_, g2, rfl, rfl⟩⟩, fun b hb => ?_, q⟩
  have hle : s1.heap.objs.size ≤ b := by
    simp only [List.mem_cons, List.not_mem_nil, or_false] at hb
    rcases hb with rfl | rfl | rfl | rfl | rfl
    · exact Nat.le_add_right _ _
    · exact Nat.le_add_right _ _
    · exact Nat.le_add_right _ _
    · exact Nat.le_refl _
    · exact Nat.le_add_right _ _
  exact I1.fpOk hle (I1.hok.fresh hle)
end Cw
set_option Elab.async false
set_option linter.all false
set_option maxRecDepth 100000
set_option maxHeartbeats 4000000
/-! more words: >, upper, list + list, parts of texts, values that are no texts -/
namespace Cw
open PySem PySem.Spec L2
section
variable {X : Cx}
theorem op_cat1 : OpR X (binaryOp .Add) rCat := op_cat
end
section
variable {σ : St} {H : Hp} {Q : VK} {K : PySem.W.Frag}
end
end Cw
set_option Elab.async false
set_option linter.all false
set_option maxRecDepth 100000
set_option maxHeartbeats 4000000
/-! classes without defaults; == with an object of another class -/
namespace Cw
open PySem PySem.Spec L2
section
variable {P : Program} {w : World} {K : PySem.W.Frag} {mg : Str → Option Value} {base : Heap} {CX : CXT} {k : Nat} {C : Addr} {x qual : Str} {ps N : List Str} {sp sp0 : Sp} {st : Stmt}
/-- C(..) by its __init__, which has no defaults -/
structure CMk0 (P : Program) (w : World) (K : PySem.W.Frag) (mg : Str → Option Value) (base : Heap) (CX : CXT) (k : Nat) (x : Str) (C : Addr) (sp : Sp) (ps : List Str) (qual : Str) (st : Stmt) : Prop where
  ex : ∃ f fd sp0, mg x = some (.ref C) ∧ Mk K C f ∧ Binds K fd ps [] ∧ FnOk P w K mg base CX k f fd ps sp0 ∧ Conv C sp0 sp ∧ Fun K "__init__" qual st f fd
theorem CMk0.cdef (D : CMk0 P w K mg base CX k x C sp ps qual st) : CDef P w K mg base CX k x C sp := by
  obtain ⟨f, fd, sp0, a, b, c, d, e, _⟩ := D.ex
  exact ⟨f, fd, ps, sp0, a, b, c, d, e⟩
theorem MAt.make0 (F : MAt K C "__init__" qual st) (cf : ClsF K mg x C) (S : FnScope N ps (defScope st))
    (hb : ∀ (kV doc pm : Value) (an : Option Addr) (cdv ct : Value) (us : List Value), us.length = ps.length → bindArgs (PySem.W.fnOf "__init__" qual (defArgs st) (defBody st) (defScope st) .none kV doc pm an cdv ct) ⟨us, []⟩ = pure (ps.zip us))
    (len : ∀ vs H Q E, sp0 vs H Q E → vs.length = ps.length) (cv : Conv C sp0 sp)
    (hbody : ∀ (f : Addr) (cdv : Value) (A : Around) (outer : List Env) (s : Shared) (H : Hp) (vs : List V) (Q : VK) (E : XK), Room k (A.deeper (PyProof.Rows.envOfC qual (defScope st) s.heap.objs.size f cdv)) → sp0 vs H Q E →
      ∃ t, PSs (cxOf CX0 P w K mg base N qual (defScope st) f cdv A outer s H E).nox (defBody st) t ∧ t { nx := fun _ H' => Q .non H', rt := Q } (start N vs) H) : CMk0 P w K mg base CX0 (k + 1) x C sp ps qual st := by
  obtain ⟨f, fd, h1, h2, F⟩ := F.ex
  exact ⟨f, fd, sp0, cf.at, ⟨cf.mks, h1, h2, cf.kp⟩, F.binds hb, F.ok S len fun cdv A outer s H vs Q E hr h => hbody f cdv A outer s H vs Q E hr h, cv, F⟩
theorem CMk0.kw (D : CMk0 P w K mg base CX k x C sp ps qual st) (n : Nat) (ks : List Str) (ss : List Src)
    (h : ∀ (kV doc pm : Value) (an : Option Addr) (cdv ct : Value) (us ws : List Value), us.length = n + 1 → ws.length = ks.length → bindArgs (PySem.W.fnOf "__init__" qual (defArgs st) (defBody st) (defScope st) .none kV doc pm an cdv ct) ⟨us, ks.zip ws⟩ = pure (ps.zip (gS (.pos 0 :: ss.map Src.up) us [] ws))) : CDefN P w K mg base CX k x C sp n ks ss [] := by
  obtain ⟨f, fd, sp0, a, b, c, d, e, G⟩ := D.ex
  refine ⟨f, fd, ps, sp0, a, b, ?_, d, e⟩
  obtain ⟨oc, od, kV, doc, pm, an, cdv, ct, osl, rfl, _⟩ := G.ex
  exact kb_of (h kV doc pm an cdv ct)
end
section
variable {X : Cx} {CX : CXT} {k : Nat} {C C' : Addr} {m : Str} {ps : List Str} {sp : Sp} {E : XK}
end
end Cw
set_option Elab.async false
set_option linter.all false
set_option maxRecDepth 100000
set_option maxHeartbeats 4000000
/-! [e for i, x in enumerate(text)] -/
namespace Cw
open PySem PySem.Spec L2
section
variable {σ : L2.St} {H : Hp} {i j : Nat} {tt : TT} {te : TE} {P : Addr → Hp → Prop}
end
end Cw
set_option Elab.async false
set_option linter.all false
set_option maxRecDepth 100000
set_option maxHeartbeats 4000000
/-! sorted of texts, any number of them -/
namespace Cw
open PySem PySem.Spec L2 PyProof.Rows SrtO
/-- the codes of a text -/
def sv : Value → List Nat
  | .str x _ => x.cps.toList
  | _ => []
def ltSv (v u : Value) : Bool := decide (sv v < sv u)
theorem swo_str : Swo ltSv := by
  refine ⟨fun x y h => ?_, fun x y z h1 h2 => ?_⟩
  · have a := of_decide_eq_true (p := sv x < sv y) h
    exact decide_eq_false (p := sv y < sv x) (List.lt_asymm a)
  · have a := of_decide_eq_false (p := sv y < sv x) h1
    have b := of_decide_eq_false (p := sv z < sv y) h2
    exact decide_eq_false (p := sv z < sv x) fun c => by
      by_cases d : sv z < sv y
      · exact b d
      · exact a (List.lt_of_le_of_lt (List.not_lt.mp d) c)
section
variable {prog : Program} {w : World} {A : Around} {s : Shared}
theorem str_sortable {a : Addr} {vs : List Value} {ss : List Str} (hS : StrsAre vs ss) (h2 : 2 ≤ vs.length) : SortableO prog w A s a vs ltSv := by
  intro h' _
  refine ⟨oneType', fun Q E hq => ?_, fun p q hm hm' => ?_⟩
  · match vs, hS, h2 with
    | v1 :: v2 :: rest, hS, _ =>
      rw [keyKind_strs hS]
      exact wpAny_pure hq
    | [], _, h => exact absurd h (by decide)
    | [v], _, h => exact absurd h (by simp)
  · obtain ⟨x, t, e⟩ := hS.all _ hm
    obtain ⟨y, u, e'⟩ := hS.all _ hm'
    show wpAny (model prog w) A (keyLt' oneType' p.1 q.1) (fun r s' => s' = { s with heap := h' } ∧ r = ltSv p.1 q.1) (fun _ _ => False) { s with heap := h' }
    rw [e, e', keyLt'_oneType]
    exact oneLt_str ⟨rfl, rfl⟩
end
theorem sv_str {vs : List Value} {ls : List (List Nat)} (h : StrsAre vs (ls.map tx)) : vs.map sv = ls := by
  have key : ∀ {vs : List Value} {ss : List Str}, StrsAre vs ss → vs.map sv = ss.map fun x => x.cps.toList := by
    intro vs ss h
    induction h with
    | nil => rfl
    | cons x t r ih => rw [List.map_cons, List.map_cons, ih]; rfl
  rw [key h, List.map_map]
  have : ((fun x : Str => x.cps.toList) ∘ tx) = id := funext fun l => rfl
  rw [this, List.map_id]
theorem str_sv {vs : List Value} (h : ∀ v ∈ vs, ∃ x t, v = Value.str x t) : StrsAre vs ((vs.map sv).map tx) := by
  have e : (vs.map sv).map tx = vs.map strOf := by
    rw [List.map_map]
    refine List.map_congr_left fun v hv => ?_
    obtain ⟨x, t, rfl⟩ := h v hv
    show tx x.cps.toList = x
    exact tx_eq.symm
  rw [e]
  exact strsAre_map vs h
/-- sorted(xs), texts, any number of them -/
def rSortedS (K : PySem.W.Frag) : List V → Hp → VK → Prop := fun vs H Q => ∃ (a : Addr) (ls : List (List Nat)), vs = [V.ref a] ∧ SqL K H a (ls.map fun l => V.str (tx l)) ∧
  ∀ (ls' : List (List Nat)) (p : Addr), ls'.Perm ls → ls'.Pairwise (fun a b => ¬ b < a) → H p = none → Q (.ref p) (upd H p (.lst (ls'.map fun l => V.str (tx l))))
theorem map_tx (ls : List (List Nat)) : (ls.map fun l => V.str (tx l)) = (ls.map tx).map V.str := by rw [List.map_map]; rfl
section
variable {X : Cx}
theorem cr_sortedT : CallR X (.builtin "sorted") (rSortedS X.K) := by
  intro pins s σ H vs us Q I r h
  obtain ⟨a, ls, rfl, hs, q⟩ := h
  rw [map_tx] at hs
  obtain ⟨its, rv, hl, hz⟩ := I.list hs
  rw [Vals.ref1 r]
  have hi := rv.strs
  refine sorted_ord swo_str hl.isList (by rw [← rv.length]; exact hz) (fun h2 h₁ a' _ _ => str_sortable hi h2) fun out h1 h2 => ?_
  have all := fun v hv => hi.all v (h2.perm.mem_iff.mp hv)
  have k1 : StrsAre out ((out.map sv).map tx) := str_sv all
  have k2 : (out.map sv).Perm ls := by
    have := h2.perm.map sv
    rw [sv_str hi] at this
    exact this
  have k3 : (out.map sv).Pairwise (fun a b => ¬ b < a) := List.pairwise_map.mpr (h1.imp fun {x y} h => of_decide_eq_false (p := sv y < sv x) h)
  obtain ⟨ep, he'⟩ := sortedAll_at s.heap its out.toArray
  have hlen : (((out.map sv).map tx).map V.str).length ≤ sizeLine := by
    rw [List.length_map, List.length_map, k2.length_eq]
    rw [List.length_map, List.length_map] at hz
    exact hz
  have q := q _ (s.heap.objs.size + 1) k2 k3 (I.hok.fresh (Nat.le_succ _))
  rw [map_tx] at q
  exact ⟨.ref _, upd H (s.heap.objs.size + 1) (.lst (((out.map sv).map tx).map V.str)), I.laid (t' := s.toks) (fun _ _ => sortedAll_old) (Nat.le_succ _) ⟨hlen, out, ep, vals_of_strs k1, he'⟩, rfl, q⟩
end
end Cw
set_option Elab.async false
set_option linter.all false
set_option maxRecDepth 100000
set_option maxHeartbeats 4000000
/-! sets of texts that can be walked: set(a list of texts), sorted(set(..)) -/
namespace Cw
open PySem PySem.Spec L2 PyProof.Rows SrtO
def strK (e : Int × Value) : Str := match e.2 with | .str x _ => x | _ => Str.empty
def GoodS (P : Program) (w : World) (e : Int × Value) : Prop := ∃ x t, e.2 = Value.str x t ∧ e.1 = (PySem.strKind P w).hash x
/-- the set at a holds just the texts of l, each once -/
def SetS (P : Program) (w : World) (h : Heap) (a : Addr) (l : List Str) : Prop :=
  ∃ o es ep t, h.get? a = some o ∧ o.ExactSet ∧ o.data = .set es ep t ∧ (∀ e ∈ es.toList, GoodS P w e) ∧ (es.toList.map strK).Perm l ∧ l.Nodup ∧
    es.size < scanBound ∧ t.fits es.size = true ∧ Ris t.place.toList ∧ (w.params.followText "set-order" = true ∨ t.led = true)
section
variable {P : Program} {w : World} {h h' : Heap} {a : Addr} {l : List Str}
theorem SetS.at (R : SetS P w h a l) (k : ∀ o, h.get? a = some o → h'.get? a = some o) : SetS P w h' a l := by
  obtain ⟨o, es, ep, t, ho, r⟩ := R
  exact ⟨o, es, ep, t, k o ho, r⟩
end
section
variable {P : Program} {w : World} {A : Around} {E : Value → Shared → Prop} {s : Shared} {a : Addr} {l : List Str}
end
section
variable {P : Program} {w : World} {A : Around} {R : Result → Shared → Prop} {J : Addr} {fp wr : List Addr} {n : Nat} {Y : Nat → Value → Prop} {St : Nat → Heap → Prop}
end
section
variable {P : Program} {w : World} {A : Around} {E : Value → Shared → Prop} {s : Shared}
end
/-! ### sorted(set), and the layer -/
theorem nodup_le {α : Type} [DecidableEq α] : ∀ {a b : List α}, a.Nodup → (∀ x ∈ a, x ∈ b) → a.length ≤ b.length
  | [], _, _, _ => Nat.zero_le _
  | x :: a, b, nd, h => by
    obtain ⟨n1, n2⟩ := List.nodup_cons.mp nd
    have hx := h x (List.mem_cons_self ..)
    have := nodup_le (b := b.erase x) n2 fun y hy => (List.mem_erase_of_ne fun e : y = x => n1 (e ▸ hy)).mpr (h y (List.mem_cons_of_mem _ hy))
    rw [List.length_erase_of_mem hx] at this
    have := List.length_pos_of_mem hx
    rw [List.length_cons]
    omega
section
variable {X : Cx}
end
end Cw
set_option Elab.async false
set_option linter.all false
set_option maxRecDepth 100000
set_option maxHeartbeats 4000000
/-! ascending pairs: of any pairs, sorted, told in any way -/
namespace Cw
open PySem PySem.Spec L2
theorem pair_ltL {a b c d : Nat} : ([a, b] : List Nat) < [c, d] ↔ a < c ∨ (a = c ∧ b < d) := by
  rw [List.cons_lt_cons_iff, List.cons_lt_cons_iff]
  simp
theorem asc_pw (l : List Nat) : (ascOf l).Pairwise (· < ·) := List.Pairwise.filter _ LET_asc
theorem prs_of {ls : List Nat} {f : List (List Nat)} (h : PairsIn ls f) : Prs ls (pairsOf (f.map ascOf)) := by
  refine ⟨pairsOf_sorted _, fun p hp => ?_⟩
  obtain ⟨a, b, rfl, ha, hb, m⟩ := pairsOf_mem.mp hp
  obtain ⟨r, hr, e⟩ := List.mem_map.mp m
  obtain ⟨x, y, rfl, n, hx, hy⟩ := h r hr
  have s : ([a, b] : List Nat).Pairwise (· < ·) := e ▸ asc_pw [x, y]
  have ma : a ∈ ascOf [x, y] := by rw [e]; simp
  have mb : b ∈ ascOf [x, y] := by rw [e]; simp
  have i : ∀ c ∈ ascOf [x, y], c ∈ ls := fun c hc => by
    have z := (ascOf_mem.mp hc).2
    simp only [List.mem_cons, List.not_mem_nil, or_false] at z
    rcases z with rfl | rfl
    · exact hx
    · exact hy
  exact ⟨a, b, rfl, by simpa using s, i a ma, i b mb⟩
theorem Prs.nd {ls : List Nat} {ps : List (List Nat)} (h : Prs ls ps) : ps.Nodup := h.srt.imp fun {a b} z => pairLt_irr z
theorem pairs_len (la lb : List Nat) : (la.flatMap fun a => lb.map fun b => [a, b]).length = la.length * lb.length := by
  induction la with
  | nil => simp
  | cons a r ih => rw [List.flatMap_cons, List.length_append, List.length_map, ih, List.length_cons, Nat.succ_mul, Nat.add_comm]
theorem Prs.len {ls : List Nat} {ps : List (List Nat)} (h : Prs ls ps) (l8 : ls.length ≤ 8) : ps.length ≤ 64 := by
  refine Nat.le_trans (nodup_le (b := ls.flatMap fun a => ls.map fun b => [a, b]) h.nd fun p hp => ?_) ?_
  · obtain ⟨a, b, rfl, _, ha, hb⟩ := h.mem p hp
    exact List.mem_flatMap.mpr ⟨a, ha, List.mem_map.mpr ⟨b, hb, rfl⟩⟩
  · rw [pairs_len]
    exact Nat.mul_le_mul l8 l8
/-- the letters and the pairs of a drawn plan -/
structure LPlan (ls : List Nat) (ps : List (List Nat)) : Prop where
  prs : Prs ls ps
  asc : ls.Pairwise (· < ·)
  lt : ∀ c ∈ ls, c ∈ LET
  nz : ∀ c ∈ ls, c ≠ 122
  l8 : ls.length ≤ 8
theorem LPlan.lp {ls : List Nat} {ps : List (List Nat)} (h : LPlan ls ps) : ps.length ≤ 64 := h.prs.len h.l8
theorem LPlan.nd {ls : List Nat} {ps : List (List Nat)} (h : LPlan ls ps) : ls.Nodup := h.asc.imp fun {a b} z e => by omega
theorem LPlan.of {ls : List Nat} {ps f : List (List Nat)} (h : LPlan ls ps) (hf : PairsIn ls f) : LPlan ls (pairsOf (f.map ascOf)) := ⟨prs_of hf, h.asc, h.lt, h.nz, h.l8⟩
theorem LPlan.tail {ls : List Nat} {ps : List (List Nat)} (h : LPlan ls ps) (n : Nat) : LPlan ls (ps.drop n) := ⟨⟨h.prs.srt.sublist (List.drop_sublist _ _), fun p hp => h.prs.mem p (List.mem_of_mem_drop hp)⟩, h.asc, h.lt, h.nz, h.l8⟩
theorem Prs.pin {ls : List Nat} {ps : List (List Nat)} (h : Prs ls ps) : PairsIn ls ps := fun p hp => by
  obtain ⟨a, b, e, l, ha, hb⟩ := h.mem p hp
  exact ⟨a, b, e, by omega, ha, hb⟩
/-- pairs sorted, each once -/
theorem sorted_pairs {ls : List Nat} {ws f : List (List Nat)} (nd : ws.Nodup) (pw : ws.Pairwise fun a b => ¬ b < a) (hm : ∀ p, p ∈ ws ↔ p ∈ f) (hf : ∀ p ∈ f, ∃ a b, p = [a, b] ∧ a < b ∧ a ∈ ls ∧ b ∈ ls) (lt : ∀ c ∈ ls, c ∈ LET) : ws = pairsOf (f.map ascOf) := by
  have hp : Prs ls ws := by
    refine ⟨?_, fun p hp => hf p ((hm p).mp hp)⟩
    refine List.Pairwise.imp_of_mem (fun {a b} ha hb h => ?_) (List.Pairwise.and nd pw)
    obtain ⟨n, l⟩ := h
    obtain ⟨x, y, rfl, _, _, _⟩ := hf a ((hm a).mp ha)
    obtain ⟨u, v, rfl, _, _, _⟩ := hf b ((hm b).mp hb)
    rw [pair_ltL] at l
    refine pairLt_mk.mpr ?_
    have : ¬ (x = u ∧ y = v) := fun e => n (by rw [e.1, e.2])
    omega
  refine (prs_eq hp lt fun a b ha hb => ?_).symm
  rw [hm]
  have key : ∀ r ∈ f, ascOf r = r := fun r hr => by
    obtain ⟨x, y, rfl, l, hx, hy⟩ := hf r hr
    exact (asc_two (lt x hx) (lt y hy) l).1
  rw [List.mem_map]
  constructor
  · rintro ⟨r, hr, e⟩
    rw [key r hr] at e
    exact e ▸ hr
  · intro h
    exact ⟨_, h, key _ h⟩
theorem perm_ones {ws : List (List Nat)} {ls : List Nat} (h : ws.Perm (ls.map fun c => [c])) : ∃ l' : List Nat, ws = l'.map (fun c => [c]) ∧ l'.Perm ls := by
  refine ⟨ws.map fun w => w.getD 0 0, ?_, ?_⟩
  · rw [List.map_map]
    have : ∀ w ∈ ws, w = ((fun c => [c]) ∘ fun w : List Nat => w.getD 0 0) w := fun w hw => by
      obtain ⟨c, _, rfl⟩ := List.mem_map.mp (h.subset hw)
      rfl
    conv => lhs; rw [← List.map_id ws]
    exact List.map_congr_left fun w hw => this w hw
  · have := h.map fun w : List Nat => w.getD 0 0
    rw [List.map_map] at this
    have e : ((fun w : List Nat => w.getD 0 0) ∘ fun c => [c]) = id := rfl
    rw [e, List.map_id] at this
    exact this
theorem PairsIn.sub {l m : List Nat} {ps : List (List Nat)} (h : PairsIn l ps) (s : ∀ c ∈ l, c ∈ m) : PairsIn m ps := fun q hq => by
  obtain ⟨a, b, e, n, ha, hb⟩ := h q hq
  exact ⟨a, b, e, n, s a ha, s b hb⟩
/-- the plan of some of the kinds -/
theorem LPlan.part {ls low : List Nat} {ps : List (List Nat)} (h : LPlan ls ps) (s : low.Sublist ls) : LPlan low (ps.filter fun p => decide (p.getD 0 0 ∈ low) && decide (p.getD 1 0 ∈ low)) where
  prs := by
    refine ⟨h.prs.srt.sublist List.filter_sublist, fun p hp => ?_⟩
    obtain ⟨hp, c⟩ := List.mem_filter.mp hp
    obtain ⟨a, b, rfl, l, _, _⟩ := h.prs.mem p hp
    rw [Bool.and_eq_true, decide_eq_true_iff, decide_eq_true_iff] at c
    exact ⟨a, b, rfl, l, c.1, c.2⟩
  asc := h.asc.sublist s
  lt c hc := h.lt c (s.subset hc)
  nz c hc := h.nz c (s.subset hc)
  l8 := Nat.le_trans s.length_le h.l8
theorem LPlan.kinds {ls : List Nat} {ps : List (List Nat)} (h : LPlan ls ps) : ascOf ls = ls := by
  have h1 : (ascOf ls).Perm ls := by
    refine (List.perm_ext_iff_of_nodup (ascOf_nodup ls) h.nd).mpr fun c => ?_
    rw [ascOf_mem]
    exact ⟨fun z => z.2, fun z => ⟨h.lt c z, z⟩⟩
  exact h1.eq_of_pairwise (fun a b _ _ h1 h2 => by omega) (asc_pw ls) h.asc
/-- pairs of a plan sorted, each once: the pairs of the plan that is told by them -/
theorem LPlan.sorted {ls : List Nat} {ps ws f : List (List Nat)} (h : LPlan ls ps) (nd : ws.Nodup) (pw : ws.Pairwise fun a b => ¬ b < a) (hm : ∀ p, p ∈ ws ↔ p ∈ f) (hf : ∀ p ∈ f, ∃ a b, p = [a, b] ∧ a < b ∧ a ∈ ls ∧ b ∈ ls) : ws = pairsOf (f.map ascOf) := sorted_pairs nd pw hm hf h.lt
end Cw
set_option Elab.async false
set_option linter.all false
set_option maxRecDepth 100000
set_option maxHeartbeats 4000000
/-! ~o by o's own method; o == any value; str(bool); three names at once -/
namespace Cw
open PySem PySem.Spec PyProof.Rows L2
section
variable {X : Cx} {CX : CXT} {k : Nat} {C : Addr} {ps : List Str} {sp : Sp} {E : XK}
end
theorem v_gTup3 {K : PySem.W.Frag} {n i j l : Nat} {σ : L2.St} {H : Hp} {Q : L2.St → Hp → Prop} {p : Addr} {a b c : V} (hn : n = 3) (h : H p = some (.tup [a, b, c])) (q : Q (((σ.set i (some a)).set j (some b)).set l (some c)) H) : gTup K n (gCons (gName i) (gCons (gName j) (gCons (gName l) gNil))) (.ref p) σ H Q :=
  ⟨p, _, rfl, SqT.of h, hn.symm, a, [b, c], rfl, b, [c], rfl, c, [], rfl, rfl, q⟩
end Cw
set_option Elab.async false
set_option linter.all false
set_option maxRecDepth 100000
set_option maxHeartbeats 4000000
/-! a tuple turned about by a slice -/
namespace CwR
open PySem PySem.Spec PySem.Calls PyProof.Rows
section
variable {prog : Program} {w : World} {A : Around} {E : Value → Shared → Prop} {s : Shared}
end
end CwR
namespace Cw
open PySem PySem.Spec PyProof.Rows L2
section
variable {X : Cx} {K : PySem.W.Frag}
end
end Cw
set_option Elab.async false
set_option linter.all false
set_option maxRecDepth 100000
set_option maxHeartbeats 4000000
/-! sorted(xs, key=len) of texts, any number of them: stable -/
namespace Cw
open PySem PySem.Spec PyProof.Rows Srt SrtO
section
variable {prog : Program} {w : World} {A : Around} {E : Value → Shared → Prop} {s : Shared} {a kS : Addr} {vs : List Value} {keys : Array Value} {e e1 : Nat} {R : PySem.Fin → Shared → Prop}
end
end Cw
set_option Elab.async false
set_option linter.all false
set_option maxRecDepth 100000
set_option maxHeartbeats 4000000
/-! the expression sorted(xs, key=len) -/
namespace Cw
open PySem PySem.Spec L2
def rStrS : List V → Hp → VK → Prop := fun xs H Q => ∃ a, xs = [.str a] ∧ Q (.str a) H
theorem c_strS {X : Cx} : CallR X (.type "str") rStrS := SkE.call_str_str
theorem v_strS {H : Hp} {Q : VK} {a : Str} (q : Q (.str a) H) : rStrS [.str a] H Q := ⟨a, rfl, q⟩
theorem cr_sortedTK {X : Cx} {K : PySem.W.Frag} (h : X.K = K) : CallR X (.builtin "sorted") (rSortedS K) := h ▸ cr_sortedT
/-- texts by length, then by the alphabet -/
def shortLe (a b : List Nat) : Prop := a.length < b.length ∨ (a.length = b.length ∧ ¬ b < a)
end Cw
set_option Elab.async false
set_option linter.all false
set_option maxRecDepth 100000
set_option maxHeartbeats 4000000
/-! some of a list of texts -/
namespace Cw
open PySem PySem.Spec L2
end Cw
set_option Elab.async false
set_option linter.all false
set_option maxRecDepth 100000
set_option maxHeartbeats 4000000
/-! d.update(e) of dicts, xs.index(n) of numbers, d.get(n, e) of numbers -/
namespace Cw
open PySem PySem.Spec L2 PyProof.Rows
def rDUpd71 : V → List V → Hp → VK → Prop := fun x vs H Q => ∃ (a b : Addr) (kvs more : List (Key × V)), x = .ref a ∧ vs = [.ref b] ∧ a ≠ b ∧ H a = some (.dK kvs) ∧ H b = some (.dK more) ∧ kvs.length + more.length ≤ 1000000 ∧ Q .non (upd H a (.dK (mergeK kvs more)))
theorem mtd_upd71 {X : Cx} : MtR X "dict.update" rDUpd71 := by
  intro pins s σ H x vs v us Q I rx rv h
  obtain ⟨a, b, kvs, more, rfl, rfl, ne, ha, hb, hl, q⟩ := h
  obtain rfl : v = Value.ref a := rx
  obtain ⟨u, rfl, ru⟩ := vals1 rv
  obtain rfl : u = Value.ref b := ru
  obtain ⟨z, hd, xs, rel, dd⟩ := dk_of I.hok ha
  obtain ⟨z2, hd2, ys, rel2, dd2⟩ := dk_of I.hok hb
  have l1 : xs.length + ys.length ≤ 1000000 := by rw [← rel.length, ← rel2.length]; exact hl
  have sz : (1000000 : Nat) ≤ sizeLine := by decide
  refine call_meetsIn PySem.F.slot_dict_update dd.typeIs PySem.F.entry_dict_update (PySem.F.args_dict_update_2 _ _) (meets_dict_update (mixKind X.prog X.w) a b ne hd2) ⟨xs, ys, dd, dd2, Nat.le_trans l1 sz, fun h' dd' _ hs => ?_⟩
  have he : ∃ q, h'.get? a = some q := let ⟨q, _, _, hq, _⟩ := dd'; ⟨q, hq⟩
  have lm : (mergeK kvs more).length ≤ sizeLine := Nat.le_trans (length_mergeK more kvs) (Nat.le_trans hl sz)
  exact ⟨.non, _, d_write (t' := s.toks) I (by rw [ha]; exact True.intro) hs he (dk_new lm hd (KV.merge rel2 rel) dd'), rfl, q⟩
section
variable {X : Cx} {o e f : Expr} {to te : TE} {apos cpos : PySem.Pos}
theorem pe_upd71 (ho : PE X o to) (he : PE X e te) (hbase : attributeBase o "update" X.env (eval o X.env) = eval o X.env := by rfl)
    (hfew : ((backTo cpos (starEach [e] X.env)).all (fun x => !x.1) && (backToKw cpos (keywordEach [] X.env)).all (fun x => x.1.isSome) && decide ([e].length + ([] : List Keyword).length + (if ([] : List Keyword).isEmpty then 0 else 1) < 30)) = true := by rfl)
    (hline : (apos.endLine == cpos.line) = true := by rfl) (hs : starEach [e] X.env = (false, eval e X.env) :: starEach [] X.env := by rfl) (hplain : (backTo cpos (starEach [] X.env)).any (·.1) = false := by rfl) :
    PE X (.Call (.Attribute o "update" apos) [e] [] cpos) (tBM X.K "dict" rDUpd71 to (tCons te tNil)) := pe_bm PySem.F.plainAttrs_dict PySem.F.slot_dict_update PySem.F.type_dict_update mtd_upd71 ho (pa_cons he pa_nil hs) hbase hfew hline hs hplain
theorem pe_updK71 {K : PySem.W.Frag} (h : X.K = K) (ho : PE X o to) (he : PE X e te) (hbase : attributeBase o "update" X.env (eval o X.env) = eval o X.env := by rfl)
    (hfew : ((backTo cpos (starEach [e] X.env)).all (fun x => !x.1) && (backToKw cpos (keywordEach [] X.env)).all (fun x => x.1.isSome) && decide ([e].length + ([] : List Keyword).length + (if ([] : List Keyword).isEmpty then 0 else 1) < 30)) = true := by rfl)
    (hline : (apos.endLine == cpos.line) = true := by rfl) (hs : starEach [e] X.env = (false, eval e X.env) :: starEach [] X.env := by rfl) (hplain : (backTo cpos (starEach [] X.env)).any (·.1) = false := by rfl) :
    PE X (.Call (.Attribute o "update" apos) [e] [] cpos) (tBM K "dict" rDUpd71 to (tCons te tNil)) := h ▸ pe_upd71 ho he hbase hfew hline hs hplain
theorem pe_indexK71 {K : PySem.W.Frag} (h : X.K = K) (ho : PE X o to) (he : PE X e te) (hbase : attributeBase o "index" X.env (eval o X.env) = eval o X.env := by rfl)
    (hfew : ((backTo cpos (starEach [e] X.env)).all (fun x => !x.1) && (backToKw cpos (keywordEach [] X.env)).all (fun x => x.1.isSome) && decide ([e].length + ([] : List Keyword).length + (if ([] : List Keyword).isEmpty then 0 else 1) < 30)) = true := by rfl)
    (hline : (apos.endLine == cpos.line) = true := by rfl) (hs : starEach [e] X.env = (false, eval e X.env) :: starEach [] X.env := by rfl) (hplain : (backTo cpos (starEach [] X.env)).any (·.1) = false := by rfl) :
    PE X (.Call (.Attribute o "index" apos) [e] [] cpos) (tBM K "list" (rIndex K) to (tCons te tNil)) := h ▸ pe_bm PySem.F.plainAttrs_list PySem.F.slot_list_index PySem.F.type_list_index mt_index ho (pa_cons he pa_nil hs) hbase hfew hline hs hplain
theorem pe_get71 {td ty tx : TE} (hu : X.A.units + 1 < cLine) (ho : PE X o td) (he : PE X e ty) (hf : PE X f tx) (hbase : attributeBase o "get" X.env (eval o X.env) = eval o X.env := by rfl)
    (hfew : ((backTo cpos (starEach [e, f] X.env)).all (fun x => !x.1) && (backToKw cpos (keywordEach [] X.env)).all (fun x => x.1.isSome) && decide (([e, f] : List Expr).length + ([] : List Keyword).length + (if ([] : List Keyword).isEmpty then 0 else 1) < 30)) = true := by rfl)
    (hline : (apos.endLine == cpos.line) = true := by rfl) (ht : backTo cpos (starEach [e, f] X.env) = [(false, eval e X.env), (false, eval f X.env)] := by rfl) :
    PE X (.Call (.Attribute o "get" apos) [e, f] [] cpos) (tDGet2 td ty tx) := pe_dget2 hu ho he hf ⟨hbase, hfew, hline, ht⟩
end
section
variable {σ : L2.St} {H : Hp} {Q : VK} {K : PySem.W.Frag}
theorem e_get71 {td ty tx : TE} (q : td σ H fun x H1 => ∃ a, x = .ref a ∧ IsD H1 a ∧ ty σ H1 fun y H2 => tx σ H2 fun z H3 => ∃ o, DGet H3 a y o ∧ Q (o.getD z) H3) : tDGet2 td ty tx σ H Q := q
theorem isD_num {a : Addr} {kvs : List (Key × V)} (h : H a = some (.dK kvs)) : IsD H a := .inl ⟨kvs, .inl h⟩
theorem ix_first : ∀ {l : List Nat} {c : Nat}, c ∈ l → (numV l)[l.idxOf c]? = some (.int ((c : Nat) : Int)) ∧ ∀ (m : Nat) (z : V), m < l.idxOf c → (numV l)[m]? = some z → eqV z (.int ((c : Nat) : Int)) = false
  | [], _, h => nomatch h
  | a :: r, c, h => by
    rw [List.idxOf_cons]
    by_cases e : a = c
    · subst e
      rw [show (a == a) = true from beq_self_eq_true a]
      exact ⟨rfl, fun m z hm => absurd hm (Nat.not_lt_zero m)⟩
    · rw [beq_eq_false_iff_ne.mpr e]
      obtain ⟨h1, h2⟩ := ix_first ((List.mem_cons.mp h).resolve_left fun z => e z.symm)
      refine ⟨h1, fun m z hm hz => ?_⟩
      match m, hz with
      | 0, hz =>
        injection hz with hz
        rw [← hz]
        show decide _ = false
        exact decide_eq_false fun q => e (Int.ofNat.inj q)
      | m + 1, hz => exact h2 m z (Nat.lt_of_succ_lt_succ hm) hz
theorem v_indexL71 {p : Addr} {l : List Nat} {c : Nat} (h : H p = some (.lst (numV l))) (hc : c ∈ l) (q : Q (.int ((l.idxOf c : Nat) : Int)) H) : rIndex K (.ref p) [.int ((c : Nat) : Int)] H Q := by
  obtain ⟨h1, h2⟩ := ix_first hc
  exact ⟨p, numV l, _, l.idxOf c, _, rfl, rfl, SqL.of h, rfl, List.all_eq_true.mpr fun v hv => by
    obtain ⟨n, _, rfl⟩ := List.mem_map.mp hv
    rfl, h1, by
      show decide _ = true
      exact decide_eq_true rfl, h2, q⟩
end
def rSetD71 : V → V → V → Hp → (Hp → Prop) → Prop := fun o i v H Q => ∃ a H', o = .ref a ∧ DPut H a i v H' ∧ Q H'
theorem set_dict71 {X : Cx} (hu : X.A.units + 1 < cLine) : PSet X rSetD71 := by
  refine fun pins s σ H o i v ov iv u Q I ro ri rv h => ?_
  obtain ⟨a, H', rfl, g, q⟩ := h
  obtain rfl : ov = Value.ref a := ro
  exact d_setItem hu I g ri rv fun s' I' => ⟨H', I', q⟩
theorem v_setD71 {a : Addr} {i v : V} {H H' : Hp} {Q : Hp → Prop} (g : DPut H a i v H') (q : Q H') : rSetD71 (.ref a) i v H Q := ⟨a, H', rfl, g, q⟩
theorem e_setD71 {to ti : TE} {t : TSet} {v : V} {σ : L2.St} {H : Hp} {Q : L2.St → Hp → Prop} (q : to σ H fun o H1 => ti σ H1 fun i H2 => t o i v H2 (Q σ)) : gSub to ti t v σ H Q := q
theorem pe_pop0K {X : Cx} {K : PySem.W.Frag} {o : Expr} {to : TE} {apos cpos : PySem.Pos} (h : X.K = K) (ho : PE X o to) (hbase : attributeBase o "pop" X.env (eval o X.env) = eval o X.env := by rfl) (hline : (apos.endLine == cpos.line) = true := by rfl) :
    PE X (.Call (.Attribute o "pop" apos) [] [] cpos) (tBM0 K "list" rPop to) := h ▸ pe_bm0 PySem.F.plainAttrs_list PySem.F.slot_list_pop PySem.F.type_list_pop mt_pop ho hbase hline
theorem v_pop0 {H : Hp} {Q : VK} {p : Addr} {xs : List V} {y : V} (h : H p = some (.lst (xs ++ [y]))) (q : ∀ H', Keep p H H' → H' p = some (.lst xs) → Q y H') : rPop (.ref p) [] H Q := by
  refine ⟨p, xs ++ [y], y, rfl, rfl, h, ?_, ?_⟩
  · rw [List.length_append, List.length_singleton, Nat.add_sub_cancel, List.getElem?_append_right (Nat.le_refl _), Nat.sub_self]
    rfl
  · rw [List.dropLast_concat]
    exact q _ Keep.put upd_same
end Cw
set_option Elab.async false
set_option linter.all false
set_option maxRecDepth 100000
set_option maxHeartbeats 4000000
/-! places that are exchanged in pairs, some rows being kept -/
namespace Cw
open PySem PySem.Spec L2
/-- a function of some places that leads back and commutes with some rows -/
structure PInv (n : Nat) (rs : List (List Nat)) (l : List Nat) (g : Nat → Nat) : Prop where
  nd : l.Nodup
  lt : ∀ x ∈ l, x < n
  to : ∀ x ∈ l, g x ∈ l
  bk : ∀ x ∈ l, g (g x) = x
  cm : ∀ r ∈ rs, ∀ x ∈ l, r.getD x 0 ∈ l ∧ g (r.getD x 0) = r.getD (g x) 0
section
variable {n : Nat} {rs : List (List Nat)} {l l' : List Nat} {g g' : Nat → Nat}
theorem PInv.nil : PInv n rs [] g := ⟨.nil, fun _ z => (nomatch z), fun _ z => (nomatch z), fun _ z => (nomatch z), fun _ _ _ z => (nomatch z)⟩
theorem PInv.cat (h : PInv n rs l g) (h' : PInv n rs l' g') (d : ∀ x ∈ l', ¬ x ∈ l) : PInv n rs (l ++ l') fun x => if x ∈ l' then g' x else g x := by
  have nl : ∀ x ∈ l, ¬ x ∈ l' := fun x hx z => d x z hx
  refine ⟨List.nodup_append.mpr ⟨h.nd, h'.nd, fun a ha b hb e => nl a ha (e ▸ hb)⟩, fun x hx => ?_, fun x hx => ?_, fun x hx => ?_, fun r hr x hx => ?_⟩
  · exact (List.mem_append.mp hx).elim (h.lt x) (h'.lt x)
  · rcases List.mem_append.mp hx with z | z
    · rw [if_neg (nl x z)]
      exact List.mem_append_left _ (h.to x z)
    · rw [if_pos z]
      exact List.mem_append_right _ (h'.to x z)
  · rcases List.mem_append.mp hx with z | z
    · rw [if_neg (nl x z), if_neg (nl _ (h.to x z))]
      exact h.bk x z
    · rw [if_pos z, if_pos (h'.to x z)]
      exact h'.bk x z
  · rcases List.mem_append.mp hx with z | z
    · obtain ⟨a, b⟩ := h.cm r hr x z
      rw [if_neg (nl x z), if_neg (nl _ a)]
      exact ⟨List.mem_append_left _ a, b⟩
    · obtain ⟨a, b⟩ := h'.cm r hr x z
      rw [if_pos z, if_pos a]
      exact ⟨List.mem_append_right _ a, b⟩
/-- the row of all places -/
def rowP (n : Nat) (l : List Nat) (g : Nat → Nat) : List Nat := (List.range n).map fun x => if x ∈ l then g x else x
theorem rowP_get {x : Nat} (hx : x < n) : (rowP n l g).getD x 0 = if x ∈ l then g x else x := by
  unfold rowP
  rw [List.getD_eq_getElem?_getD, List.getElem?_map, List.getElem?_range hx]
  rfl
theorem PInv.row (h : PInv n rs l g) : (rowP n l g).length = n ∧ (∀ x ∈ rowP n l g, x < n) ∧ (∀ x, x < n → (rowP n l g).getD ((rowP n l g).getD x 0) 0 = x) := by
  refine ⟨by unfold rowP; rw [List.length_map, List.length_range], fun x hx => ?_, fun x hx => ?_⟩
  · obtain ⟨y, hy, rfl⟩ := List.mem_map.mp hx
    have hy := List.mem_range.mp hy
    split
    · rename_i m
      exact h.lt _ (h.to y m)
    · exact hy
  · rw [rowP_get hx]
    by_cases c : x ∈ l
    · rw [if_pos c, rowP_get (h.lt _ (h.to x c)), if_pos (h.to x c)]
      exact h.bk x c
    · rw [if_neg c, rowP_get hx, if_neg c]
theorem PInv.com (h : PInv n rs l g) {r : List Nat} (hr : r ∈ rs) (lr : r.length = n ∧ ∀ x ∈ r, x < n) (br : ∀ x, x < n → r.getD (r.getD x 0) 0 = x) {x : Nat} (hx : x < n) : (rowP n l g).getD (r.getD x 0) 0 = r.getD ((rowP n l g).getD x 0) 0 := by
  have lt : r.getD x 0 < n := by
    rw [List.getD_eq_getElem?_getD, List.getElem?_eq_getElem (show x < r.length by omega)]
    exact lr.2 _ (List.getElem_mem _)
  rw [rowP_get lt, rowP_get hx]
  by_cases c : x ∈ l
  · obtain ⟨a, b⟩ := h.cm r hr x c
    rw [if_pos c, if_pos a, b]
  · have c2 : ¬ r.getD x 0 ∈ l := fun z => c (by
      have := (h.cm r hr _ z).1
      rwa [br x hx] at this)
    rw [if_neg c, if_neg c2]
end
section
variable {H : Hp} {d : Addr} {l : List Nat}
theorem nKV_congr {g g' : Nat → V} (h : ∀ x ∈ l, g x = g' x) : nKV l g = nKV l g' := List.map_congr_left fun x hx => by rw [h x hx]
theorem putK_new71 {l : List Nat} {g : Nat → V} {k : Nat} {v : V} (hk : ¬ k ∈ l) : putK (nKV l g) (Sum.inl ((k : Nat) : Int)) v = nKV (l ++ [k]) fun c => if c = k then v else g c := by
  unfold putK
  rw [if_neg (by rw [valV_any, nKV_none hk]; exact Bool.false_ne_true)]
  unfold nKV
  rw [List.map_append]
  have e3 : (l.map fun (c : Nat) => ((Sum.inl ((c : Nat) : Int) : Key), if c = k then v else g c)) = l.map fun (c : Nat) => ((Sum.inl ((c : Nat) : Int) : Key), g c) := List.map_congr_left fun c hc => by
    have ne : ¬ c = k := fun z => hk (by rw [← z]; exact hc)
    rw [if_neg ne]
  show _ = _ ++ [((Sum.inl ((k : Nat) : Int) : Key), if k = k then v else g k)]
  rw [if_pos rfl, e3]
theorem merge_num : ∀ {l' l : List Nat} {g g' : Nat → V}, l'.Nodup → (∀ x ∈ l', ¬ x ∈ l) → mergeK (nKV l g) (nKV l' g') = nKV (l ++ l') fun x => if x ∈ l' then g' x else g x
  | [], l, g, g', _, _ => by
    rw [List.append_nil]
    exact nKV_congr fun x _ => by rw [if_neg (by simp)]
  | a :: r, l, g, g', nd, h => by
    obtain ⟨n1, n2⟩ := List.nodup_cons.mp nd
    have ha := h a (List.mem_cons_self ..)
    show mergeK (putK (nKV l g) (Sum.inl ((a : Nat) : Int)) (g' a)) (nKV r g') = _
    rw [putK_new71 ha, merge_num n2 (fun x hx z => by
      rcases List.mem_append.mp z with z | z
      · exact h x (List.mem_cons_of_mem _ hx) z
      · exact n1 (by rw [← List.mem_singleton.mp z]; exact hx)), List.append_assoc]
    show nKV (l ++ a :: r) _ = _
    refine nKV_congr fun x _ => ?_
    by_cases c : x ∈ r
    · rw [if_pos c, if_pos (List.mem_cons_of_mem _ c)]
    · rw [if_neg c]
      by_cases e : x = a
      · subst e
        rw [if_pos rfl, if_pos (List.mem_cons_self ..)]
      · rw [if_neg e, if_neg fun z => (List.mem_cons.mp z).elim e c]
end
end Cw
set_option Elab.async false
set_option linter.all false
set_option maxRecDepth 100000
set_option maxHeartbeats 4000000
/-! xs.clear() -/
namespace Cw
open PySem PySem.Spec L2
end Cw
set_option Elab.async false
set_option linter.all false
set_option maxRecDepth 100000
set_option maxHeartbeats 4000000
/-! len of a dict -/
namespace Cw
open PySem PySem.Spec L2
def rLenDK : List V → Hp → VK → Prop := fun xs H Q => ∃ (p : Addr) (kvs : List (Key × V)), xs = [.ref p] ∧ Rd H p (.dK kvs) ∧ Q (.int ((kvs.length : Nat) : Int)) H
theorem c_lenD {X : Cx} : CallR X (.builtin "len") rLenDK := by
  intro pins s σ H xs us Q I r h
  obtain ⟨p, kvs, rfl, hp, q⟩ := h
  obtain ⟨u, rfl, rx⟩ := vals1 r
  obtain rfl : u = .ref p := rx
  exact d_len I hp fun t s' I' => ⟨.int ((kvs.length : Nat) : Int), H, I', ⟨_, rfl⟩, q⟩
theorem v_lenD {H : Hp} {Q : VK} {p : Addr} {kvs : List (Key × V)} (h : H p = some (.dK kvs)) (q : Q (.int ((kvs.length : Nat) : Int)) H) : rLenDK [.ref p] H Q := ⟨p, kvs, rfl, .inl h, q⟩
end Cw
set_option Elab.async false
set_option linter.all false
set_option maxRecDepth 100000
set_option maxHeartbeats 4000000
/-! a comprehension over a dict's keys, the dict locked meanwhile -/
namespace Cw
open PySem PySem.Spec L2
/-- all but d stands as it stood; d is locked -/
structure Lk (d : Addr) (u : HO) (H H' : Hp) : Prop where
  at' : ∃ od, H' d = some (.frz od u)
  oth : ∀ b o, H b = some o → b ≠ d → H' b = some o
theorem Lk.same {d : Addr} {u : HO} {H H' H2 : Hp} (h : Lk d u H H') (s : Same H' H2) : Lk d u H H2 := ⟨h.at'.elim fun od e => ⟨od, s _ _ e⟩, fun b o e n => s _ _ (h.oth b o e n)⟩
end Cw
set_option Elab.async false
set_option linter.all false
set_option maxRecDepth 100000
set_option maxHeartbeats 4000000
/-! pairs of places that are found one behind the other -/
namespace Cw
open PySem PySem.Spec L2
def addK (l : List Nat) (k : Nat) : List Nat := if k ∈ l then l else l ++ [k]
theorem num_put2 {H : Hp} {d : Addr} {l : List Nat} {g : Nat → V} {k : Nat} {v : V} (h : H d = some (.dK (nKV l g))) (hl : l.length ≤ 1000000) : DPut H d (.int (k : Int)) v (upd H d (.dK (nKV (addK l k) fun c => if c = k then v else g c))) := by
  unfold addK
  by_cases c : k ∈ l
  · rw [if_pos c]
    exact num_put_in h c hl
  · rw [if_neg c]
    exact num_put h c hl
/-- .. on the way -/
structure FitI (n : Nat) (rs : List (List Nat)) (l : List Nat) (g : Nat → Nat) (TD : List (List Nat)) : Prop where
  nd : l.Nodup
  lt : ∀ x ∈ l, x < n
  to : ∀ x ∈ l, g x ∈ l
  bk : ∀ x ∈ l, g (g x) = x
  td : ∀ p ∈ TD, ∃ h t, p = [h, t] ∧ h < n ∧ t < n
  cm : ∀ r ∈ rs, ∀ x ∈ l, (r.getD x 0 ∈ l ∧ g (r.getD x 0) = r.getD (g x) 0) ∨ [r.getD x 0, r.getD (g x) 0] ∈ TD ∨ [r.getD (g x) 0, r.getD x 0] ∈ TD
section
variable {n : Nat} {rs : List (List Nat)} {l : List Nat} {g : Nat → Nat} {TD : List (List Nat)} {h t : Nat}
theorem FitI.init (hh : h < n) (ht : t < n) : FitI n rs [] g [[h, t]] := ⟨.nil, fun _ z => (nomatch z), fun _ z => (nomatch z), fun _ z => (nomatch z), fun p hp => ⟨h, t, List.mem_singleton.mp hp, hh, ht⟩, fun _ _ _ z => (nomatch z)⟩
theorem FitI.done (f : FitI n rs l g []) : PInv n rs l g := ⟨f.nd, f.lt, f.to, f.bk, fun r hr x hx => by
  rcases f.cm r hr x hx with z | z | z
  · exact z
  · exact nomatch z
  · exact nomatch z⟩
theorem pair_inj {a b c d : Nat} (e : [a, b] = [c, d]) : a = c ∧ b = d := by
  injection e with e1 e2
  injection e2 with e2 _
  exact ⟨e1, e2⟩
theorem FitI.skip (f : FitI n rs l g (TD ++ [[h, t]])) (hh : h ∈ l) (e : g h = t) : FitI n rs l g TD := by
  refine ⟨f.nd, f.lt, f.to, f.bk, fun p hp => f.td p (List.mem_append_left _ hp), fun r hr x hx => ?_⟩
  rcases f.cm r hr x hx with z | z | z
  · exact .inl z
  · rcases List.mem_append.mp z with z | z
    · exact .inr (.inl z)
    · obtain ⟨e1, e2⟩ := pair_inj (List.mem_singleton.mp z)
      exact .inl ⟨by rw [e1]; exact hh, by rw [e1, e2]; exact e⟩
  · rcases List.mem_append.mp z with z | z
    · exact .inr (.inr z)
    · obtain ⟨e1, e2⟩ := pair_inj (List.mem_singleton.mp z)
      refine .inl ⟨by rw [e2, ← e]; exact f.to h hh, ?_⟩
      rw [e1, e2, ← e]
      exact f.bk h hh
def g2 (g : Nat → Nat) (h t : Nat) : Nat → Nat := fun c => if c = t then h else if c = h then t else g c
theorem FitI.add (f : FitI n rs l g (TD ++ [[h, t]])) (hr0 : ∀ r ∈ rs, ∀ x, x < n → r.getD x 0 < n) (hh : ¬ h ∈ l) (ht : t ∈ l → g t = h) : FitI n rs (addK (l ++ [h]) t) (g2 g h t) (TD ++ rs.map fun r => [r.getD h 0, r.getD t 0]) ∧ l.length + 1 ≤ (addK (l ++ [h]) t).length := by
  obtain ⟨a, b, e0, ln, tn⟩ := f.td [h, t] (List.mem_append_right _ (List.mem_singleton.mpr rfl))
  obtain ⟨rfl, rfl⟩ := pair_inj e0
  have tl : ¬ t ∈ l := fun z => hh (by rw [← ht z]; exact f.to t z)
  have mem : ∀ x, x ∈ addK (l ++ [h]) t ↔ x ∈ l ∨ x = h ∨ x = t := fun x => by
    unfold addK
    split
    · rename_i z
      have z2 : t = h := by
        rcases List.mem_append.mp z with z | z
        · exact absurd z tl
        · exact List.mem_singleton.mp z
      simp [z2]
    · simp [or_assoc]
  have gt : g2 g h t t = h := by unfold g2; rw [if_pos rfl]
  have gh : g2 g h t h = t := by
    unfold g2
    by_cases c : h = t
    · rw [if_pos c]; exact c
    · rw [if_neg c, if_pos rfl]
  have gl : ∀ x ∈ l, g2 g h t x = g x := fun x hx => by
    unfold g2
    rw [if_neg (fun z : x = t => tl (z ▸ hx)), if_neg (fun z : x = h => hh (z ▸ hx))]
  refine ⟨⟨?_, fun x hx => ?_, fun x hx => ?_, fun x hx => ?_, fun p hp => ?_, fun r hr x hx => ?_⟩, ?_⟩
  · unfold addK
    have n1 : (l ++ [h]).Nodup := List.nodup_append.mpr ⟨f.nd, by simp, fun a ha b hb e => hh (by rw [← List.mem_singleton.mp hb, ← e]; exact ha)⟩
    split
    · exact n1
    · rename_i z
      exact List.nodup_append.mpr ⟨n1, by simp, fun a ha b hb e => z (by rw [← List.mem_singleton.mp hb, ← e]; exact ha)⟩
  · rcases (mem x).mp hx with z | z | z
    · exact f.lt x z
    · rw [z]; exact ln
    · rw [z]; exact tn
  · rw [mem]
    rcases (mem x).mp hx with z | rfl | rfl
    · rw [gl x z]; exact .inl (f.to x z)
    · rw [gh]; exact .inr (.inr rfl)
    · rw [gt]; exact .inr (.inl rfl)
  · rcases (mem x).mp hx with z | rfl | rfl
    · rw [gl x z, gl _ (f.to x z)]; exact f.bk x z
    · rw [gh, gt]
    · rw [gt, gh]
  · rcases List.mem_append.mp hp with z | z
    · exact f.td p (List.mem_append_left _ z)
    · obtain ⟨r, hr, rfl⟩ := List.mem_map.mp z
      exact ⟨_, _, rfl, hr0 r hr _ ln, hr0 r hr _ tn⟩
  · rcases (mem x).mp hx with z | rfl | rfl
    · rw [gl x z]
      rcases f.cm r hr x z with ⟨c1, c2⟩ | c | c
      · exact .inl ⟨(mem _).mpr (.inl c1), by rw [gl _ c1]; exact c2⟩
      · rcases List.mem_append.mp c with c | c
        · exact .inr (.inl (List.mem_append_left _ c))
        · obtain ⟨e1, e2⟩ := pair_inj (List.mem_singleton.mp c)
          refine .inl ⟨(mem _).mpr (.inr (.inl e1)), ?_⟩
          rw [e1, e2]
          exact gh
      · rcases List.mem_append.mp c with c | c
        · exact .inr (.inr (List.mem_append_left _ c))
        · obtain ⟨e1, e2⟩ := pair_inj (List.mem_singleton.mp c)
          refine .inl ⟨(mem _).mpr (.inr (.inr e2)), ?_⟩
          rw [e1, e2]
          exact gt
    · rw [gh]
      exact .inr (.inl (List.mem_append_right _ (List.mem_map.mpr ⟨r, hr, rfl⟩)))
    · rw [gt]
      exact .inr (.inr (List.mem_append_right _ (List.mem_map.mpr ⟨r, hr, rfl⟩)))
  · unfold addK
    split
    · rw [List.length_append, List.length_singleton]
      exact Nat.le_refl _
    · rw [List.length_append, List.length_append, List.length_singleton, List.length_singleton]
      omega
theorem FitI.len (f : FitI n rs l g TD) : l.length ≤ n := (FdOk.mk f.nd f.lt).len
end
end Cw
set_option Elab.async false
set_option linter.all false
set_option maxRecDepth 100000
set_option maxHeartbeats 4000000
/-! a comprehension over a dict of numbers, the dict locked meanwhile -/
namespace Cw
open PySem PySem.Spec L2
theorem walk_num71 {d : Addr} {o : Obj} {ls : List Nat} {g : Nat → V} : Walk (Itk d o (nKV ls g)) ls.length (fun H => H d = some (.frz o (.dK (nKV ls g)))) (YFn fun k => .int ((ls.getD k 0 : Nat) : Int)) := by
  have w := walk_keys (d := d) (o := o) (kvs := nKV ls g)
  rw [show (nKV ls g).length = ls.length from List.length_map _] at w
  refine w.mono (fun _ z => z) fun i H x H' hi _ y => ?_
  obtain ⟨rfl, kk, vv, hkv, rfl⟩ := y
  refine ⟨rfl, ?_⟩
  unfold nKV at hkv
  rw [List.getElem?_map, List.getElem?_eq_getElem hi] at hkv
  injection hkv with hkv
  injection hkv with a b
  show _ = V.int ((ls.getD i 0 : Nat) : Int)
  rw [← a, List.getD_eq_getElem?_getD, List.getElem?_eq_getElem hi]
  rfl
theorem v_lockLcN {σ : St} {H : Hp} {Q : VK} {i : Nat} {td : TE} {tt : TT} {te : TE} {d : Addr} {ls : List Nat} {g : Nat → V} {b : Nat → Bool} {f : Nat → V} (h : H d = some (.dK (nKV ls g))) (hn : ls.length ≤ 1000000)
    (htd : ∀ H1, ∀ R : VK, R (.ref d) H1 → td σ H1 R)
    (ht : ∀ c ∈ ls, ∀ H1, Lk d (.dK (nKV ls g)) H H1 → ∀ R : Bool → Hp → Prop, (∀ H2, Same H1 H2 → R (b c) H2) → tt ((wipe σ [i]).set i (some (.int ((c : Nat) : Int)))) H1 R)
    (he : ∀ c ∈ ls, b c = true → ∀ H1, Lk d (.dK (nKV ls g)) H H1 → ∀ R : VK, (∀ H2, Same H1 H2 → R (f c) H2) → te ((wipe σ [i]).set i (some (.int ((c : Nat) : Int)))) H1 R)
    (q : ∀ D H', H D = none → Same H H' → H' D = some (.lst ((ls.filter b).map f)) → Q (.ref D) H') : tLockE (tLc (iKeys td) (gName i) tt te [i]) σ H Q := by
  refine ⟨d, _, h, trivial, fun od => ?_⟩
  have lk0 : Lk d (.dK (nKV ls g)) H (upd H d (.frz od (.dK (nKV ls g)))) := ⟨⟨od, upd_same⟩, fun b o e n => by rw [upd_ne n]; exact e⟩
  refine e_lc ?_
  refine e_iK ?_
  refine htd _ _ ?_
  refine ⟨d, od, rfl, .inl ⟨_, upd_same, ?_⟩⟩
  refine vals_some (ls := ls) (it := fun c => V.int ((c : Nat) : Int)) (f := f) (b := b) walk_num71 (fun H' s' => s' _ _ upd_same) hn (fun e he' H7 s7 Rk r => ht e he' H7 (lk0.same s7) Rk r) (fun e he' hb H7 s7 Rk r => he e he' hb H7 (lk0.same s7) Rk r) (fun D H7 hD s7 e7 => ?_)
  have nD : D ≠ d := fun z => by rw [z, upd_same] at hD; cases hD
  refine ⟨s7 _ _ upd_same, q D _ (by rw [upd_ne nD] at hD; exact hD) (fun b o hb => ?_) (by rw [upd_ne nD]; exact e7)⟩
  by_cases e : b = d
  · rw [e, upd_same, ← hb, e, h]
  · rw [upd_ne e]
    exact s7 _ _ (lk0.oth b o hb e)
theorem let_new71 {H : Hp} {d : Addr} {keys : List Nat} {g : Nat → V} {k : Nat} {v : V} (h : H d = some (.dK (keys.map fun c => ((Sum.inr (tx [c]) : Key), g c)))) (hk : ¬ k ∈ keys) (hl : keys.length < 1000000) : DPut H d (.str (tx [k])) v (upd H d (.dK ((keys ++ [k]).map fun c => ((Sum.inr (tx [c]) : Key), if c = k then v else g c)))) := by
  have e := DPut.cross (l := [k]) (v := v) h (letV_none (g := g) hk) (by rw [List.length_map]; exact hl)
  have e2 : ((keys ++ [k]).map fun c => ((Sum.inr (tx [c]) : Key), if c = k then v else g c)) = (keys.map fun c => ((Sum.inr (tx [c]) : Key), g c)) ++ [((Sum.inr (tx [k]) : Key), v)] := by
    rw [List.map_append, List.map_cons, List.map_nil, if_pos rfl]
    congr 1
    refine List.map_congr_left fun c hc => ?_
    rw [if_neg fun z : c = k => hk (z ▸ hc)]
  rw [e2]
  exact e
/-- rows that lead back, crossing ones commute -/
structure RowsOk (n : Nat) (cr : Nat → Nat → Bool) (keys : List Nat) (r : Nat → List Nat) : Prop where
  len : ∀ c ∈ keys, (r c).length = n ∧ ∀ z ∈ r c, z < n
  back : ∀ c ∈ keys, ∀ z, z < n → (r c).getD ((r c).getD z 0) 0 = z
  com : ∀ c ∈ keys, ∀ c' ∈ keys, cr c c' = true → ∀ z, z < n → (r c).getD ((r c').getD z 0) 0 = (r c').getD ((r c).getD z 0) 0
theorem RowsOk.snoc {n : Nat} {cr : Nat → Nat → Bool} {keys : List Nat} {r : Nat → List Nat} (h : RowsOk n cr keys r) (sym : ∀ a b, cr a b = cr b a) {k : Nat} (hk : ¬ k ∈ keys) {l : List Nat} {g : Nat → Nat} (p : PInv n ((keys.filter fun c => cr c k).map r) l g) : RowsOk n cr (keys ++ [k]) fun c => if c = k then rowP n l g else r c := by
  obtain ⟨p1, p2, p3⟩ := p.row
  have ne : ∀ c ∈ keys, ¬ c = k := fun c hc z => hk (z ▸ hc)
  refine ⟨fun c hc => ?_, fun c hc z hz => ?_, fun c hc c' hc' e z hz => ?_⟩
  · rcases List.mem_append.mp hc with m | m
    · rw [if_neg (ne c m)]
      exact h.len c m
    · rw [if_pos (List.mem_singleton.mp m)]
      exact ⟨p1, p2⟩
  · rcases List.mem_append.mp hc with m | m
    · rw [if_neg (ne c m)]
      exact h.back c m z hz
    · rw [if_pos (List.mem_singleton.mp m)]
      exact p3 z hz
  · have one : ∀ u ∈ keys, cr u k = true → (rowP n l g).getD ((r u).getD z 0) 0 = (r u).getD ((rowP n l g).getD z 0) 0 := fun u hu0 eu => p.com (List.mem_map.mpr ⟨u, List.mem_filter.mpr ⟨hu0, eu⟩, rfl⟩) (h.len u hu0) (h.back u hu0) hz
    rcases List.mem_append.mp hc with m | m
    · rw [if_neg (ne c m)]
      rcases List.mem_append.mp hc' with m' | m'
      · rw [if_neg (ne c' m')]
        exact h.com c m c' m' e z hz
      · have e' := List.mem_singleton.mp m'
        subst e'
        rw [if_pos rfl]
        exact (one c m e).symm
    · have e1 := List.mem_singleton.mp m
      subst e1
      rw [if_pos rfl]
      rcases List.mem_append.mp hc' with m' | m'
      · rw [if_neg (ne c' m')]
        exact one c' m' (by rw [sym]; exact e)
      · rw [if_pos (List.mem_singleton.mp m')]
end Cw
set_option Elab.async false
set_option linter.all false
set_option maxRecDepth 100000
/-! x or y by truth -/
namespace Cw
open PySem PySem.Spec L2
theorem v_notN0 {H : Hp} {Q : VK} {v : V} (q : Q (.bl (!decide (v = .non))) H) : rNotN v .non H Q := ⟨rfl, q⟩
end Cw
set_option Elab.async false
set_option linter.all false
set_option maxRecDepth 100000
set_option maxHeartbeats 4000000
/-! [e for x in ..]: e makes new lists -/
namespace Cw
open PySem PySem.Spec L2
theorem lc_newL {σ : L2.St} {H : Hp} {i : Nat} {tt : TT} {te : TE} {P : Addr → Hp → Prop} {J : It} {n : Nat} {G : Hp → Prop} {it : Nat → V} (f : Nat → List V) (w : Walk J n G (fun k H x H' => H' = H ∧ x = it k)) (hG : ∀ H', Same H H' → G H') (hn : n ≤ 1000000)
    (ht : ∀ k, k < n → ∀ H1, Same H H1 → ∀ R : Bool → Hp → Prop, (∀ H2, Same H1 H2 → R true H2) → tt ((wipe σ [i]).set i (some (it k))) H1 R)
    (he : ∀ k, k < n → ∀ H1, Same H H1 → ∀ R : VK, (∀ p H2, H1 p = none → Same H1 H2 → H2 p = some (.lst (f k)) → R (.ref p) H2) → te ((wipe σ [i]).set i (some (it k))) H1 R)
    (q : ∀ D H' vs, H D = none → Same H H' → H' D = some (.lst vs) → vs.length = n → (∀ k v, vs[k]? = some v → ∃ p, v = .ref p ∧ H p = none ∧ H' p = some (.lst (f k))) → P D H') :
    ∀ D, H D = none → ∃ W : Nat → Nat → Hp → Prop, (∃ m, W 0 m (upd H D (.lst []))) ∧ ∀ k m H, W k m H →
      (J.stop k H ∧ P D H) ∨ (J.go k H ∧ ∃ Nx : Hp → Prop, (∀ H', Nx H' → ∃ m', m' < m ∧ W (k + 1) m' H') ∧ ∀ x H', J.yld k H x H' → (gName i) x (wipe σ [i]) H' fun s2 H2 => wipe s2 [i] = wipe σ [i] ∧ tt s2 H2 fun c H3 =>
        if c = true then te s2 H3 fun y H4 => ∃ acc, H4 D = some (.lst acc) ∧ acc.length < sizeLine ∧ Nx (upd H4 D (.lst (acc ++ [y]))) else Nx H3) := by
  intro D hD
  refine lc_it w (vs := [i]) (σ := σ) (g := gName i) (tt := tt) (te := te) (Qd := fun H' => P D H') (fun k H' => Same H H' ∧ ∃ vs, H' D = some (.lst vs) ∧ vs.length = k ∧ ∀ j v, vs[j]? = some v → ∃ p, v = .ref p ∧ p ≠ D ∧ H p = none ∧ H' p = some (.lst (f j)))
    ⟨Same.new hD, [], upd_same, rfl, fun j v z => by simp at z⟩ (fun k H' _ p => hG H' p.1) (fun k x H1 H2 hk p y => ?_) (fun H' p => ?_)
  · obtain ⟨p1, vs, p2, p3, p4⟩ := p
    obtain ⟨rfl, rfl⟩ := y
    refine ⟨wipe1, ht k hk _ p1 _ fun H3 s3 => ?_⟩
    rw [if_pos rfl]
    refine he k hk _ (p1.trans s3) _ fun v H4 hv s4 r4 => ?_
    have e4 := s4 _ _ (s3 _ _ p2)
    have nv : v ≠ D := (ne_of_none (s3 _ _ p2) hv).symm
    refine ⟨vs, e4, szlt (by omega), fun a o ha => ?_, vs ++ [.ref v], upd_same, by rw [List.length_append, p3]; rfl, fun j u hj => ?_⟩
    · rw [upd_ne (ne_of_none ha hD)]
      exact s4 _ _ (s3 _ _ (p1 _ _ ha))
    · by_cases c : j < vs.length
      · rw [List.getElem?_append_left c] at hj
        obtain ⟨p, e, np, h0, hp⟩ := p4 j u hj
        exact ⟨p, e, np, h0, by rw [upd_ne np]; exact s4 _ _ (s3 _ _ hp)⟩
      · have e : j = vs.length := by
          have := (List.getElem?_eq_some_iff.mp hj).1
          rw [List.length_append, List.length_singleton] at this
          omega
        subst e
        rw [List.getElem?_append_right (Nat.le_refl _), Nat.sub_self] at hj
        refine ⟨v, (Option.some.inj hj).symm, nv, Same.free (p1.trans s3) hv, ?_⟩
        rw [upd_ne nv, p3]
        exact r4
  · obtain ⟨p1, vs, p2, p3, p4⟩ := p
    exact q D H' vs hD p1 p2 p3 fun k v h => let ⟨p, e, _, h0, hp⟩ := p4 k v h; ⟨p, e, h0, hp⟩
end Cw
set_option Elab.async false
set_option linter.all false
set_option maxRecDepth 100000
set_option maxHeartbeats 4000000
/-! list(text) -/
namespace Cw
open PySem PySem.Spec L2
end Cw
set_option Elab.async false
set_option linter.all false
set_option maxRecDepth 100000
set_option maxHeartbeats 4000000
/-! home's vector of ones: where it is below nought behind a way -/
namespace Cw
open PySem PySem.Spec L2
theorem sumL_neg {v : Nat → Int} : ∀ {ls : List Nat}, (∀ x ∈ ls, v x ≤ 0) → (∃ x ∈ ls, v x < 0) → sumL ls v < 0
  | [], _, h => by obtain ⟨_, h, _⟩ := h; cases h
  | a :: r, h, ⟨x, hx, lx⟩ => by
    have h1 := h a (List.mem_cons_self ..)
    have h2 := sumL_nonpos (v := v) (ls := r) fun y hy => h y (List.mem_cons_of_mem _ hy)
    show v a + sumL r v < 0
    rcases List.mem_cons.mp hx with e | e
    · rw [e] at lx
      omega
    · have := sumL_neg (v := v) (ls := r) (fun y hy => h y (List.mem_cons_of_mem _ hy)) ⟨x, e, lx⟩
      omega
section
variable {f : Nat → List Nat} {ls : List Nat}
theorem one_neg (nd : ls.Nodup) (ok : CrOk f) {w : List Nat} (hr : Red f w) (hw : ∀ y ∈ w, y ∈ ls) {s : Nat} (hs : s ∈ ls) : act f w (fun _ => 1) s < 0 ↔ desc f s w := by
  rw [act_lin nd ok (fun _ => 1) hw hs]
  rw [sumL_congr (v := mark f w s) fun x _ => Int.one_mul _]
  constructor
  · intro h
    refine Classical.byContradiction fun hd => ?_
    have := sumL_nonneg (mark_nn ok hr hw hs hd).1
    omega
  · intro hd
    exact sumL_neg (mark_np ok hr hw hs hd) ((mark_neg ok hr hw hs).mpr hd)
/-- the letters at which the vector is below nought: none at home, else the first letter of the name ahead of all others -/
theorem one_nil : ls.filter (fun k => decide (act f [] (fun _ => 1) k < 0)) = [] := by
  rw [List.filter_eq_nil_iff]
  intro c _ h
  have h : (1 : Int) < 0 := of_decide_eq_true h
  omega
theorem one_cons (ok : CrOk f) (asc : ls.Pairwise (· < ·)) {c : Nat} {r : List Nat} (h : NF f (c :: r)) (hw : ∀ y ∈ c :: r, y ∈ ls) : ∃ t, ls.filter (fun k => decide (act f (c :: r) (fun _ => 1) k < 0)) = c :: t := by
  have nd : ls.Nodup := asc.imp fun {a b} z e => by omega
  have mem : ∀ s, s ∈ ls.filter (fun k => decide (act f (c :: r) (fun _ => 1) k < 0)) → c ≤ s := fun s hs => by
    obtain ⟨h1, h2⟩ := List.mem_filter.mp hs
    exact h.least ((one_neg nd ok h.red hw h1).mp (of_decide_eq_true h2))
  have hc : c ∈ ls.filter (fun k => decide (act f (c :: r) (fun _ => 1) k < 0)) := List.mem_filter.mpr ⟨hw c (List.mem_cons_self ..), decide_eq_true ((one_neg nd ok h.red hw (hw c (List.mem_cons_self ..))).mpr (.inl rfl))⟩
  have ap : (ls.filter (fun k => decide (act f (c :: r) (fun _ => 1) k < 0))).Pairwise (· < ·) := asc.filter _
  generalize ls.filter (fun k => decide (act f (c :: r) (fun _ => 1) k < 0)) = b at *
  cases b with
  | nil => cases hc
  | cons y t =>
    refine ⟨t, ?_⟩
    have h1 := mem y (List.mem_cons_self ..)
    rcases List.mem_cons.mp hc with e | e
    · rw [e]
    · have := (List.pairwise_cons.mp ap).1 c e
      omega
end
end Cw
set_option Elab.async false
set_option linter.all false
set_option maxRecDepth 100000
set_option maxHeartbeats 4000000
/-! dicts whose keys are tuples: a display of one pair, a comprehension (the walk of a comprehension's block follows HandS.DictComp) -/
namespace Cw
open PySem PySem.Spec L2 PyProof.Rows
section
variable {X : Cx}
end
end Cw
set_option Elab.async false
set_option linter.all false
set_option maxRecDepth 100000
set_option maxHeartbeats 4000000
/-! d.setdefault(k, v); dicts whose keys are pairs, told by one number -/
namespace Cw
open PySem PySem.Spec L2
section
variable {X : Cx} {o e f : Expr} {td ty tx : TE} {apos cpos : PySem.Pos}
theorem pe_setd77 (ho : PE X o td) (he : PE X e ty) (hf : PE X f tx) (hbase : attributeBase o "setdefault" X.env (eval o X.env) = eval o X.env := by rfl)
    (hfew : ((backTo cpos (starEach [e, f] X.env)).all (fun x => !x.1) && (backToKw cpos (keywordEach [] X.env)).all (fun x => x.1.isSome) && decide (([e, f] : List Expr).length + ([] : List Keyword).length + (if ([] : List Keyword).isEmpty then 0 else 1) < 30)) = true := by rfl)
    (hline : (apos.endLine == cpos.line) = true := by rfl) (ht : backTo cpos (starEach [e, f] X.env) = [(false, eval e X.env), (false, eval f X.env)] := by rfl) :
    PE X (.Call (.Attribute o "setdefault" apos) [e, f] [] cpos) (tDSetd td ty tx) := pe_dsetd ho he hf ⟨hbase, hfew, hline, ht⟩
end
section
variable {σ : L2.St} {H : Hp} {Q : VK} {td ty tx tk tv : TE}
theorem e_setd77 (q : td σ H fun x H1 => ∃ a, x = .ref a ∧ IsD H1 a ∧ ty σ H1 fun y H2 => tx σ H2 fun z H3 => ∃ (kvs : List (Key × V)) (k : Key), H3 a = some (.dK kvs) ∧ y = kV k ∧ kvs.length < sizeLine ∧ (∀ v, valV kvs k = some v → Q v H3) ∧ (valV kvs k = none → Q z (upd H3 a (.dK (putK kvs k z))))) : tDSetd td ty tx σ H Q := q
variable {n2 k : Nat} {g : Nat → V} {d b : Addr}
variable {l : List Nat}
end
end Cw
set_option Elab.async false
set_option linter.all false
set_option maxRecDepth 100000
set_option maxHeartbeats 4000000
/-! the expression max(numbers, default=i) -/
namespace Cw
open PySem PySem.Spec L2
def maxOr (i : Int) : List Int → Int
  | [] => i
  | n :: ns => ns.foldl max n
def rMaxD (K : PySem.W.Frag) (i : Int) : List V → Hp → VK → Prop := fun vs H Q => ∃ (a : Addr) (ns : List Int), vs = [V.ref a] ∧ SqL K H a (ns.map V.int) ∧ Q (.int (maxOr i ns)) H
def tMaxD (K : PySem.W.Frag) (i : Int) (t : TA) : TE := fun σ H Q => t σ H fun vs H1 => rMaxD K i vs H1 Q
theorem e_maxD {K : PySem.W.Frag} {i : Int} {t : TA} {σ : St} {H : Hp} {Q : VK} (q : t σ H fun vs H1 => rMaxD K i vs H1 Q) : tMaxD K i t σ H Q := q
theorem dpAll_ints {K : PySem.W.Frag} {H : Hp} : ∀ ns : List Int, DpAll K H (ns.map V.int) (ns.map PyData.int)
  | [] => .nil
  | n :: r => .cons (.int _) (dpAll_ints r)
theorem depth_ints74 : ∀ ns : List Int, PyData.depthAll (ns.map PyData.int) ≤ 1
  | [] => Nat.zero_le _
  | n :: r => Nat.max_le.mpr ⟨by show PyData.depth (.int n) ≤ 1; simp only [PyData.depth]; omega, depth_ints74 r⟩
theorem alike_ints (ns : List Int) : PySem.W.AlikeAll (ns.map PyData.int) := by
  refine ⟨fun x hx y hy => ?_, fun x hx e => ?_⟩
  · obtain ⟨i, _, rfl⟩ := List.mem_map.mp hx
    obtain ⟨j, _, rfl⟩ := List.mem_map.mp hy
    rfl
  · obtain ⟨i, _, rfl⟩ := List.mem_map.mp hx
    cases e
theorem pe_maxD {X : Cx} {K : PySem.W.Frag} {p pos kp cp : PySem.Pos} {e : Expr} {t : TA} {i : Int} {ck : Nat} (h : X.K = K) (hg : Gl X "max") (hm : X.mg "max" = none) (hu : X.A.units + 65 < cLine) (calm : X.calm = true) (ha : PA X [e] t)
    (he : backTo pos (starEach [e] X.env) = (false, eval e X.env) :: backTo pos (starEach [] X.env) := by rfl) (hpl : (backTo pos (starEach [e] X.env)).any (·.1) = false := by rfl) :
    PE X (.Call (.Name "max" p) [e] [⟨some "default", .Constant (.int i) ck cp, kp⟩] pos) (tMaxD K i t) := by
  subst h
  refine ⟨fun pins s σ H Q I hq => ?_⟩
  refine wpAny_Call_Name_kw (ld_blt I hg hm (u := .builtin "max") (by decide +kernel) ?_ (by decide) (by decide))
  refine PyProof.Rows.callWith_kw (thn (ha.run pos pins s σ H _ I hq) fun us s1 ⟨vs, H1, I1, r1, q1⟩ => ?_) he hpl rfl rfl
  show wpAny _ _ (evalAll ((do let v ← eval (.Constant (.int i) ck cp) X.env; standAt pos; pure v) :: (backToKw pos (keywordEach [] X.env)).map (·.2))) _ _ s1
  refine PySem.wpAny_evalAll_cons (wpAny_bind (wpAny_Constant_int ?_))
  refine wpAny_bind (wpAny_standAt (wpAny_pure ?_))
  refine PySem.wpAny_evalAll_nil ?_
  obtain ⟨a, ns, rfl, isL, go⟩ := q1
  obtain rfl := Vals.ref1 r1
  obtain ⟨its, rv, pl, _⟩ := I1.list isL
  show wpAny _ _ (call (.builtin "max") [.ref a] [(Str.ofString "default", Value.int i s1.toks)]) _ _ _
  have I2 : Inv X pins σ H1 { s1 with toks := s1.toks + 1 } := I1.tok _
  obtain ⟨as, rd⟩ := Dp.readsAll I2 (ns.map PyData.int) _ its (dpAll_ints ns) rv
  refine PySem.W.max_list_default (I1.ok.hd calm) pl.isList (by simpa using rd) (alike_ints ns) (by have := depth_ints74 ns; omega) (fun ez h' tk kp => ?_) fun y ys k v h' tk bs ey hv rv' kp => ?_
  · have hn : ns = [] := List.map_eq_nil_iff.mp ez
    subst hn
    exact ⟨.int i, H1, I2.kept kp, ⟨_, rfl⟩, go⟩
  · cases ns with
    | nil => cases ey
    | cons n r =>
      injection ey with e1 e2
      subst e1 e2
      rw [PySem.W.maxD_ints] at rv'
      cases rv'
      exact ⟨.int (r.foldl max n), H1, I2.kept kp, ⟨_, rfl⟩, go⟩
end Cw
set_option Elab.async false
set_option linter.all false
set_option maxRecDepth 100000
set_option maxHeartbeats 4000000
/-! the method extend of a list, with a list -/
namespace Cw
open PySem PySem.Spec L2
section
variable {X : Cx} {K : PySem.W.Frag}
theorem pe_extK {o e : Expr} {to te : TE} {apos cpos : PySem.Pos} (h : X.K = K) (ho : PE X o to) (he : PE X e te) (hbase : attributeBase o "extend" X.env (eval o X.env) = eval o X.env := by rfl)
    (hfew : ((backTo cpos (starEach [e] X.env)).all (fun x => !x.1) && (backToKw cpos (keywordEach [] X.env)).all (fun x => x.1.isSome) && decide ([e].length + ([] : List Keyword).length + (if ([] : List Keyword).isEmpty then 0 else 1) < 30)) = true := by rfl)
    (hline : (apos.endLine == cpos.line) = true := by rfl) (hs : starEach [e] X.env = (false, eval e X.env) :: starEach [] X.env := by rfl) (hplain : (backTo cpos (starEach [] X.env)).any (·.1) = false := by rfl) :
    PE X (.Call (.Attribute o "extend" apos) [e] [] cpos) (tBM K "list" rExtend to (tCons te tNil)) := h ▸ pe_bm PySem.F.plainAttrs_list PySem.F.slot_list_extend PySem.F.type_list_extend mt_extend ho (pa_cons he pa_nil hs) hbase hfew hline hs hplain
end
end Cw
set_option Elab.async false
set_option linter.all false
set_option maxRecDepth 100000
set_option maxHeartbeats 4000000
/-! what the top has left, one lemma a kind -/
namespace Cw
open PySem PySem.Spec L2
section
variable {K : PySem.W.Frag} {h : Heap} {mg : Str → Option Value} {x m qual : Str} {st : Stmt} {f C T : Addr} {oc kV dc pm cd ct oc2 : Value} {od an od2 : Option Addr} {sl sl2 : Array (Option Value)}
theorem glob_mk {v : Value} (X : K.In h) (G : h.Ns mainGlobals mg) (a : PySem.W.nsIn K mainGlobals x = some (some v)) : mg x = some v := PySem.W.mg_of X G a
theorem fnAt_mk (X : K.In h) (G : h.Ns mainGlobals mg) (a : PySem.W.nsIn K mainGlobals x = some (some (.ref f))) (l : K.lookup f = some ⟨oc, od, .func (PySem.W.fnOf x x (defArgs st) (defBody st) (defScope st) .none kV dc pm an cd ct), sl⟩)
    (c : PySem.W.codeIn K cd x = true) (k : PySem.W.keepIn K (.ref f) = true) : FnAt K mg x st := ⟨f, _, PySem.W.mg_of X G a, fun_mk (st := st) l c k⟩
theorem mAt_mk (a : PySem.W.findIn K (.ref C) m = some (some (.ref f))) (i : PySem.W.isFn K (.ref f) = true) (l : K.lookup f = some ⟨oc, od, .func (PySem.W.fnOf m qual (defArgs st) (defBody st) (defScope st) .none kV dc pm an cd ct), sl⟩)
    (c : PySem.W.codeIn K cd qual = true) (k : PySem.W.keepIn K (.ref f) = true) : MAt K C m qual st := ⟨f, _, a, i, fun_mk (st := st) l c k⟩
theorem mAtD_mk {arr : Array Value} {n : Nat} {dvs : List V} (a : PySem.W.findIn K (.ref C) m = some (some (.ref f))) (i : PySem.W.isFn K (.ref f) = true) (l : K.lookup f = some ⟨oc, od, .func (PySem.W.fnOf m qual (defArgs st) (defBody st) (defScope st) (.ref T) kV dc pm an cd ct), sl⟩)
    (c : PySem.W.codeIn K cd qual = true) (k : PySem.W.keepIn K (.ref f) = true) (t : K.lookup T = some ⟨oc2, od2, .seq arr n, sl2⟩) (hv : Vals dvs arr.toList) (hd : dvs ≠ []) : MAtD K C m qual st dvs :=
  ⟨f, _, a, i, ⟨⟨oc, od, .ref T, kV, dc, pm, an, cd, ct, sl, rfl, l, c, .inr ⟨hd, T, _, arr.toList, n, rfl, t, rfl, hv⟩, .inl rfl⟩, k⟩⟩
theorem cls_mk (X : K.In h) (G : h.Ns mainGlobals mg) (a : PySem.W.nsIn K mainGlobals x = some (some (.ref C))) (pg : PySem.W.plainGet K C Str.empty = true) (hd : PySem.W.hasDictIn K C = true) (po : PySem.W.plainOver K C = true)
    (sa : PySem.W.findIn K (.ref C) "__setattr__" = some (some (.builtin "object.__setattr__"))) (mk : PySem.W.makesIn K C = true) (kc : PySem.W.keepIn K (.ref C) = true)
    (ha : PySem.W.findIn K (.ref C) "__class__" = some (some (.builtin "object.__class__"))) (hn : PySem.W.specialIn K (.builtin "object.__class__") "__get__" = some (some (.builtin "getset_descriptor.__get__"))) (ht : PySem.W.takesIn K (.builtin "object.__class__") = some true)
    (hm : PySem.W.mroIn K C (.type "object") = some true) (ob : PySem.W.subIn K (.ref C) (.type "object") = some true) (ne : PySem.W.findIn K (.ref C) "__ne__" = some (some (.builtin "object.__ne__"))) : ClsF K mg x C :=
  ⟨PySem.W.mg_of X G a, ⟨pg, hd, po, sa⟩, mk, kc, ha, hn, ht, hm, ob, ne⟩
theorem exc_mk (X : K.In h) (G : h.Ns mainGlobals mg) (a : PySem.W.nsIn K mainGlobals x = some (some (.ref C))) (e : PySem.W.excIn K C [.type "ValueError", .type "Exception", .type "BaseException", .type "object"] "ValueError.__new__" = true) (k : PySem.W.keepIn K (.ref C) = true) (ty : PySem.W.typeIn K (.ref C) = some (.type "type"))
    (hg : PySem.W.findIn K (.ref C) "__getattribute__" = some (some (.builtin "BaseException.__getattribute__"))) (hk : PySem.W.findIn K (.ref C) "__getattr__" = some none) (hs : PySem.W.subIn K (.ref C) (.type "BaseException") = some true) (hd : PySem.W.hasDictIn K C = true)
    (ha : PySem.W.findIn K (.ref C) "__class__" = some (some (.builtin "object.__class__"))) (hn : PySem.W.specialIn K (.builtin "object.__class__") "__get__" = some (some (.builtin "getset_descriptor.__get__"))) (ht : PySem.W.takesIn K (.builtin "object.__class__") = some true) (hm : PySem.W.mroIn K C (.type "object") = some true) : ExcF K mg x C :=
  ⟨PySem.W.mg_of X G a, e, k, ty, ⟨hg, hk, hs, hd, ha, hn, ht, hm⟩⟩
theorem fun1_mk (X : K.In h) (G : h.Ns mainGlobals mg) {fa : Addr} (hm : mg x = some (.ref fa)) (a : PySem.W.nsIn K mainGlobals x = some (some (.ref f))) (l : K.lookup f = some ⟨oc, od, .func (PySem.W.fnOf x x (defArgs st) (defBody st) (defScope st) .none kV dc pm an cd ct), sl⟩)
    (c : PySem.W.codeIn K cd x = true) (k : PySem.W.keepIn K (.ref f) = true) : Fun K x x st fa (PySem.W.fnOf x x (defArgs st) (defBody st) (defScope st) .none kV dc pm an cd ct) := by
  have e := hm.symm.trans (PySem.W.mg_of X G a)
  cases e
  exact fun_mk (st := st) l c k
end
/-- the law's end: its def's promise -/
theorem end_walk {l : PySem.W.OpenLaw} {q : Program} {loose : List Str} {XP : (Str → Option Value) → Heap → Prop} {YP : World → Heap → Prop} {d : DefRec} {K : Params → PySem.W.Frag} {k : Nat} {x : Str} {sp : PySem.W.Frag → Sp} (hn : l.most = some 63) (hdf : d.params.defaults = []) (hr : Room k callerA)
    (hY : ∀ (w : World) (h : Heap), YP w h → (K w.params).In h)
    (hsp : ∀ (K : PySem.W.Frag) (H : Hp) (a : Addr) (ns : List Int), ns.length ≤ 63 → Only H → SqL K H a (ns.map V.int) → sp K [.ref a] H (fun v _ => v = .bl true) fun _ _ _ => False)
    (F : ∀ (w : World) (mg : Str → Option Value) (fa : Addr) (h : Heap), (K w.params).In h → h.Ns mainGlobals mg → mg d.name = some (.ref fa) →
      ∃ fd : FuncData, (∀ (s : Shared) (u : Value), BindsTo s fd ⟨[u], []⟩ [(x, u)]) ∧ ∀ base : Heap, (K w.params).In base → base.Ns mainGlobals mg → FnOk l.prog w (K w.params) mg base CX0 k fa fd [x] (sp (K w.params))) :
    PySem.W.WalkO q loose XP YP l.row.toRowW d [] (fun f vs => PySem.call f vs) := L2.walk_ofK (n := 63) hn (by decide) hdf hr hY F hsp fun _ _ _ _ z => z
end Cw
set_option Elab.async false
set_option linter.all false
set_option maxRecDepth 100000
set_option maxHeartbeats 4000000
/-! C.f(..), f a static method; o.f, f a property -/
namespace Cw
open PySem PySem.Spec L2
/-- the static method f of the class at C -/
structure StAt (K : PySem.W.Frag) (C : Addr) (f qual : Str) (st : Stmt) : Prop where
  ex : ∃ (mc : Value) (p g : Addr) (rest : List Value) (fd : FuncData), ClX.CRead K C mc ∧ PySem.W.findCls K (.ref C) mc f = some (.get (.builtin "staticmethod.__get__") (.ref p) .none (.ref C)) ∧ PySem.W.recIn K p "staticmethod" = some (.ref g :: rest) ∧ Fun K f qual st g fd
structure StDef (P : Program) (w : World) (K : PySem.W.Frag) (mg : Str → Option Value) (base : Heap) (CX : CXT) (k : Nat) (C : Addr) (f : Str) (sp : Sp) : Prop where
  ex : ∃ (mc : Value) (p g : Addr) (rest : List Value) (fd : FuncData) (ps : List Str), ClX.CRead K C mc ∧ PySem.W.findCls K (.ref C) mc f = some (.get (.builtin "staticmethod.__get__") (.ref p) .none (.ref C)) ∧ PySem.W.recIn K p "staticmethod" = some (.ref g :: rest) ∧ PySem.W.keepIn K (.ref g) = true ∧ Binds K fd ps [] ∧ FnOk P w K mg base CX k g fd ps sp
/-- the property f of the class at C -/
structure PrAt (K : PySem.W.Frag) (C : Addr) (f qual : Str) (st : Stmt) : Prop where
  ex : ∃ (p g : Addr) (fd : FuncData), PropOf K C f p g ∧ Fun K f qual st g fd
structure PrDef (P : Program) (w : World) (K : PySem.W.Frag) (mg : Str → Option Value) (base : Heap) (CX : CXT) (k : Nat) (C : Addr) (f : Str) (sp : Sp) : Prop where
  ex : ∃ (p g : Addr) (fd : FuncData) (ps : List Str), PropOf K C f p g ∧ Binds K fd ps [] ∧ FnOk P w K mg base CX k g fd ps sp
section
variable {P : Program} {w : World} {K : PySem.W.Frag} {mg : Str → Option Value} {base : Heap} {CX : CXT} {j k : Nat} {C : Addr} {f qual : Str} {ps N : List Str} {sp : Sp} {st : Stmt}
theorem StDef.mono (D : StDef P w K mg base CX j C f sp) (h : j ≤ k) : StDef P w K mg base CX k C f sp := by
  obtain ⟨mc, p, g, rest, fd, ps, a, b, c, d, e, F⟩ := D.ex
  exact ⟨mc, p, g, rest, fd, ps, a, b, c, d, e, F.mono h⟩
theorem PrDef.mono (D : PrDef P w K mg base CX j C f sp) (h : j ≤ k) : PrDef P w K mg base CX k C f sp := by
  obtain ⟨p, g, fd, ps, a, b, F⟩ := D.ex
  exact ⟨p, g, fd, ps, a, b, F.mono h⟩
theorem StAt.ok (F : StAt K C f qual st) (S : FnScope N ps (defScope st))
    (hb : ∀ (kV doc pm : Value) (an : Option Addr) (cdv ct : Value) (us : List Value), us.length = ps.length → bindArgs (PySem.W.fnOf f qual (defArgs st) (defBody st) (defScope st) .none kV doc pm an cdv ct) ⟨us, []⟩ = pure (ps.zip us))
    (len : ∀ vs H Q E, sp vs H Q E → vs.length = ps.length)
    (hbody : ∀ (f : Addr) (cdv : Value) (A : Around) (outer : List Env) (s : Shared) (H : Hp) (vs : List V) (Q : VK) (E : XK), Room k (A.deeper (PyProof.Rows.envOfC qual (defScope st) s.heap.objs.size f cdv)) → sp vs H Q E →
      ∃ t, PSs (cxOf CX0 P w K mg base N qual (defScope st) f cdv A outer s H E).nox (defBody st) t ∧ t { nx := fun _ H' => Q .non H', rt := Q } (start N vs) H) : StDef P w K mg base CX0 (k + 1) C f sp := by
  obtain ⟨mc, p, g, rest, fd, a, b, c, G⟩ := F.ex
  exact ⟨mc, p, g, rest, fd, ps, a, b, c, G.kp, G.binds hb, G.ok S len fun cdv A outer s H vs Q E hr h => hbody g cdv A outer s H vs Q E hr h⟩
theorem PrAt.ok (F : PrAt K C f qual st) (S : FnScope N ps (defScope st))
    (hb : ∀ (kV doc pm : Value) (an : Option Addr) (cdv ct : Value) (us : List Value), us.length = ps.length → bindArgs (PySem.W.fnOf f qual (defArgs st) (defBody st) (defScope st) .none kV doc pm an cdv ct) ⟨us, []⟩ = pure (ps.zip us))
    (len : ∀ vs H Q E, sp vs H Q E → vs.length = ps.length)
    (hbody : ∀ (f : Addr) (cdv : Value) (A : Around) (outer : List Env) (s : Shared) (H : Hp) (vs : List V) (Q : VK) (E : XK), Room k (A.deeper (PyProof.Rows.envOfC qual (defScope st) s.heap.objs.size f cdv)) → sp vs H Q E →
      ∃ t, PSs (cxOf CX0 P w K mg base N qual (defScope st) f cdv A outer s H E).nox (defBody st) t ∧ t { nx := fun _ H' => Q .non H', rt := Q } (start N vs) H) : PrDef P w K mg base CX0 (k + 1) C f sp := by
  obtain ⟨p, g, fd, a, G⟩ := F.ex
  exact ⟨p, g, fd, ps, a, G.binds hb, G.ok S len fun cdv A outer s H vs Q E hr h => hbody g cdv A outer s H vs Q E hr h⟩
end
section
variable {X : Cx} {CX : CXT} {k : Nat} {C : Addr} {x f : Str} {sp : Sp} {E : XK} {e o : Expr} {es : List Expr} {p apos pos : PySem.Pos} {t : TA} {ta : TE} {pl : Sem Bool}
end
end Cw
set_option Elab.async false
set_option linter.all false
set_option maxRecDepth 100000
set_option maxHeartbeats 4000000
/-! what the top has left: static methods and properties -/
namespace Cw
open PySem PySem.Spec L2
section
variable {K : PySem.W.Frag} {m qual : Str} {st : Stmt} {C p g : Addr} {rest : List Value} {oc kV dc pm cd ct : Value} {od an : Option Addr} {sl : Array (Option Value)}
end
end Cw
set_option Elab.async false
set_option linter.all false
set_option maxRecDepth 100000
set_option maxHeartbeats 4000000
/-! CwHeadK: the head with the law's heap told, by one run of the top over the tree -/
namespace CwTop
open PySem PySem.W PySem.Calls PyProof.Rows
/-- a hook named -/
def TagH (_ : Hook) : Prop := True
theorem headK {r : OpenRow} {q : Program} {K : Params → PySem.W.Frag} {as : List Addr} {ek : ∀ P, as = (K P).map (·.1)} {M : Nat} {loose : List PySem.Str} {d : DefRec} {kwd : List (PySem.Str × PySem.Expr)} (_ : TagH (kHook K as ek))
    (e : opening r.prog = plainProg r.prog.main.scope.names) (f : ∀ s, fenceModules? r.prog s = some s) (run : ∀ w, HandSHeadRun.RunEq r q (kHook K as ek) (fun s => as.map (HandSHeadRun.getT s)) M loose w)
    (hdef : defOf q r.name = some (d, kwd)) (hp : r.prog.theDef r.name = some (d.params, d.body, d.scope)) (hk : kwWritten? d.params.kwonlyargs d.params.kw_defaults = some kwd)
    (hwr : (!r.writes || r.records.isEmpty) = true) (k1 : r.wellSaid = true) (ok : (chainsOk q && opensWell r.prog && (frees r.toRowW && r.within.isEmpty)) = true) (hb : r.prog.bare) (hw : r.toRowW.promised)
    (call : WalkO q loose (XL q []) (kHook K as ek).says r.toRowW d kwd fun f vs => PySem.call f vs) : r.Holds :=
  HandSHeadRun.head_any (ob := fun s => as.map (HandSHeadRun.getT s)) (fun s => List.map_congr_left fun a _ => HandSHeadRun.getT_eq s a) e f run hdef hp hk hwr k1 ok hb hw call
end CwTop
set_option Elab.async false
set_option linter.all false
set_option maxRecDepth 100000
namespace CwTop
open PySem PySem.W PySem.Calls PyProof.Rows
abbrev topRow : OpenRow := OpenLaw.row PySem.Challenge.rw_crosswalls_k74_ways_of_closed_floors
abbrev topView : Program := view topRow.prog [topRow.prog.main.body.length - 1]
def topLoose : List PySem.Str := topRow.prog.boundNames.filter fun x => x != topRow.name
end CwTop
open PySem PySem.W PySem.Calls PyProof.Rows in
local macro_rules | `(tactic| o_head $H) => `(tactic| refine CwTop.headK (r := CwTop.topRow) (q := CwTop.topView) (M := 9000) (loose := CwTop.topLoose) (show CwTop.TagH $H from trivial) (by kernel_rfl) (fun s => by kernel_rfl) (fun w => by intro os; kernel_rfl) (by rfl) (by rfl) (by rfl) (by rfl) (by first | assumption | decide +kernel) (by decide +kernel) ⟨rfl, rfl, rfl, rfl, rfl, by decide +kernel⟩ ?hw ?hc)
open PySem PySem.W PyProof.Rows in
set_option maxHeartbeats 0 in
open_top Cw.headOf for PySem.Challenge.rw_crosswalls_k74_ways_of_closed_floors
set_option Elab.async false
set_option linter.all false
set_option maxRecDepth 100000
set_option maxHeartbeats 4000000
namespace Cw
open PySem PySem.Spec L2
local macro_rules | `(tactic| walk_at "side") => `(tactic| first | omega | assumption | (dsimp only; omega) | (unfold CMul; omega) | exact ⟨by decide, by decide, by decide⟩ | exact wdiv (by first | assumption | decide | omega) (by first | assumption | decide | omega) | (simp only [List.length_cons, List.length_nil]; omega) | rfl)
local macro_rules | `(tactic| walk_at "hl") => `(tactic| first | assumption | exact upd_same | ((refine Cw.Same.at (by assumption) ?_); walk_at "hl") | ((refine Cw.Keep.at (by assumption) ?_ (by assumption)); walk_at "hl"))
local macro_rules | `(tactic| walk_at "st") => `(tactic| first
  | (with_reducible refine s_seq ?_) | (with_reducible refine g_nm ?_) | (with_reducible refine s_next ?_) | (with_reducible refine s_set ?_) | (with_reducible refine s_drop ?_) | (with_reducible refine s_ret ?_) | (with_reducible refine s_if ?_)
  | ((with_reducible refine e_varG ?_); refine ⟨_, (by with_unfolding_all rfl), ?_⟩) | (with_reducible refine e_c ?_) | (with_reducible refine e_op ?_) | (with_reducible refine e_un ?_)
  | (with_reducible refine e_cons ?_) | (with_reducible refine e_nil ?_) | (with_reducible refine e_cb ?_) | (with_reducible refine e_call ?_) | (with_reducible refine e_md ?_)
  | (with_reducible refine t_test ?_) | (with_reducible refine t_B ?_) | (with_reducible refine t_and ?_) | (with_reducible refine t_or ?_) | (with_reducible refine t_not ?_)
  | (with_reducible refine e_andV ?_) | (with_reducible refine e_orV ?_) | (with_reducible refine e_notV ?_) | (with_reducible refine e_if ?_)
  | (with_reducible refine v_I0 ?_) | ((with_reducible refine v_I ?c ?_); try (case c => walk_at "side")) | (with_reducible refine v_bl ?_)
  | ((with_reducible refine v_eq ?c ?_); (case c => with_unfolding_all rfl)) | ((with_reducible refine v_ne ?c ?_); (case c => with_unfolding_all rfl))
  | (with_reducible refine v_inti ?_) | (with_reducible refine v_intb ?_) | ((with_reducible refine v_lenG ?_); refine ⟨_, (by walk_at "hl"), ?_⟩)
  | ((with_reducible refine v_lenS ?c ?_); try (case c => walk_at "side"))
  | (with_reducible refine e_dnew ?_) | (with_reducible refine e_dget ?_) | (with_reducible refine s_dput ?_) | (with_reducible refine e_lst ?_) | (with_reducible refine e_tup ?_)
  | ((with_reducible refine v_lst ?c ?_); (case c => walk_at "side")) | ((with_reducible refine v_tup ?c ?_); (case c => walk_at "side"))
  | ((with_reducible refine v_dgetG ?_); refine ⟨_, (by assumption), ?_⟩)
  | (with_reducible refine e_sl ?_) | (with_reducible refine e_nopart ?_) | (with_reducible refine e_part ?_) | (with_reducible refine e_m1 ?_) | (with_reducible refine v_isS ?_) | (with_reducible refine v_int ?_)
  | (with_reducible refine e_lc ?_) | (with_reducible refine e_iStr ?_) | (with_reducible refine e_iEnumS ?_) | (with_reducible refine v_iEnumS ?_) | (with_reducible refine v_str ?_) | (with_reducible refine e_yes ?_) | (with_reducible refine e_fld ?_) | (with_reducible refine e_sfld ?_)
  | ((with_reducible refine v_addS ?c ?_); try (case c => walk_at "side")) | (with_reducible refine v_inS ?_) | (with_reducible refine v_notInS ?_) | (with_reducible refine v_ltS ?_)
  | ((with_reducible refine v_inLG ?_); refine ⟨_, (by walk_at "hl"), ?_⟩) | (with_reducible refine v_isiS ?_) | (with_reducible refine e_revS ?_) | ((with_reducible refine v_revS ?c ?_); try (case c => walk_at "side"))
  | ((with_reducible refine v_lenSetG ?_); refine ⟨_, (by walk_at "hl"), ?_⟩)
  | (with_reducible refine e_bm ?_) | (with_reducible refine e_bm0 ?_) | ((with_reducible refine v_tyLG ?_); refine ⟨_, (by walk_at "hl"), ?_⟩)
  | (with_reducible refine iteNT ?_) | (with_reducible refine iteNF ?_) | (with_reducible refine e_for ?_)
  | (with_reducible refine e_iL ?_) | (with_reducible refine e_iT ?_) | ((with_reducible refine v_iLG ?_); refine ⟨_, (by walk_at "hl"), ?_⟩) | (with_reducible refine e_iR1 ?_) | ((with_reducible refine v_iR1 ?c1 ?c2 ?_); try (case c1 => walk_at "side"); try (case c2 => walk_at "side"))
  | (with_reducible refine e_iR2 ?_) | ((with_reducible refine v_iR2 ?c1 ?_); try (case c1 => walk_at "side"))
  | (with_reducible refine e_pr0 ?_) | (with_reducible refine e_pr ?_) | (with_reducible refine e_disp ?_) | (with_reducible refine s_asgT ?_) | (with_reducible refine e_tryA ?_) | (with_reducible refine e_callS ?_) | (with_reducible refine e_mdS ?_) | (with_reducible refine e_par ?_) | (with_reducible refine v_par ?_) | (with_reducible refine e_par3 ?_) | (with_reducible refine v_par3 ?_) | (with_reducible refine e_iK ?_) | (with_reducible refine e_dnotin ?_)
  | (with_reducible refine iteT ?_) | (with_reducible refine iteF ?_))
local macro_rules | `(tactic| walk_at "go") => `(tactic| repeat walk_at "st")
section
open PySem PySem.Spec L2
def top (i : Nat) : Stmt := PySem.Challenge.pw_crosswalls_k74_ways_of_closed_floors.main.body.getD i (.Pass ⟨0, 0, 0, 0⟩)
/-! ### the pen -/
def penL (cl : Addr) (a r : Int) : List (Key × V) := [(Sum.inr "cells", .ref cl), (Sum.inr "begun", .int a), (Sum.inr "left", .int r)]
structure Pen where
  p : Addr
  cl : Addr
  cells : List Int
structure PenAt (g : Pen) (H : Hp) (n : Nat) : Prop where
  ex : ∃ (a r : Int), H g.p = some (.dK (penL g.cl a r)) ∧ H g.cl = some (.lst (g.cells.map V.int)) ∧ g.cells.length ≤ 63 ∧ 0 ≤ a ∧ a ≤ n ∧ 0 ≤ r
section
variable {g : Pen} {H H' : Hp} {n m : Nat} {q : Addr}
theorem PenAt.mono (h : PenAt g H n) (l : n ≤ m) : PenAt g H m := by
  obtain ⟨a, r, h1, h2, h3, h4, h5, h6⟩ := h.ex
  exact ⟨a, r, h1, h2, h3, h4, by omega, h6⟩
theorem PenAt.same (h : PenAt g H n) (s : Same H H') : PenAt g H' n := by
  obtain ⟨a, r, h1, h2, h3, h4, h5, h6⟩ := h.ex
  exact ⟨a, r, s _ _ h1, s _ _ h2, h3, h4, h5, h6⟩
theorem PenAt.keep (h : PenAt g H n) (s : Keep q H H') (n1 : g.p ≠ q) (n2 : g.cl ≠ q) : PenAt g H' n := by
  obtain ⟨a, r, h1, h2, h3, h4, h5, h6⟩ := h.ex
  exact ⟨a, r, s _ _ h1 n1, s _ _ h2 n2, h3, h4, h5, h6⟩
theorem PenAt.p_ne (h : PenAt g H n) (s : H q = none) : g.p ≠ q := by
  obtain ⟨a, r, h1, h2, h3, h4, h5, h6⟩ := h.ex
  exact ne_of_none h1 s
theorem PenAt.cl_ne (h : PenAt g H n) (s : H q = none) : g.cl ≠ q := by
  obtain ⟨a, r, h1, h2, h3, h4, h5, h6⟩ := h.ex
  exact ne_of_none h2 s
end
theorem kcp : ¬ ((Sum.inr ("cells" : Str) : Key) = Sum.inr ("begun" : Str)) := by decide +kernel
theorem kcr : ¬ ((Sum.inr ("cells" : Str) : Key) = Sum.inr ("left" : Str)) := by decide +kernel
theorem kpr : ¬ ((Sum.inr ("begun" : Str) : Key) = Sum.inr ("left" : Str)) := by decide +kernel
section
variable {H : Hp} {p cl : Addr} {a r z : Int}
theorem pen_cells (h : H p = some (.dK (penL cl a r))) : DGet H p (.str "cells") (some (.ref cl)) := by
  have e := DGet.k (k := Sum.inr "cells") h
  rw [penL, valV_pos rfl] at e
  exact e
theorem pen_place (h : H p = some (.dK (penL cl a r))) : DGet H p (.str "begun") (some (.int a)) := by
  have e := DGet.k (k := Sum.inr "begun") h
  rw [penL, valV_neg kcp, valV_pos rfl] at e
  exact e
theorem pen_rest (h : H p = some (.dK (penL cl a r))) : DGet H p (.str "left") (some (.int r)) := by
  have e := DGet.k (k := Sum.inr "left") h
  rw [penL, valV_neg kcr, valV_neg kpr, valV_pos rfl] at e
  exact e
theorem put_place : putK (penL cl a r) (Sum.inr "begun") (.int z) = penL cl z r := by
  unfold putK penL
  rw [if_pos (by rw [valV_any]; first | (rw [valV_neg kcp, valV_pos rfl] <;> rfl) | (rw [valV_neg kcr, valV_neg kpr, valV_pos rfl] <;> rfl))]
  show [(if _ then _ else _), (if _ then _ else _), (if _ then _ else _)] = _
  rw [if_neg kcp, if_pos rfl, if_neg (fun e => kpr e.symm)]
theorem put_rest : putK (penL cl a r) (Sum.inr "left") (.int z) = penL cl a z := by
  unfold putK penL
  rw [if_pos (by rw [valV_any]; first | (rw [valV_neg kcp, valV_pos rfl] <;> rfl) | (rw [valV_neg kcr, valV_neg kpr, valV_pos rfl] <;> rfl))]
  show [(if _ then _ else _), (if _ then _ else _), (if _ then _ else _)] = _
  rw [if_neg kcr, if_neg kpr, if_pos rfl]
theorem pen_setPlace (h : H p = some (.dK (penL cl a r))) : DPut H p (.str "begun") (.int z) (upd H p (.dK (penL cl z r))) := by
  have e := DPut.k (k := Sum.inr "begun") (v := .int z) h (by show 3 < sizeLine; decide)
  rw [put_place] at e
  exact e
theorem pen_setRest (h : H p = some (.dK (penL cl a r))) : DPut H p (.str "left") (.int z) (upd H p (.dK (penL cl a z))) := by
  have e := DPut.k (k := Sum.inr "left") (v := .int z) h (by show 3 < sizeLine; decide)
  rw [put_rest] at e
  exact e
end
/-! ### the module's built-in names -/
structure Txt (K : PySem.W.Frag) (mg : Str → Option Value) : Prop where
  len : mg "len" = none
  int : mg "int" = none
  list : mg "list" = none
def spDraw : Sp := fun vs H Q _ => ∃ (g : Pen) (m : Int) (n : Nat), vs = [.ref g.p, .int m] ∧ 0 < m ∧ m < 1000000 ∧ PenAt g H n ∧ n < 1000000 ∧
  ∀ (z : Int) (H' : Hp), 0 ≤ z → z < m → PenAt g H' (n + 1) → Keep g.p H H' → Q (.int z) H'
section
variable {P : Program} {w : World} {K : PySem.W.Frag} {mg : Str → Option Value} {base : Heap}
end
end
section
open PySem PySem.Spec L2
def spPen (K : PySem.W.Frag) : Sp := fun vs H Q _ => ∃ (a : Addr) (ns : List Int), vs = [.ref a] ∧ SqL K H a (ns.map V.int) ∧ ns.length ≤ 63 ∧ ∀ (g : Pen) (H' : Hp), PenAt g H' 0 → Same H H' → H g.p = none → Q (.ref g.p) H'
theorem cut_ints (ns : List Int) (lo hi : Option Int) : ∃ ms : List Int, cutV (ns.map V.int) lo hi = ms.map V.int ∧ ms.length ≤ ns.length := by
  unfold cutV
  rw [← List.map_drop, ← List.map_take]
  refine ⟨_, rfl, ?_⟩
  rw [List.length_take, List.length_drop]
  omega
section
variable {P : Program} {w : World} {K : PySem.W.Frag} {mg : Str → Option Value} {base : Heap}
abbrev stpen : Stmt := (top 52)
abbrev Npen : List Str := ["_law_script"]
theorem scpen : FnScope Npen ["_law_script"] (defScope stpen) := ⟨rfl, rfl, rfl, by decide +kernel, rfl, by decide +kernel, by decide +kernel⟩

theorem ok_pen (F : FnAt K mg "_law_begin" stpen) (T : Txt K mg) : Def P w K mg base CX0 1 "_law_begin" ["_law_script"] (spPen K) := by
  refine F.ok scpen (fun _ _ _ _ _ _ us hl => match us, hl with | [_], _ => rfl) (fun vs H Q E h => ?_) (fun f cdv A outer s H vs Q E hr h => ?_)
  · obtain ⟨a, ns, rfl, _⟩ := h
    rfl
  obtain ⟨a, ns, rfl, ha, hn, k⟩ := h
  have hu := hu_of hr
  have nd := scpen.nd
  refine ⟨_, (pss_one (ps_ret (pe_disp (pps_cons pe_str (pe_callTy (c_listK (K := K) rfl) (by rfl) T.list (by decide +kernel) (pa_cons (pe_slice (sl_LK (K := K) rfl) (pv 0) po_none (po_some pe_int)) pa_nil)) (pps_cons pe_str pe_int (pps_cons pe_str pe_int pps_nil))) (by rfl) (by rfl) (fun z => by cases z) (by decide)))), ?_⟩
  refine s_start [some _] rfl ?_
  walk_at "go"
  intro p hp
  have s1 : Same H (upd H p (.dK [])) := Same.new hp
  obtain ⟨ms, e1, l1⟩ := cut_ints ns none (some 63)
  walk_at "go"
  refine v_slL (sqL_same ha s1) fun b H2 hb s2 e2 => ?_
  rw [e1] at e2
  walk_at "go"
  refine v_list (SqL.of e2) fun c H3 hc s3 e3 => ?_
  walk_at "go"
  have ep : H3 p = some (.dK []) := s3 _ _ (s2 _ _ upd_same)
  refine ⟨ep, [(Sum.inr "cells", .ref c), (Sum.inr "begun", .int 0), (Sum.inr "left", .int 0)], rfl, (by show 3 ≤ 15; decide), ?_⟩
  have hcp : c ≠ p := (ne_of_none (s2 _ _ upd_same) hc).symm
  have em : mergeK [] [(Sum.inr ("cells" : Str), V.ref c), (Sum.inr ("begun" : Str), .int 0), (Sum.inr ("left" : Str), .int 0)] = penL c 0 0 := by
    unfold mergeK penL
    rw [List.foldl_cons, List.foldl_cons, List.foldl_cons, List.foldl_nil]
    rw [putK_new (k := Sum.inr ("cells" : Str)) _ rfl, putK_new (k := Sum.inr ("begun" : Str)) _ (by rw [List.nil_append, valV_neg kcp]; rfl), putK_new (k := Sum.inr ("left" : Str)) _ (by rw [List.nil_append, List.cons_append, valV_neg kcr, List.nil_append, valV_neg kpr]; rfl)]
    rfl
  rw [em]
  have s4 : Same H (upd H3 p (.dK (penL c 0 0))) := fun b' o hb' => by
    rw [upd_ne (ne_of_none hb' hp)]
    exact s3 _ _ (s2 _ _ (s1 _ _ hb'))
  refine k ⟨p, c, ms⟩ _ ⟨0, 0, upd_same, ?_, by show ms.length ≤ 63; omega, by omega, by omega, by omega⟩ s4 hp
  show upd H3 p _ c = _
  rw [upd_ne hcp]
  exact e3
end
end
section
open PySem PySem.Spec L2
structure TxtP (K : PySem.W.Frag) (mg : Str → Option Value) (C : Addr) : Prop where
  len : mg "len" = none
  int : mg "int" = none
  list : mg "list" = none
  isinstance : mg "isinstance" = none
  str : mg "str" = none
  all : mg "all" = none
  set : mg "set" = none
  tuple : mg "tuple" = none
  g_LETTERS : ∃ t, mg "LETTERS" = some (.str (tx LET) t)
  g_MOST_KINDS : ∃ t, mg "MOST_KINDS" = some (.int 8 t)
  Plan : ClsF K mg "Plan" C
  nK : NoAttr K C "kinds"
  nP : NoAttr K C "pairs"
  nO : NoAttr K C "own_crossing"
def spAreLetters : Sp := fun vs H Q _ => ∃ l : List Nat, vs = [.str (tx l)] ∧ l.length < 1000 ∧ ∀ H', Same H H' → Q (.bl (decide ((∀ c ∈ l, c ∈ LET) ∧ l.Nodup))) H'
def spAscending : Sp := fun vs H Q _ => ∃ l : List Nat, vs = [.str (tx l)] ∧ ∀ H', Same H H' → Q (.str (tx (ascOf l))) H'
def spIsList (K : PySem.W.Frag) : Sp := fun vs H Q _ => ∃ (p : Addr) (xs : List V), vs = [.ref p] ∧ SeqO K H p xs ∧ ∀ H', Same H H' → Q (.bl true) H'
def spNeedFew : Sp := fun vs H Q _ => ∃ l : List Nat, vs = [.str (tx l)] ∧ l.length ≤ 8 ∧ Q .non H
section
variable {P : Program} {w : World} {K : PySem.W.Frag} {mg : Str → Option Value} {base : Heap} {C : Addr}
abbrev stare_letters : Stmt := (top 29)
abbrev Nare_letters : List Str := ["value", "letter"]
theorem scare_letters : FnScope Nare_letters ["value"] (defScope stare_letters) := ⟨rfl, rfl, rfl, by decide +kernel, rfl, by decide +kernel, by decide +kernel⟩

theorem ok_are_letters (F : FnAt K mg "are_letters" stare_letters) (T : TxtP K mg C) : Def P w K mg base CX0 1 "are_letters" ["value"] spAreLetters := by
  refine F.ok scare_letters (fun _ _ _ _ _ _ us hl => match us, hl with | [_], _ => rfl) (fun vs H Q E h => ?_) (fun f cdv A outer s H vs Q E hr h => ?_)
  · obtain ⟨l, rfl, _⟩ := h
    rfl
  obtain ⟨l, rfl, hl, k⟩ := h
  have hu := hu_of hr
  have nd := scare_letters.nd
  refine ⟨_, (pss_one (ps_ret (pe_and (pe_callB (c_isiK (K := K) rfl) (by rfl) T.isinstance (by decide +kernel) (pa_cons (pv 0) (pa_cons (pe_bltn (v := .ty "str") (u := .type "str") (by rfl) T.str (by decide +kernel) rfl) pa_nil))) (pe_and (pe_callB (c_allK (K := K) rfl rfl) (by rfl) T.all (by decide +kernel) (pa_cons (pe_lc (own := [("letter", 1)]) (g := gName 1) (by rfl) nd (pi_str (pv 0)) (blkOk_by (own := [("letter", 1)]) (N := Nare_letters) (sc := defScope stare_letters) (by decide +kernel)) (fun _ _ _ _ _ => (pg_name (i := 1) nd rfl (Or.inl rfl))) (fun _ _ _ _ _ => pts_nil) (fun _ _ _ _ _ => (pe_cmpR op_inS (pv 1) (pe_globS T.g_LETTERS) (by rfl)))) pa_nil)) (pe_one (pe_cmpR op_eq (pe_callB c_lenSet (by rfl) T.len PySem.boot_len (pa_cons (pe_callTy (c_setS rfl) (by rfl) T.set (by decide +kernel) (pa_cons (pv 0) pa_nil)) pa_nil)) (pe_callB c_lenS (by rfl) T.len PySem.boot_len (pa_cons (pv 0) pa_nil)) (nomark _))))))), ?_⟩
  refine s_start [some _, none] rfl ?_
  walk_at "go"
  refine v_lcS (b := fun _ => true) (f := fun c => V.bl (decide (c ∈ LET))) (by omega) (fun c _ H1 s1 R r => ?_) (fun c _ _ H1 s1 R r => ?_) (fun D H1 hD s1 e1 => ?_)
  · walk_at "go"
    exact r H1 (Same.refl _)
  · walk_at "go"
    exact r H1 (Same.refl _)
  walk_at "go"
  have e2 : H1 D = some (.lst ((l.map fun c => decide (c ∈ LET)).map V.bl)) := by
    rw [e1, List.map_map, filter_yes]
    rfl
  refine v_all e2 ?_
  walk_at "go"
  have ha : (l.map fun c => decide (c ∈ LET)).all id = decide (∀ c ∈ l, c ∈ LET) := by
    rw [Bool.eq_iff_iff, List.all_eq_true, decide_eq_true_iff]
    simp
  rw [ha]
  refine if_dec (fun c => ?_) (fun c => ?_)
  · walk_at "go"
    refine v_setS (by omega) fun p H2 hp s2 e2 => ?_
    walk_at "go"
    have e3 : decide (V.int ((metOf (l.map fun c => tx [c])).length : Int) = V.int (l.length : Int)) = decide ((∀ c ∈ l, c ∈ LET) ∧ l.Nodup) := by
      rw [dec_int, Bool.eq_iff_iff, decide_eq_true_iff, beq_iff_eq]
      have := metOf_ones l
      constructor
      · intro e
        exact ⟨c, this.mp (by omega)⟩
      · intro e
        have := this.mpr e.2
        omega
    rw [e3]
    exact k H2 (s1.trans s2)
  · have e3 : decide ((∀ c ∈ l, c ∈ LET) ∧ l.Nodup) = false := decide_eq_false fun z => c z.1
    rw [e3] at k
    exact k H1 s1
abbrev stascending : Stmt := (top 30)
abbrev Nascending : List Str := ["letters", "letter"]
theorem scascending : FnScope Nascending ["letters"] (defScope stascending) := ⟨rfl, rfl, rfl, by decide +kernel, rfl, by decide +kernel, by decide +kernel⟩

theorem ok_ascending (F : FnAt K mg "ascending" stascending) (T : TxtP K mg C) : Def P w K mg base CX0 1 "ascending" ["letters"] spAscending := by
  refine F.ok scascending (fun _ _ _ _ _ _ us hl => match us, hl with | [_], _ => rfl) (fun vs H Q E h => ?_) (fun f cdv A outer s H vs Q E hr h => ?_)
  · obtain ⟨l, rfl, _⟩ := h
    rfl
  obtain ⟨l, rfl, k⟩ := h
  have hu := hu_of hr
  have nd := scascending.nd
  refine ⟨_, (pss_one (ps_ret (pe_joinK (K := K) rfl (pe_tx [] (by decide +kernel)) (pe_lc (own := [("letter", 1)]) (g := gName 1) (by rfl) nd (pi_str (pe_globS T.g_LETTERS)) (blkOk_by (own := [("letter", 1)]) (N := Nascending) (sc := defScope stascending) (by decide +kernel)) (fun _ _ _ _ _ => (pg_name (i := 1) nd rfl (Or.inl rfl))) (fun _ _ _ _ _ => (pts_one (pt_cmpR op_inS (pv 1) (pv 0) (by rfl)))) (fun _ _ _ _ _ => (pv 1)))))), ?_⟩
  refine s_start [some _, none] rfl ?_
  walk_at "go"
  refine v_lcS (l := LET) (b := fun c => decide (c ∈ l)) (f := fun c => V.str (tx [c])) (by decide) (fun c _ H1 s1 R r => ?_) (fun c _ _ H1 s1 R r => ?_) (fun D H1 hD s1 e1 => ?_)
  · walk_at "go"
    exact r H1 (Same.refl _)
  · walk_at "go"
    exact r H1 (Same.refl _)
  walk_at "go"
  rw [strs_ones] at e1
  refine v_join e1 ?_ ?_
  · rw [flat_ones]
    have := ascOf_len l
    unfold ascOf at this
    omega
  · rw [flat_ones]
    exact k H1 s1
abbrev stis_list : Stmt := (top 21)
abbrev Nis_list : List Str := ["value"]
theorem scis_list : FnScope Nis_list ["value"] (defScope stis_list) := ⟨rfl, rfl, rfl, by decide +kernel, rfl, by decide +kernel, by decide +kernel⟩

theorem ok_is_list (F : FnAt K mg "is_list" stis_list) (T : TxtP K mg C) : Def P w K mg base CX0 1 "is_list" ["value"] (spIsList K) := by
  refine F.ok scis_list (fun _ _ _ _ _ _ us hl => match us, hl with | [_], _ => rfl) (fun vs H Q E h => ?_) (fun f cdv A outer s H vs Q E hr h => ?_)
  · obtain ⟨p, xs, rfl, _⟩ := h
    rfl
  obtain ⟨p, xs, rfl, hp, k⟩ := h
  have hu := hu_of hr
  have nd := scis_list.nd
  refine ⟨_, (pss_one (ps_ret (pe_callB (c_isiTK (K := K) rfl) (by rfl) T.isinstance (by decide +kernel) (pa_cons (pv 0) (pa_cons (pe_tup (pa_cons (pe_bltn (v := .ty "list") (u := .type "list") (by rfl) T.list (by decide +kernel) rfl) (pa_cons (pe_bltn (v := .ty "tuple") (u := .type "tuple") (by rfl) T.tuple (by decide +kernel) rfl) pa_nil))) pa_nil))))), ?_⟩
  refine s_start [some _] rfl ?_
  walk_at "go"
  intro t H1 ht s1 e1
  walk_at "go"
  exact v_isiQ (hp.same s1) e1 (k H1 s1)
abbrev stneed_few : Stmt := (top 33)
abbrev Nneed_few : List Str := ["kinds"]
theorem scneed_few : FnScope Nneed_few ["kinds"] (defScope stneed_few) := ⟨rfl, rfl, rfl, by decide +kernel, rfl, by decide +kernel, by decide +kernel⟩

theorem ok_need_few (F : FnAt K mg "need_few" stneed_few) (T : TxtP K mg C) : Def P w K mg base CX0 1 "need_few" ["kinds"] spNeedFew := by
  refine F.ok scneed_few (fun _ _ _ _ _ _ us hl => match us, hl with | [_], _ => rfl) (fun vs H Q E h => ?_) (fun f cdv A outer s H vs Q E hr h => ?_)
  · obtain ⟨l, rfl, _⟩ := h
    rfl
  obtain ⟨l, rfl, hl, k⟩ := h
  have hu := hu_of hr
  have nd := scneed_few.nd
  refine ⟨_, (pss_one (ps_if (pt_cmpR op_gt (pe_callB c_lenS (by rfl) T.len PySem.boot_len (pa_cons (pv 0) pa_nil)) (pe_globI T.g_MOST_KINDS) (nomark _))
      (pss_one ps_never)
      pss_nil)), ?_⟩
  refine s_start [some _] rfl ?_
  walk_at "go"
  refine if_dec (fun c => ?_) (fun c => ?_)
  · omega
  · walk_at "go"
    exact k
end
end
section
open PySem PySem.Spec L2
def spChecked (K : PySem.W.Frag) : Sp := fun vs H Q _ => ∃ (ks : List Nat) (p : Addr) (ps : List (List Nat)), vs = [.str (tx ks), .ref p] ∧ SeqO K H p (strsV ps) ∧ ps.length < 1000 ∧ PairsIn ks ps ∧ (∀ c ∈ ks, c ∈ LET) ∧
  ∀ t H', H t = none → Same H H' → H' t = some (.tup (strsV (pairsOf (ps.map ascOf)))) → Q (.ref t) H'
def spCross : Sp := fun vs H Q _ => ∃ (ks : List Nat) (t : Addr) (ps : List (List Nat)), vs = [.str (tx ks), .ref t] ∧ H t = some (.tup (strsV ps)) ∧ ks.length < 1000 ∧ ks.Nodup ∧
  ∀ d H', H d = none → Same H H' → H' d = some (.dK (crossKV ks ps ks)) → Q (.ref d) H'
section
variable {P : Program} {w : World} {K : PySem.W.Frag} {mg : Str → Option Value} {base : Heap} {C : Addr}
abbrev stchecked_pairs : Stmt := (top 31)
abbrev Nchecked_pairs : List Str := ["kinds", "crossing", "found", "pair", "a", "b"]
theorem scchecked_pairs : FnScope Nchecked_pairs ["kinds", "crossing"] (defScope stchecked_pairs) := ⟨rfl, rfl, rfl, by decide +kernel, rfl, by decide +kernel, by decide +kernel⟩

theorem ok_checked_pairs (F : FnAt K mg "checked_pairs" stchecked_pairs) (T : TxtP K mg C) (D_is_list : Def P w K mg base CX0 1 "is_list" ["value"] (spIsList K)) (D_are_letters : Def P w K mg base CX0 1 "are_letters" ["value"] spAreLetters) (D_ascending : Def P w K mg base CX0 1 "ascending" ["letters"] spAscending) :
    Def P w K mg base CX0 2 "checked_pairs" ["kinds", "crossing"] (spChecked K) := by
  refine F.ok scchecked_pairs (fun _ _ _ _ _ _ us hl => match us, hl with | [_, _], _ => rfl) (fun vs H Q E h => ?_) (fun f cdv A outer s H vs Q E hr h => ?_)
  · obtain ⟨ks, p, ps, rfl, _⟩ := h
    rfl
  obtain ⟨ks, p, ps, rfl, hp, hl, hps, hks, k⟩ := h
  have hu := hu_of hr
  have nd := scchecked_pairs.nd
  refine ⟨_, (pss_cons (ps_if (pt_not (pt_val (pe_cd D_is_list hr pass0 (pa_cons (pv 1) pa_nil))))
      (pss_one ps_never)
      pss_nil)
      (pss_cons (ps_set (i := 2) nd rfl (Or.inr rfl) (pe_lst pa_nil))
      (pss_cons (ps_for PassesOwn.never rfl (pi_or (pi_listK (K := K) rfl (pv 1)) (pi_tupK (K := K) rfl (pv 1))) (pg_name (i := 3) nd rfl (Or.inl rfl))
      (pss_cutS (ps_if (PW.pt (pw_or (pt_not (pt_val (pe_callB (c_isiK (K := K) rfl) (by rfl) T.isinstance (by decide +kernel) (pa_cons (pv 3) (pa_cons (pe_bltn (v := .ty "str") (u := .type "str") (by rfl) T.str (by decide +kernel) rfl) pa_nil))))) (pw_or (pt_cmpR op_ne (pe_callB c_lenS (by rfl) T.len PySem.boot_len (pa_cons (pv 3) pa_nil)) pe_int (nomark _)) (pw_or1 (pt_not (pt_val (pe_cd D_are_letters hr pass0 (pa_cons (pv 3) pa_nil))))))))
        (pss_one ps_never)
        pss_nil)
        (pss_cutS (ps_if (PW.pt (pw_or (pt_cmpR op_notInS (pe_ix ix_str (pv 3) pe_int (fun _ _ => rfl)) (pv 0) (by rfl)) (pw_or1 (pt_cmpR op_notInS (pe_ix ix_str (pv 3) pe_int (fun _ _ => rfl)) (pv 0) (by rfl)))))
        (pss_one ps_never)
        pss_nil)
        (pss_one (ps_expr (pe_appK (K := K) rfl (pv 2) (pe_cd D_ascending hr pass0 (pa_cons (pv 3) pa_nil))))))))
      (pss_one (ps_ret (pe_callTy (c_tupleK (K := K) rfl) (by rfl) T.tuple (by decide +kernel) (pa_cons (pe_lc2 (own := [("a", 4), ("b", 5)]) (vs1 := [5]) (by rfl) nd (pi_str (pe_globS T.g_LETTERS)) (blkOk_by (own := [("a", 4), ("b", 5)]) (N := Nchecked_pairs) (sc := defScope stchecked_pairs) (by decide +kernel)) (by decide) (fun _ _ _ _ _ => (pg_name (i := 4) nd rfl (Or.inl rfl))) (fun _ _ _ _ _ => pts_nil) (fun _ _ _ _ _ => (pi_str (pe_globS T.g_LETTERS))) (fun _ _ _ _ _ => (pg_name (i := 5) nd rfl (Or.inl rfl))) (fun _ _ _ _ _ => (pts_one (pt_cmpR (op_inLK (K := K) rfl) (pe_op op_addS (pv 4) (pv 5)) (pv 2) (by rfl)))) (fun _ _ _ _ _ => (pe_op op_addS (pv 4) (pv 5)))) pa_nil))))))), ?_⟩
  refine s_start [some _, some _, none, none, none, none] rfl ?_
  walk_at "go"
  refine ⟨p, _, rfl, hp, fun H1 s1 => ?_⟩
  walk_at "go"
  intro q H2 hq s2 e2
  walk_at "go"
  refine e_forSeq (xs := strsV ps) hp (s1.trans s2) (fun Q q => by walk_at "go"; exact q) (fun k σ H' => ∃ x, σ = [some (.str (tx ks)), some (.ref p), some (.ref q), x, none, none] ∧ Same H H' ∧ H' q = some (.lst (strsV ((ps.take k).map ascOf)))) ⟨_, rfl, s1.trans s2, e2⟩ ?_ ?_ ?_
  · rintro i σ H' ⟨x, rfl, s3, e3⟩
    exact s3
  · rintro i v σ H3 H4 hi ⟨x, rfl, s3, e3⟩ ⟨rfl, hv⟩
    have hi' : i < ps.length := by simpa using hi
    obtain ⟨a, b, hab, hne, ha, hb⟩ := hps _ (List.getElem_mem hi')
    have hv' : v = .str (tx [a, b]) := by
      have : (strsV ps)[i]? = some (V.str (tx ps[i])) := by
        rw [List.getElem?_map, List.getElem?_eq_getElem hi']
        rfl
      rw [hv, hab] at this
      exact Option.some.inj this
    subst hv'
    have ha2 := hks a ha
    have hb2 := hks b hb
    refine s_cut (fun σ' H' => σ' = [some (.str (tx ks)), some (.ref p), some (.ref q), some (.str (tx [a, b])), none, none] ∧ Same H4 H') ?_ ?_
    · walk_at "go"
      refine if_ndec (fun c => absurd rfl c) (fun _ => ?_)
      walk_at "go"
      refine ⟨[a, b], rfl, by simp, fun H5 s5 => ?_⟩
      have e5 : decide ((∀ c ∈ [a, b], c ∈ LET) ∧ [a, b].Nodup) = true := by
        rw [decide_eq_true_iff]
        refine ⟨?_, by simp [hne]⟩
        intro c hc
        simp only [List.mem_cons, List.not_mem_nil, or_false] at hc
        rcases hc with rfl | rfl <;> assumption
      rw [e5]
      walk_at "go"
      exact ⟨rfl, s5⟩
    · rintro σ' H5 ⟨rfl, s5⟩
      refine s_cut (fun σ' H' => σ' = [some (.str (tx ks)), some (.ref p), some (.ref q), some (.str (tx [a, b])), none, none] ∧ H' = H5) ?_ ?_
      · walk_at "go"
        refine v_ixS (c := a) (by simp) rfl ?_
        walk_at "go"
        refine if_ndec (fun c => absurd ha c) (fun _ => ?_)
        walk_at "go"
        refine v_ixS (c := b) (by simp) rfl ?_
        walk_at "go"
        refine if_ndec (fun c => absurd hb c) (fun _ => ?_)
        walk_at "go"
        exact ⟨rfl, rfl⟩
      · rintro σ' H6 ⟨rfl, rfl⟩
        have e6 := s5 _ _ e3
        walk_at "go"
        refine ⟨[a, b], rfl, fun H7 s7 => ?_⟩
        walk_at "go"
        refine v_app (s7 _ _ e6) ?_ fun H8 s8 e8 => ?_
        · simp only [strsV, List.length_map, List.length_take]
          omega
        refine ⟨_, rfl, fun b' o hb' => s8 _ _ (s7 _ _ (s5 _ _ (s3 _ _ hb'))) (ne_of_none hb' (L2.Same.free s1 hq)), ?_⟩
        rw [e8, List.take_add_one, List.getElem?_eq_getElem hi', hab, List.map_append]
        simp only [strsV, List.map_append]
        rfl
  · rintro σ H3 ⟨x, rfl, s3, e3⟩
    walk_at "go"
    rw [List.take_of_length_le (by simp)] at e3
    refine v_lc2S (lb := LET) (b := fun a b => decide ([a, b] ∈ ps.map ascOf)) (f := fun a b => V.str (tx [a, b])) (by decide) (by decide) (fun c _ H1 s1 R r => r) (fun c d _ _ H1 s1 R r => ?_) (fun c d _ _ _ H1 s1 R r => ?_) (fun D H5 hD s5 e5 => ?_)
    · have e1 := s1 _ _ e3
      walk_at "go"
      exact r H1 (Same.refl _)
    · walk_at "go"
      exact r H1 (Same.refl _)
    · walk_at "go"
      refine v_tuple e5 fun t H6 ht s6 e6 => ?_
      refine k t H6 (L2.Same.free s3 (L2.Same.free s5 ht)) ((s3.trans s5).trans s6) ?_
      rw [e6]
      unfold strsV pairsOf
      rw [List.map_flatMap]
      simp only [List.map_map]
      rfl
abbrev stcrossing_table : Stmt := (top 35)
abbrev Ncrossing_table : List Str := ["kinds", "pairs", "found", "kind", "other"]
theorem sccrossing_table : FnScope Ncrossing_table ["kinds", "pairs"] (defScope stcrossing_table) := ⟨rfl, rfl, rfl, by decide +kernel, rfl, by decide +kernel, by decide +kernel⟩

theorem ok_crossing_table (F : FnAt K mg "crossing_table" stcrossing_table) (T : TxtP K mg C) : Def P w K mg base CX0 1 "crossing_table" ["kinds", "pairs"] spCross := by
  refine F.ok sccrossing_table (fun _ _ _ _ _ _ us hl => match us, hl with | [_, _], _ => rfl) (fun vs H Q E h => ?_) (fun f cdv A outer s H vs Q E hr h => ?_)
  · obtain ⟨ks, t, ps, rfl, _⟩ := h
    rfl
  obtain ⟨ks, t, ps, rfl, ht, hl, hnd, k⟩ := h
  have hu := hu_of hr
  have nd := sccrossing_table.nd
  refine ⟨_, (pss_cons (ps_set (i := 2) nd rfl (Or.inl rfl) pe_dnewK)
      (pss_cons (ps_for PassesOwn.never rfl (pi_str (pv 0)) (pg_name (i := 3) nd rfl (Or.inr rfl))
      (pss_one (ps_dput hu (pv 2) (pv 3) (pe_joinK (K := K) rfl (pe_tx [] (by decide +kernel)) (pe_lc (own := [("other", 4)]) (g := gName 4) (by rfl) nd (pi_str (pv 0)) (blkOk_by (own := [("other", 4)]) (N := Ncrossing_table) (sc := defScope stcrossing_table) (by decide +kernel)) (fun _ _ _ _ _ => (pg_name (i := 4) nd rfl (Or.inl rfl))) (fun _ _ _ _ _ => (pts_one (PW.pt (pw_or (pt_cmpR (op_inLK (K := K) rfl) (pe_op op_addS (pv 3) (pv 4)) (pv 1) (by rfl)) (pw_or1 (pt_cmpR (op_inLK (K := K) rfl) (pe_op op_addS (pv 4) (pv 3)) (pv 1) (by rfl))))))) (fun _ _ _ _ _ => (pv 4)))) rfl)))
      (pss_one (ps_ret (pv 2))))), ?_⟩
  refine s_start [some _, some _, none, none, none] rfl ?_
  walk_at "go"
  intro d H1 hd s1 e1
  walk_at "go"
  refine for_it (walk_tx ks) (fun k σ H' => ∃ x, σ = [some (.str (tx ks)), some (.ref t), some (.ref d), x, none] ∧ Same H H' ∧ H' d = some (.dK (crossKV ks ps (ks.take k)))) ⟨_, rfl, s1, e1⟩ (fun _ _ _ _ _ => trivial) ?_ ?_
  · rintro i v σ H2 H3 hi ⟨x, rfl, s2, e2⟩ ⟨rfl, rfl⟩
    have h0 := s2 _ _ ht
    show sDPut _ _ _ _ _ _
    walk_at "go"
    refine v_lcS (b := fun o => decide ([ks.getD i 0, o] ∈ ps) || decide ([o, ks.getD i 0] ∈ ps)) (f := fun c => V.str (tx [c])) (by omega) (fun c _ H1 s1 R r => ?_) (fun c _ _ H1 s1 R r => ?_) (fun D H4 hD s4 e4 => ?_)
    · have h1 := s1 _ _ h0
      walk_at "go"
      refine v_inT (SqT.of h1) ?_
      walk_at "go"
      refine if_dec (fun c1 => ?_) (fun c1 => ?_)
      · rw [show [ks.getD i 0] ++ [c] = [ks.getD i 0, c] from rfl] at c1
        rw [decide_eq_true c1, Bool.true_or] at r
        exact r H1 (Same.refl _)
      · rw [show [ks.getD i 0] ++ [c] = [ks.getD i 0, c] from rfl] at c1
        walk_at "go"
        refine v_inT (SqT.of h1) ?_
        walk_at "go"
        rw [decide_eq_false c1, Bool.false_or] at r
        exact r H1 (Same.refl _)
    · walk_at "go"
      exact r H1 (Same.refl _)
    walk_at "go"
    rw [strs_ones] at e4
    refine v_join e4 ?_ ?_
    · rw [flat_ones]
      have := crossOf_len ks ps (ks.getD i 0)
      unfold crossOf at this
      omega
    rw [flat_ones]
    walk_at "go"
    have e5 := s4 _ _ e2
    have hz : valV (crossKV ks ps (ks.take i)) (Sum.inr (tx [ks.getD i 0])) = none := letV_none (take_notin hnd hi)
    refine v_put (DPut.cross e5 hz ?_) fun H6 s6 e6 => ?_
    · unfold crossKV
      rw [List.length_map, List.length_take]
      omega
    refine ⟨_, rfl, fun b o hb => s6 _ _ (s4 _ _ (s2 _ _ hb)) (ne_of_none hb hd), ?_⟩
    rw [e6, take_getD hi]
    unfold crossKV
    rw [List.map_append]
    rfl
  · rintro σ H2 ⟨x, rfl, s2, e2⟩
    rw [List.take_of_length_le (Nat.le_refl _)] at e2
    walk_at "go"
    exact k d H2 hd s2 e2
end
end
section
open PySem PySem.Spec L2
def planF (ks : List Nat) (t d : Addr) : List (Str × V) := putF "own_crossing" (.ref d) (putF "pairs" (.ref t) (putF "kinds" (.str (tx ks)) []))
theorem nkp : ¬ (("kinds" : Str) = "pairs") := by decide +kernel
theorem nko : ¬ (("kinds" : Str) = "own_crossing") := by decide +kernel
theorem npo : ¬ (("pairs" : Str) = "own_crossing") := by decide +kernel
section
variable {ks : List Nat} {t d : Addr}
theorem planF_k : (planF ks t d).lookup ("kinds" : Str) = some (.str (tx ks)) := by
  unfold planF
  rw [lookup_putF, if_neg nko, lookup_putF, if_neg nkp, lookup_putF, if_pos rfl]
theorem planF_p : (planF ks t d).lookup ("pairs" : Str) = some (.ref t) := by
  unfold planF
  rw [lookup_putF, if_neg npo, lookup_putF, if_pos rfl]
theorem planF_o : (planF ks t d).lookup ("own_crossing" : Str) = some (.ref d) := by
  unfold planF
  rw [lookup_putF, if_pos rfl]
end
/-- a plan of the kinds ks and the pairs ps stands at x -/
structure PlanAt (C : Addr) (H : Hp) (x : Addr) (ks : List Nat) (ps : List (List Nat)) : Prop where
  ex : ∃ dx t d, H x = some (.ins C dx (planF ks t d)) ∧ H t = some (.tup (strsV ps)) ∧ H d = some (.dK (crossKV ks ps ks))
theorem PlanAt.same {C : Addr} {H H' : Hp} {x : Addr} {ks : List Nat} {ps : List (List Nat)} (h : PlanAt C H x ks ps) (s : Same H H') : PlanAt C H' x ks ps := by
  obtain ⟨dx, t, d, a, b, c⟩ := h.ex
  exact ⟨dx, t, d, s _ _ a, s _ _ b, s _ _ c⟩
/-- the plan at x does not rest on the object at b -/
def PlanOff (C : Addr) (H : Hp) (x b : Addr) : Prop := ∃ dx ks t d, H x = some (.ins C dx (planF ks t d)) ∧ b ≠ t ∧ b ≠ d
theorem PlanOff.same {C : Addr} {H H' : Hp} {x b : Addr} (h : PlanOff C H x b) (s : Same H H') : PlanOff C H' x b := by
  obtain ⟨dx, ks, t, d, e, n⟩ := h
  exact ⟨dx, ks, t, d, s _ _ e, n⟩
theorem PlanAt.off {C : Addr} {H H' : Hp} {x b : Addr} {ks : List Nat} {ps : List (List Nat)} (h : PlanAt C H x ks ps) (n : PlanOff C H x b) (nx : x ≠ b) (k : Keep b H H') : PlanAt C H' x ks ps := by
  obtain ⟨dx, t, d, a1, a2, a3⟩ := h.ex
  obtain ⟨dx', ks', t', d', e, n1, n2⟩ := n
  rw [a1] at e
  injection e with e
  injection e with _ _ e
  have e1 := planF_p (ks := ks) (t := t) (d := d)
  rw [e, planF_p] at e1
  injection e1 with e1
  injection e1 with e1
  have e2 := planF_o (ks := ks) (t := t) (d := d)
  rw [e, planF_o] at e2
  injection e2 with e2
  injection e2 with e2
  exact ⟨dx, t, d, k _ _ a1 nx, k _ _ a2 (fun z => n1 (z.symm.trans e1.symm)), k _ _ a3 (fun z => n2 (z.symm.trans e2.symm))⟩
/-- the kinds and pairs of Plan(l, ps) -/
abbrev kindsOf (l : List Nat) : List Nat := ascOf l
abbrev prsOf (ps : List (List Nat)) : List (List Nat) := pairsOf (ps.map ascOf)
def PlanArgs (K : PySem.W.Frag) (H : Hp) (l : List Nat) (p : Addr) (ps : List (List Nat)) : Prop := SeqO K H p (strsV ps) ∧ ps.length < 1000 ∧ PairsIn l ps ∧ (∀ c ∈ l, c ∈ LET) ∧ l.Nodup ∧ l.length ≤ 8
def spPlan0 (K : PySem.W.Frag) (C : Addr) : Sp := fun vs H Q _ => ∃ (x dx : Addr) (l : List Nat) (p : Addr) (ps : List (List Nat)), vs = [.ref x, .str (tx l), .ref p] ∧ H x = some (.ins C dx []) ∧ PlanArgs K H l p ps ∧
  ∀ H', Keep x H H' → PlanAt C H' x (kindsOf l) (prsOf ps) → (∀ b o, H b = some o → b ≠ x → PlanOff C H' x b) → Q .non H'
def spPlan (K : PySem.W.Frag) (C : Addr) : Sp := fun vs H Q _ => ∃ (l : List Nat) (p : Addr) (ps : List (List Nat)), vs = [.str (tx l), .ref p] ∧ PlanArgs K H l p ps ∧ ∀ x H', H x = none → Same H H' → PlanAt C H' x (kindsOf l) (prsOf ps) → (∀ b o, H b = some o → PlanOff C H' x b) → Q (.ref x) H'
theorem conv_plan (K : PySem.W.Frag) (C : Addr) : Conv C (spPlan0 K C) (spPlan K C) := by
  rintro vs H Q E ⟨l, p, ps, rfl, ⟨hp, hr⟩, k⟩ x dx hx hdx hne
  refine ⟨x, dx, l, p, ps, rfl, upd_same, ⟨hp.go fun o ho => by rw [upd_ne (ne_of_none ho hx), upd_ne (ne_of_none ho hdx)]; exact ho, hr⟩, fun H' s' a off => ⟨rfl, k x H' hx (fun b o hb => ?_) a fun b o hb => off b o (by rw [upd_ne (ne_of_none hb hx), upd_ne (ne_of_none hb hdx)]; exact hb) (ne_of_none hb hx)⟩⟩
  refine s' b o ?_ (ne_of_none hb hx)
  rw [upd_ne (ne_of_none hb hx), upd_ne (ne_of_none hb hdx)]
  exact hb
theorem asc_len {l : List Nat} (h1 : ∀ c ∈ l, c ∈ LET) (h2 : l.Nodup) : (ascOf l).length = l.length := by
  have p : (ascOf l).Perm l := by
    refine (List.perm_ext_iff_of_nodup (ascOf_nodup l) h2).mpr fun c => ?_
    rw [ascOf_mem]
    exact ⟨fun z => z.2, fun z => ⟨h1 c z, z⟩⟩
  exact p.length_eq
section
variable {P : Program} {w : World} {K : PySem.W.Frag} {mg : Str → Option Value} {base : Heap} {C : Addr}
abbrev stPlan_init : Stmt := (inClass (top 34) 0)
abbrev NPlan_init : List Str := ["self", "kinds", "crossing"]
theorem scPlan_init : FnScope NPlan_init ["self", "kinds", "crossing"] (defScope stPlan_init) := ⟨rfl, rfl, rfl, by decide +kernel, rfl, by decide +kernel, by decide +kernel⟩

theorem ok_Plan {dvs : List V} (F : MAtD K C "__init__" "Plan.__init__" stPlan_init dvs) (hd : dvs.length = 1) (T : TxtP K mg C) (D_are_letters : Def P w K mg base CX0 1 "are_letters" ["value"] spAreLetters) (D_ascending : Def P w K mg base CX0 1 "ascending" ["letters"] spAscending)
    (D_checked_pairs : Def P w K mg base CX0 2 "checked_pairs" ["kinds", "crossing"] (spChecked K)) (D_need_few : Def P w K mg base CX0 1 "need_few" ["kinds"] spNeedFew) (D_crossing_table : Def P w K mg base CX0 1 "crossing_table" ["kinds", "pairs"] spCross) :
    CMk P w K mg base CX0 3 "Plan" C (spPlan K C) ["self", "kinds", "crossing"] "Plan.__init__" stPlan_init dvs := by
  refine F.make (sp0 := spPlan0 K C) T.Plan scPlan_init (by intro z; rw [z] at hd; cases hd) (fun T kV doc pm an cdv ct us its l1 l2 => ?_) (fun vs H Q E h => ?_) (conv_plan K C) (fun f cdv A outer s H vs Q E hr h => ?_)
  · rw [hd] at l2 ⊢
    match us, l1, its, l2 with
    | [_, _, _], _, [_], _ => exact ⟨_, rfl, rfl⟩
  · obtain ⟨x, dx, l, p, ps, rfl, _⟩ := h
    rfl
  obtain ⟨x, dx, l, p, ps, rfl, hx, ⟨hp, h1, h2, h3, h4, h5⟩, k⟩ := h
  have hu := hu_of hr
  have nd := scPlan_init.nd
  replace D_are_letters := D_are_letters.mono (show 1 ≤ 2 by decide)
  replace D_ascending := D_ascending.mono (show 1 ≤ 2 by decide)
  replace D_need_few := D_need_few.mono (show 1 ≤ 2 by decide)
  replace D_crossing_table := D_crossing_table.mono (show 1 ≤ 2 by decide)
  refine ⟨_, (pss_cons (ps_if (pt_not (pt_val (pe_cd D_are_letters hr pass0 (pa_cons (pv 1) pa_nil))))
      (pss_one ps_never)
      pss_nil)
      (pss_cons (ps_flK (K := K) rfl (pv 0) (pe_cd D_ascending hr pass0 (pa_cons (pv 1) pa_nil)) rfl)
      (pss_cons (ps_flK (K := K) rfl (pv 0) (pe_cd D_checked_pairs hr pass0 (pa_cons (pe_flK (K := K) rfl (pv 0) rfl) (pa_cons (pv 2) pa_nil))) rfl)
      (pss_cons (ps_expr (pe_cd D_need_few hr pass0 (pa_cons (pe_flK (K := K) rfl (pv 0) rfl) pa_nil)))
      (pss_one (ps_flK (K := K) rfl (pv 0) (pe_cd D_crossing_table hr pass0 (pa_cons (pe_flK (K := K) rfl (pv 0) rfl) (pa_cons (pe_flK (K := K) rfl (pv 0) rfl) pa_nil))) rfl)))))), ?_⟩
  refine s_start [some _, some _, some _] rfl ?_
  walk_at "go"
  refine ⟨l, rfl, by omega, fun H1 s1 => ?_⟩
  rw [decide_eq_true (show (∀ c ∈ l, c ∈ LET) ∧ l.Nodup from ⟨h3, h4⟩)]
  walk_at "go"
  refine ⟨l, rfl, fun H2 s2 => ?_⟩
  walk_at "go"
  have s12 := s1.trans s2
  refine v_sfld (s12 _ _ hx) T.Plan.cl T.nK (by decide) fun H3 s3 e3 => ?_
  have hp3 := (hp.same s12).keepI s3 (s12 _ _ hx)
  walk_at "go"
  refine v_fld e3 T.Plan.cl T.nK (by rw [lookup_putF, if_pos rfl]) ?_
  walk_at "go"
  refine ⟨ascOf l, p, ps, rfl, hp3, h1, ?_, fun c hc => (ascOf_mem.mp hc).1, fun t H4 ht s4 e4 => ?_⟩
  · intro q hq
    obtain ⟨a, b, e, n, ha, hb⟩ := h2 q hq
    exact ⟨a, b, e, n, ascOf_mem.mpr ⟨h3 a ha, ha⟩, ascOf_mem.mpr ⟨h3 b hb, hb⟩⟩
  walk_at "go"
  refine v_sfld (s4 _ _ e3) T.Plan.cl T.nP (by show 1 < 1000; decide) fun H5 s5 e5 => ?_
  have nt : t ≠ x := fun z => by rw [z, e3] at ht; cases ht
  have e5t := s5 _ _ e4 nt
  walk_at "go"
  refine v_fld e5 T.Plan.cl T.nK (by rw [lookup_putF, if_neg nkp, lookup_putF, if_pos rfl]) ?_
  walk_at "go"
  refine ⟨ascOf l, rfl, by rw [asc_len h3 h4]; exact h5, ?_⟩
  walk_at "go"
  refine v_fld e5 T.Plan.cl T.nK (by rw [lookup_putF, if_neg nkp, lookup_putF, if_pos rfl]) ?_
  walk_at "go"
  refine v_fld e5 T.Plan.cl T.nP (by rw [lookup_putF, if_pos rfl]) ?_
  walk_at "go"
  refine ⟨ascOf l, t, _, rfl, e5t, by have := ascOf_len l; omega, ascOf_nodup l, fun d H6 hd s6 e6 => ?_⟩
  walk_at "go"
  refine v_sfld (s6 _ _ e5) T.Plan.cl T.nO (by show 2 < 1000; decide) fun H7 s7 e7 => ?_
  have ndx : d ≠ x := fun z => by rw [z, e5] at hd; cases hd
  refine k H7 (fun b o hb nb => s7 _ _ (s6 _ _ (s5 _ _ (s4 _ _ (s3 _ _ (s12 _ _ hb) nb)) nb)) nb) ⟨dx, t, d, e7, s7 _ _ (s6 _ _ e5t) nt, s7 _ _ e6 ndx⟩ fun b o hb nb => ⟨dx, _, t, d, e7, ?_, ?_⟩
  · exact ne_of_none (s3 _ _ (s12 _ _ hb) nb) ht
  · exact ne_of_none (s5 _ _ (s4 _ _ (s3 _ _ (s12 _ _ hb) nb)) nb) hd
end
end
section
open PySem PySem.Spec L2
/-- letters alone -/
def PsOk (ps : List (List Nat)) : Prop := ∀ l ∈ ps, ∀ c ∈ l, c < 1000
def spPlanEq (C : Addr) : Sp := fun vs H Q _ => ∃ (x y : Addr) (ks ks' : List Nat) (ps ps' : List (List Nat)), vs = [.ref x, .ref y] ∧ PlanAt C H x ks ps ∧ PlanAt C H y ks' ps' ∧ PsOk ps ∧ PsOk ps' ∧ Q (.bl (decide (ks = ks' ∧ ps = ps'))) H
def spStepped (C : Addr) : Sp := fun vs H Q _ => ∃ (x : Addr) (ks : List Nat) (ps : List (List Nat)) (name : List Nat) (k : Nat), vs = [.ref x, .str (tx name), .str (tx [k])] ∧ PlanAt C H x ks ps ∧ k ∈ ks ∧ name.length ≤ 100000 ∧ Q (.str (tx (stepOf (crossOf ks ps k) name k))) H
def spJoined (C : Addr) : Sp := fun vs H Q _ => ∃ (x : Addr) (ks : List Nat) (ps : List (List Nat)) (name way : List Nat), vs = [.ref x, .str (tx name), .str (tx way)] ∧ PlanAt C H x ks ps ∧ (∀ c ∈ way, c ∈ ks) ∧ name.length + way.length ≤ 100000 ∧ Q (.str (tx (joinOf ks ps name way))) H
section
variable {P : Program} {w : World} {K : PySem.W.Frag} {mg : Str → Option Value} {base : Heap} {C : Addr}
abbrev stPlan_eq : Stmt := (inClass (top 34) 2)
abbrev NPlan_eq : List Str := ["self", "other"]
theorem scPlan_eq : FnScope NPlan_eq ["self", "other"] (defScope stPlan_eq) := ⟨rfl, rfl, rfl, by decide +kernel, rfl, by decide +kernel, by decide +kernel⟩

theorem ok_Plan_eq (F : MAt K C "__eq__" "Plan.__eq__" stPlan_eq) (T : TxtP K mg C) : MDef P w K mg base CX0 1 C "__eq__" ["self", "other"] (spPlanEq C) := by
  refine F.ok scPlan_eq (fun _ _ _ _ _ _ us hl => match us, hl with | [_, _], _ => rfl) (fun vs H Q E h => ?_) (fun f cdv A outer s H vs Q E hr h => ?_)
  · obtain ⟨x, y, ks, ks', ps, ps', rfl, _⟩ := h
    rfl
  obtain ⟨x, y, ks, ks', ps, ps', rfl, h1, h2, o1, o2, k⟩ := h
  have hu := hu_of hr
  have nd := scPlan_eq.nd
  refine ⟨_, (pss_one (ps_ret (pe_and (pe_callB (c_isiK (K := K) rfl) (by rfl) T.isinstance (by decide +kernel) (pa_cons (pv 1) (pa_cons (pe_globC T.Plan.at) pa_nil))) (pe_and (pe_cmpR op_eq (pe_flK (K := K) rfl (pv 0) rfl) (pe_flK (K := K) rfl (pv 1) rfl) (nomark _)) (pe_one (pe_cmpR (op_eqDK (K := K) rfl hr.units) (pe_flK (K := K) rfl (pv 0) rfl) (pe_flK (K := K) rfl (pv 1) rfl) (nomark _))))))), ?_⟩
  refine s_start [some _, some _] rfl ?_
  obtain ⟨dx, t, d, a1, a2, a3⟩ := h1.ex
  obtain ⟨dy, t', d', b1, b2, b3⟩ := h2.ex
  walk_at "go"
  refine v_isiC T.Plan b1 ?_
  walk_at "go"
  refine v_fld a1 T.Plan.cl T.nK planF_k ?_
  walk_at "go"
  refine v_fld b1 T.Plan.cl T.nK planF_k ?_
  walk_at "go"
  rw [dec_tx]
  refine if_dec (fun c => ?_) (fun c => ?_)
  · walk_at "go"
    refine v_fld a1 T.Plan.cl T.nP planF_p ?_
    walk_at "go"
    refine v_fld b1 T.Plan.cl T.nP planF_p ?_
    walk_at "go"
    refine v_eqT a2 b2 o1 o2 ?_
    have e : decide (ks = ks' ∧ ps = ps') = decide (ps = ps') := decide_eq_decide.mpr ⟨fun z => z.2, fun z => ⟨c, z⟩⟩
    rw [e] at k
    exact k
  · rw [decide_eq_false fun z => c z.1] at k
    exact k
abbrev ststepped : Stmt := (top 14)
abbrev Nstepped : List Str := ["plan", "name", "kind", "partners", "place"]
theorem scstepped : FnScope Nstepped ["plan", "name", "kind"] (defScope ststepped) := ⟨rfl, rfl, rfl, by decide +kernel, rfl, by decide +kernel, by decide +kernel⟩

theorem ok_stepped (F : FnAt K mg "stepped" ststepped) (T : TxtP K mg C) : Def P w K mg base CX0 1 "stepped" ["plan", "name", "kind"] (spStepped C) := by
  refine F.ok scstepped (fun _ _ _ _ _ _ us hl => match us, hl with | [_, _, _], _ => rfl) (fun vs H Q E h => ?_) (fun f cdv A outer s H vs Q E hr h => ?_)
  · obtain ⟨x, ks, ps, name, k, rfl, _⟩ := h
    rfl
  obtain ⟨x, ks, ps, name, k, rfl, h1, hk, hl, q⟩ := h
  have hu := hu_of hr
  have nd := scstepped.nd
  refine ⟨_, (pss_cons (ps_set (i := 3) nd rfl (Or.inl rfl) (pe_dget hu (pe_flK (K := K) rfl (pv 0) rfl) (pv 2) (fun _ _ => rfl)))
      (pss_cons (ps_set (i := 4) nd rfl (Or.inl rfl) (pe_callB c_lenS (by rfl) T.len PySem.boot_len (pa_cons (pv 1) pa_nil)))
      (pss_cutS (ps_while PassesOwn.never (PW.pt (pw_and (pt_cmpR op_gt (pv 4) pe_int (nomark _)) (pw_and1 (pt_cmpR op_inS (pe_ix ix_str (pv 1) (pe_op op_sub (pv 4) pe_int) (fun _ _ => rfl)) (pv 3) (by rfl)))))
      (pss_one (ps_set (i := 4) nd rfl (Or.inl rfl) (pe_op op_sub (pv 4) pe_int))))
      (pss_cutS (ps_if (PW.pt (pw_and (pt_cmpR op_gt (pv 4) pe_int (nomark _)) (pw_and1 (pt_cmpR op_eq (pe_ix ix_str (pv 1) (pe_op op_sub (pv 4) pe_int) (fun _ _ => rfl)) (pv 2) (nomark _)))))
      (pss_one (ps_ret (pe_op op_addS (pe_slice sl_S (pv 1) po_none (po_some (pe_op op_sub (pv 4) pe_int))) (pe_slice sl_S (pv 1) (po_some (pv 4)) po_none))))
      pss_nil)
      (pss_cutS (ps_while PassesOwn.never (PW.pt (pw_and (pt_cmpR op_lt (pv 4) (pe_callB c_lenS (by rfl) T.len PySem.boot_len (pa_cons (pv 1) pa_nil)) (nomark _)) (pw_and1 (pt_cmpR op_ltS (pe_ix ix_str (pv 1) (pv 4) (fun _ _ => rfl)) (pv 2) (nomark _)))))
      (pss_one (ps_set (i := 4) nd rfl (Or.inl rfl) (pe_op op_add (pv 4) pe_int))))
      (pss_one (ps_ret (pe_op op_addS (pe_op op_addS (pe_slice sl_S (pv 1) po_none (po_some (pv 4))) (pv 2)) (pe_slice sl_S (pv 1) (po_some (pv 4)) po_none))))))))), ?_⟩
  refine s_start [some _, some _, some _, none, none] rfl ?_
  obtain ⟨dx, t, d, a1, a2, a3⟩ := h1.ex
  walk_at "go"
  refine v_fld a1 T.Plan.cl T.nO planF_o ?_
  walk_at "go"
  refine v_dget (dget_let (g := fun k => V.str (tx (crossOf ks ps k))) a3 hk) ?_
  walk_at "go"
  refine s_cut (fun σ H' => ∃ ra b : List Nat, name = ra.reverse ++ b ∧ splitB (crossOf ks ps k) name.reverse [] = (ra, b) ∧ σ = [some (.ref x), some (.str (tx name)), some (.str (tx [k])), some (.str (tx (crossOf ks ps k))), some (.int (ra.length : Nat))] ∧ H' = H) ?_ ?_
  · refine s_while (fun m σ H' => ∃ ra b : List Nat, m = ra.length ∧ name = ra.reverse ++ b ∧ splitB (crossOf ks ps k) name.reverse [] = splitB (crossOf ks ps k) ra b ∧ σ = [some (.ref x), some (.str (tx name)), some (.str (tx [k])), some (.str (tx (crossOf ks ps k))), some (.int (ra.length : Nat))] ∧ H' = H) name.length ⟨name.reverse, [], by simp, by simp, rfl, by simp, rfl⟩ ?_
    rintro m σ H' ⟨ra, b, rfl, e1, e2, rfl, rfl⟩
    walk_at "go"
    cases ra with
    | nil =>
      refine if_dec (fun c => absurd c (by simp)) (fun _ => ?_)
      walk_at "go"
      exact ⟨[], b, e1, e2, rfl, rfl⟩
    | cons y r =>
      refine if_dec (fun _ => ?_) (fun c => absurd (by simp) c)
      walk_at "go"
      refine v_ixS (c := y) (by omega) (by rw [e1]; exact at_last) ?_
      walk_at "go"
      refine if_dec (fun c => ?_) (fun c => ?_)
      · refine v_turn ?_
        walk_at "go"
        refine ⟨r.length, by simp, r, y :: b, rfl, ?_, ?_, ?_, rfl⟩
        · rw [e1, List.reverse_cons, List.append_assoc]
          rfl
        · rw [e2]
          show (if y ∈ crossOf ks ps k then _ else _) = _
          rw [if_pos c]
        · have e : (((y :: r).length : Nat) : Int) - 1 = (r.length : Nat) := by
            rw [List.length_cons]
            omega
          rw [e]
          rfl
      · walk_at "go"
        refine ⟨y :: r, b, e1, ?_, rfl, rfl⟩
        rw [e2]
        show (if y ∈ crossOf ks ps k then _ else _) = _
        rw [if_neg c]
  rintro σ H' ⟨ra, b, e1, e2, rfl, rfl⟩
  have hl2 : ra.length + b.length = name.length := by
    rw [e1, List.length_append, List.length_reverse]
  have q : Q (.str (tx (stepAt k ra b))) H' := by
    have e : stepOf (crossOf ks ps k) name k = stepAt k ra b := by
      unfold stepOf
      rw [e2]
    rw [e] at q
    exact q
  refine s_cut (fun σ H2 => ra.head? ≠ some k ∧ σ = [some (.ref x), some (.str (tx name)), some (.str (tx [k])), some (.str (tx (crossOf ks ps k))), some (.int (ra.length : Nat))] ∧ H2 = H') ?_ ?_
  · walk_at "go"
    cases ra with
    | nil =>
      refine if_dec (fun c => absurd c (by simp)) (fun _ => ?_)
      walk_at "go"
      exact ⟨by simp, rfl, rfl⟩
    | cons y r =>
      refine if_dec (fun _ => ?_) (fun c => absurd (by simp) c)
      walk_at "go"
      refine v_ixS (c := y) (by omega) (by rw [e1]; exact at_last) ?_
      walk_at "go"
      rw [dec_tx]
      refine if_dec (fun c => ?_) (fun c => ?_)
      · walk_at "go"
        have ey : y = k := by
          injection c
        subst ey
        have e3 : (((y :: r).length : Nat) : Int) - 1 = (r.length : Nat) := by
          rw [List.length_cons]
          omega
        rw [e3]
        refine v_slTo (by omega) (by omega) ?_
        walk_at "go"
        refine v_slFrom (by omega) (by omega) ?_
        have e4 : name.take ((r.length : Nat) : Int).toNat = r.reverse := by
          rw [e1, List.reverse_cons, List.append_assoc]
          exact List.take_left' (by simp)
        have e5 : name.drop (((y :: r).length : Nat) : Int).toNat = b := by
          rw [e1]
          exact List.drop_left' (by simp)
        rw [e4, e5]
        refine v_addS (by rw [List.length_reverse]; rw [List.length_cons] at hl2; omega) ?_
        have e6 : stepAt y (y :: r) b = r.reverse ++ b := by
          unfold stepAt
          rw [if_pos (show (y :: r).head? = some y from rfl)]
          rfl
        rw [e6] at q
        exact q
      · walk_at "go"
        refine ⟨?_, rfl, rfl⟩
        intro z
        injection z with z
        exact c (by rw [z])
  rintro σ H2 ⟨hh, rfl, rfl⟩
  refine s_cut (fun σ H3 => ∃ c d : List Nat, b = c ++ d ∧ putIn k b = c ++ k :: d ∧ σ = [some (.ref x), some (.str (tx name)), some (.str (tx [k])), some (.str (tx (crossOf ks ps k))), some (.int ((ra.length + c.length : Nat) : Int))] ∧ H3 = H2) ?_ ?_
  · refine s_while (fun m σ H3 => ∃ c d : List Nat, m = d.length ∧ b = c ++ d ∧ putIn k b = c ++ putIn k d ∧ σ = [some (.ref x), some (.str (tx name)), some (.str (tx [k])), some (.str (tx (crossOf ks ps k))), some (.int ((ra.length + c.length : Nat) : Int))] ∧ H3 = H2) b.length ⟨[], b, rfl, rfl, rfl, rfl, rfl⟩ ?_
    rintro m σ H3 ⟨c, d, rfl, e3, e4, rfl, rfl⟩
    have hl3 : ra.length + (c.length + d.length) = name.length := by
      rw [← hl2, e3, List.length_append]
    walk_at "go"
    cases d with
    | nil =>
      refine if_dec (fun z => ?_) (fun _ => ?_)
      · rw [List.length_nil] at hl3
        omega
      walk_at "go"
      exact ⟨c, [], e3, e4, rfl, rfl⟩
    | cons y r =>
      rw [List.length_cons] at hl3
      refine if_dec (fun _ => ?_) (fun z => by omega)
      walk_at "go"
      refine v_ixS (c := y) (by omega) ?_ ?_
      · rw [e1, e3, ← List.append_assoc]
        have := at_mid (x := y) (a := ra.reverse ++ c) (b := r)
        rw [List.length_append, List.length_reverse] at this
        exact this
      walk_at "go"
      rw [lt_one]
      refine if_dec (fun z => ?_) (fun z => ?_)
      · refine v_turn ?_
        walk_at "go"
        refine ⟨r.length, by simp, c ++ [y], r, rfl, ?_, ?_, ?_, rfl⟩
        · rw [e3, List.append_assoc]
          rfl
        · rw [e4, List.append_assoc]
          congr 1
          unfold putIn
          rw [List.takeWhile_cons_of_pos (by simpa using z), List.dropWhile_cons_of_pos (by simpa using z)]
          rfl
        · have e : ((ra.length + c.length : Nat) : Int) + 1 = ((ra.length + (c ++ [y]).length : Nat) : Int) := by
            rw [List.length_append, List.length_singleton]
            omega
          rw [e]
          rfl
      · walk_at "go"
        refine ⟨c, y :: r, e3, ?_, rfl, rfl⟩
        rw [e4]
        congr 1
        unfold putIn
        rw [List.takeWhile_cons_of_neg (by simpa using z), List.dropWhile_cons_of_neg (by simpa using z)]
        rfl
  rintro σ H3 ⟨c, d, e3, e4, rfl, rfl⟩
  have hl3 : ra.length + (c.length + d.length) = name.length := by
    rw [← hl2, e3, List.length_append]
  walk_at "go"
  refine v_slTo (by omega) (by omega) ?_
  have e5 : name.take ((ra.length + c.length : Nat) : Int).toNat = ra.reverse ++ c := by
    rw [e1, e3, ← List.append_assoc]
    exact List.take_left' (by rw [List.length_append, List.length_reverse]; omega)
  have e6 : name.drop ((ra.length + c.length : Nat) : Int).toNat = d := by
    rw [e1, e3, ← List.append_assoc]
    exact List.drop_left' (by rw [List.length_append, List.length_reverse]; omega)
  rw [e5]
  have l1 : (ra.reverse ++ c).length + [k].length ≤ 1000000 := by
    rw [List.length_append, List.length_reverse, List.length_singleton]
    omega
  have l2 : (ra.reverse ++ c ++ [k]).length + d.length ≤ 1000000 := by
    rw [List.length_append, List.length_append, List.length_reverse, List.length_singleton]
    omega
  walk_at "go"
  refine v_slFrom (by omega) (by omega) ?_
  rw [e6]
  refine v_addS l2 ?_
  have e7 : stepAt k ra b = ra.reverse ++ c ++ [k] ++ d := by
    unfold stepAt
    rw [if_neg hh, e4]
    simp
  rw [e7] at q
  exact q
abbrev stjoined : Stmt := (top 15)
abbrev Njoined : List Str := ["plan", "name", "way", "kind"]
theorem scjoined : FnScope Njoined ["plan", "name", "way"] (defScope stjoined) := ⟨rfl, rfl, rfl, by decide +kernel, rfl, by decide +kernel, by decide +kernel⟩

theorem ok_joined (F : FnAt K mg "joined" stjoined) (D_stepped : Def P w K mg base CX0 1 "stepped" ["plan", "name", "kind"] (spStepped C)) : Def P w K mg base CX0 2 "joined" ["plan", "name", "way"] (spJoined C) := by
  refine F.ok scjoined (fun _ _ _ _ _ _ us hl => match us, hl with | [_, _, _], _ => rfl) (fun vs H Q E h => ?_) (fun f cdv A outer s H vs Q E hr h => ?_)
  · obtain ⟨x, ks, ps, name, k, rfl, _⟩ := h
    rfl
  obtain ⟨x, ks, ps, name, way, rfl, h1, hk, hl, q⟩ := h
  have hu := hu_of hr
  have nd := scjoined.nd
  refine ⟨_, (pss_cons (ps_for PassesOwn.never rfl (pi_str (pv 2)) (pg_name (i := 3) nd rfl (Or.inl rfl))
      (pss_one (ps_set (i := 1) nd rfl (Or.inl rfl) (pe_cd D_stepped hr pass0 (pa_cons (pv 0) (pa_cons (pv 1) (pa_cons (pv 3) pa_nil)))))))
      (pss_one (ps_ret (pv 1)))), ?_⟩
  refine s_start [some _, some _, some _, none] rfl ?_
  walk_at "go"
  refine for_it (walk_tx way) (fun i σ H' => ∃ z, σ = [some (.ref x), some (.str (tx (joinOf ks ps name (way.take i)))), some (.str (tx way)), z] ∧ H' = H) ⟨_, rfl, rfl⟩ (fun _ _ _ _ _ => trivial) ?_ ?_
  · rintro i v σ H2 H3 hi ⟨z, rfl, rfl⟩ ⟨rfl, rfl⟩
    walk_at "go"
    refine ⟨x, ks, ps, _, way.getD i 0, rfl, h1, hk _ (getD_mem hi), ?_, ?_⟩
    · have := joinOf_len ks ps (way.take i) name
      rw [List.length_take] at this
      omega
    walk_at "go"
    rw [← joinOf_snoc, ← take_getD hi]
    exact ⟨_, rfl, rfl⟩
  · rintro σ H2 ⟨z, rfl, rfl⟩
    walk_at "go"
    rw [List.take_of_length_le (Nat.le_refl _)]
    exact q
end
end
section
open PySem PySem.Spec L2
def roomF (x : Addr) (name : List Nat) : List (Str × V) := putF "name" (.str (tx name)) (putF "plan" (.ref x) [])
theorem npn : ¬ (("plan" : Str) = "name") := by decide +kernel
theorem roomF_p {x : Addr} {name : List Nat} : (roomF x name).lookup ("plan" : Str) = some (.ref x) := by
  unfold roomF
  rw [lookup_putF, if_neg npn, lookup_putF, if_pos rfl]
theorem roomF_n {x : Addr} {name : List Nat} : (roomF x name).lookup ("name" : Str) = some (.str (tx name)) := by
  unfold roomF
  rw [lookup_putF, if_pos rfl]
/-- a room of the plan at x stands at r -/
structure RoomAt (R : Addr) (H : Hp) (r x : Addr) (name : List Nat) : Prop where
  ex : ∃ dx, H r = some (.ins R dx (roomF x name))
theorem RoomAt.same {R : Addr} {H H' : Hp} {r x : Addr} {name : List Nat} (h : RoomAt R H r x name) (s : Same H H') : RoomAt R H' r x name := by
  obtain ⟨dx, e⟩ := h.ex
  exact ⟨dx, s _ _ e⟩
structure TxtR (K : PySem.W.Frag) (mg : Str → Option Value) (C R O : Addr) : Prop extends TxtP K mg C where
  enumerate : mg "enumerate" = none
  g_MOST_LETTERS : ∃ t, mg "MOST_LETTERS" = some (.int 2000 t)
  Room : ClsF K mg "Room" R
  nPl : NoAttr K R "plan"
  nNm : NoAttr K R "name"
  OtherPlan : ExcF K mg "OtherPlan" O
def spNeedWay (C : Addr) : Sp := fun vs H Q _ => ∃ (x : Addr) (ks : List Nat) (ps : List (List Nat)) (way : List Nat), vs = [.ref x, .str (tx way)] ∧ PlanAt C H x ks ps ∧ (∀ c ∈ way, c ∈ ks) ∧ way.length ≤ 2000 ∧ ∀ H', Same H H' → Q (.str (tx way)) H'
/-- two plans, and what is due if they are equal and if not -/
def Plans2 (C : Addr) (H : Hp) (x y : Addr) (e : Bool) : Prop := ∃ (ks ks' : List Nat) (ps ps' : List (List Nat)), PlanAt C H x ks ps ∧ PlanAt C H y ks' ps' ∧ PsOk ps ∧ PsOk ps' ∧ e = decide (ks = ks' ∧ ps = ps')
def spNeedSame (C O : Addr) : Sp := fun vs H Q E => ∃ (x y : Addr) (e : Bool), vs = [.ref x, .ref y] ∧ Plans2 C H x y e ∧ (e = true → Q .non H) ∧ (e = false → E (.ref O) none H)
def spRoom0 (C R : Addr) : Sp := fun vs H Q _ => ∃ (r dx x : Addr) (ks : List Nat) (ps : List (List Nat)) (way : List Nat), vs = [.ref r, .ref x, .str (tx way)] ∧ H r = some (.ins R dx []) ∧ PlanAt C H x ks ps ∧ (∀ c ∈ way, c ∈ ks) ∧ way.length ≤ 2000 ∧
  ∀ H', Keep r H H' → RoomAt R H' r x (joinOf ks ps [] way) → Q .non H'
def spRoom (C R : Addr) : Sp := fun vs H Q _ => ∃ (x : Addr) (ks : List Nat) (ps : List (List Nat)) (way : List Nat), vs = [.ref x, .str (tx way)] ∧ PlanAt C H x ks ps ∧ (∀ c ∈ way, c ∈ ks) ∧ way.length ≤ 2000 ∧ ∀ r H', H r = none → Same H H' → RoomAt R H' r x (joinOf ks ps [] way) → Q (.ref r) H'
theorem PlanAt.none {C : Addr} {H : Hp} {x : Addr} {ks : List Nat} {ps : List (List Nat)} (h : PlanAt C H x ks ps) {a b : Addr} {o u : HO} (ha : H a = none) (hb : H b = none) : PlanAt C (upd (upd H a o) b u) x ks ps := by
  refine h.same fun c z hc => ?_
  rw [upd_ne (ne_of_none hc hb), upd_ne (ne_of_none hc ha)]
  exact hc
theorem conv_room (C R : Addr) : Conv R (spRoom0 C R) (spRoom C R) := by
  rintro vs H Q E ⟨x, ks, ps, way, rfl, hp, h1, h2, k⟩ r dx hx hdx hne
  refine ⟨r, dx, x, ks, ps, way, rfl, upd_same, hp.none hdx hx, h1, h2, fun H' s' a => ⟨rfl, k r H' hx (fun b o hb => ?_) a⟩⟩
  refine s' b o ?_ (ne_of_none hb hx)
  rw [upd_ne (ne_of_none hb hx), upd_ne (ne_of_none hb hdx)]
  exact hb
section
variable {P : Program} {w : World} {K : PySem.W.Frag} {mg : Str → Option Value} {base : Heap} {C R O : Addr}
abbrev stneed_way : Stmt := (top 24)
abbrev Nneed_way : List Str := ["plan", "way", "index", "letter"]
theorem scneed_way : FnScope Nneed_way ["plan", "way"] (defScope stneed_way) := ⟨rfl, rfl, rfl, by decide +kernel, rfl, by decide +kernel, by decide +kernel⟩

theorem ok_need_way (F : FnAt K mg "need_way" stneed_way) (T : TxtR K mg C R O) : Def P w K mg base CX0 1 "need_way" ["plan", "way"] (spNeedWay C) := by
  refine F.ok scneed_way (fun _ _ _ _ _ _ us hl => match us, hl with | [_, _], _ => rfl) (fun vs H Q E h => ?_) (fun f cdv A outer s H vs Q E hr h => ?_)
  · obtain ⟨x, ks, ps, way, rfl, _⟩ := h
    rfl
  obtain ⟨x, ks, ps, way, rfl, h1, hk, hl, q⟩ := h
  have hu := hu_of hr
  have nd := scneed_way.nd
  refine ⟨_, (pss_cons (ps_if (pt_not (pt_val (pe_callB (c_isiK (K := K) rfl) (by rfl) T.isinstance (by decide +kernel) (pa_cons (pv 1) (pa_cons (pe_bltn (v := .ty "str") (u := .type "str") (by rfl) T.str (by decide +kernel) rfl) pa_nil)))))
      (pss_one ps_never)
      pss_nil)
      (pss_cons (ps_for PassesOwn.never rfl (pi_enumS (by rfl) T.enumerate (pa_cons (pv 1) pa_nil)) (pg_tup rfl (pgs_cons (pg_name (i := 2) nd rfl (Or.inl rfl)) (pgs_cons (pg_name (i := 3) nd rfl (Or.inl rfl)) pgs_nil)))
      (pss_one (ps_if (pt_cmpR op_notInS (pv 3) (pe_flK (K := K) rfl (pv 0) rfl) (by rfl))
        (pss_one ps_never)
        pss_nil)))
      (pss_cons (ps_if (pt_cmpR op_gt (pe_callB c_lenS (by rfl) T.len PySem.boot_len (pa_cons (pv 1) pa_nil)) (pe_globI T.g_MOST_LETTERS) (nomark _))
      (pss_one ps_never)
      pss_nil)
      (pss_one (ps_ret (pv 1)))))), ?_⟩
  refine s_start [some _, some _, none, none] rfl ?_
  walk_at "go"
  refine for_it (walk_enumS way) (fun i σ H' => ∃ y z, σ = [some (.ref x), some (.str (tx way)), y, z] ∧ Same H H') ⟨_, _, rfl, Same.refl _⟩ (fun _ _ _ _ _ => trivial) ?_ ?_
  · rintro i v σ H2 H3 hi ⟨y, z, rfl, s2⟩ ⟨t, c, rfl, ht, rfl, hc⟩
    have s3 : Same H (upd H2 t (.tup [.int (i : Nat), .str (tx [c])])) := s2.trans (Same.new ht)
    obtain ⟨dx, t', d, a1, a2, a3⟩ := h1.ex
    refine v_gTup2 rfl upd_same ?_
    walk_at "go"
    refine v_fld (s3 _ _ a1) T.Plan.cl T.nK planF_k ?_
    walk_at "go"
    refine if_ndec (fun z => absurd (hk c (List.mem_of_getElem? hc)) z) (fun _ => ?_)
    walk_at "go"
    exact ⟨_, _, rfl, s3⟩
  · rintro σ H2 ⟨y, z, rfl, s2⟩
    walk_at "go"
    refine if_dec (fun c => ?_) (fun c => ?_)
    · omega
    walk_at "go"
    exact q H2 s2
abbrev stneed_same : Stmt := (top 25)
abbrev Nneed_same : List Str := ["plan", "other"]
theorem scneed_same : FnScope Nneed_same ["plan", "other"] (defScope stneed_same) := ⟨rfl, rfl, rfl, by decide +kernel, rfl, by decide +kernel, by decide +kernel⟩

theorem ok_need_same (F : FnAt K mg "need_same" stneed_same) (T : TxtR K mg C R O) (N_Plan_eq : MDef P w K mg base CX0 1 C "__eq__" ["self", "other"] (spPlanEq C)) : Def P w K mg base (L2.CX P w) 3 "need_same" ["plan", "other"] (spNeedSame C O) := by
  refine F.okX scneed_same (fun _ _ _ _ _ _ us hl => match us, hl with | [_, _], _ => rfl) (fun vs H Q E h => ?_) (fun f cdv A outer s H vs Q E hr h => ?_)
  · obtain ⟨x, y, e, rfl, _⟩ := h
    rfl
  obtain ⟨x, y, e, rfl, ⟨ks, ks', ps, ps', p1, p2, o1, o2, he⟩, q1, q2⟩ := h
  have hu := hu_of hr
  have nd := scneed_same.nd
  refine ⟨_, (pss_one (ps_if (pt_cmpR (op_neM N_Plan_eq T.Plan.ne T.Plan.ob hr pass0) (pv 0) (pv 1) (nomark _))
      (pss_one (ps_raise rfl (takes_of rfl rfl rfl rfl) (pmk_own0 T.OtherPlan)))
      pss_nil)), ?_⟩
  refine s_start [some _, some _] rfl ?_
  walk_at "go"
  obtain ⟨dx, t, d, a1, a2, a3⟩ := p1.ex
  obtain ⟨dy, t', d', b1, b2, b3⟩ := p2.ex
  refine v_M2n a1 b1 ?_
  refine ⟨x, y, ks, ks', ps, ps', rfl, p1, p2, o1, o2, ?_⟩
  refine ⟨_, rfl, ?_⟩
  walk_at "go"
  refine if_ndec (fun c => ?_) (fun c => ?_)
  · exact q2 (by rw [he, decide_eq_false c])
  · walk_at "go"
    exact q1 (by rw [he, decide_eq_true c])
abbrev stRoom_init : Stmt := (inClass (top 27) 0)
abbrev NRoom_init : List Str := ["self", "plan", "way"]
theorem scRoom_init : FnScope NRoom_init ["self", "plan", "way"] (defScope stRoom_init) := ⟨rfl, rfl, rfl, by decide +kernel, rfl, by decide +kernel, by decide +kernel⟩

theorem ok_Room {dvs : List V} (F : MAtD K R "__init__" "Room.__init__" stRoom_init dvs) (hd : dvs.length = 1) (T : TxtR K mg C R O) (D_need_way : Def P w K mg base CX0 1 "need_way" ["plan", "way"] (spNeedWay C)) (D_joined : Def P w K mg base CX0 2 "joined" ["plan", "name", "way"] (spJoined C)) :
    CMk P w K mg base CX0 3 "Room" R (spRoom C R) ["self", "plan", "way"] "Room.__init__" stRoom_init dvs := by
  refine F.make (sp0 := spRoom0 C R) T.Room scRoom_init (by intro z; rw [z] at hd; cases hd) (fun T kV doc pm an cdv ct us its l1 l2 => ?_) (fun vs H Q E h => ?_) (conv_room C R) (fun f cdv A outer s H vs Q E hr h => ?_)
  · rw [hd] at l2 ⊢
    match us, l1, its, l2 with
    | [_, _, _], _, [_], _ => exact ⟨_, rfl, rfl⟩
  · obtain ⟨r, dx, x, ks, ps, way, rfl, _⟩ := h
    rfl
  obtain ⟨r, dx, x, ks, ps, way, rfl, hx, hp, h1, h2, k⟩ := h
  have hu := hu_of hr
  have nd := scRoom_init.nd
  replace D_need_way := D_need_way.mono (show 1 ≤ 2 by decide)
  refine ⟨_, (pss_cons (ps_flK (K := K) rfl (pv 0) (pv 1) rfl)
      (pss_one (ps_flK (K := K) rfl (pv 0) (pe_cd D_joined hr pass0 (pa_cons (pv 1) (pa_cons (pe_tx [] (by decide +kernel)) (pa_cons (pe_cd D_need_way hr pass0 (pa_cons (pv 1) (pa_cons (pv 2) pa_nil))) pa_nil)))) rfl))), ?_⟩
  refine s_start [some _, some _, some _] rfl ?_
  walk_at "go"
  refine v_sfld hx T.Room.cl T.nPl (by decide) fun H1 s1 e1 => ?_
  walk_at "go"
  have hp1 : PlanAt C H1 x ks ps := by
    obtain ⟨dx', t', d, a1, a2, a3⟩ := hp.ex
    exact ⟨dx', t', d, s1 _ _ a1 (fun z => by rw [z, hx] at a1; injection a1 with a1; injection a1 with _ _ a1; cases a1), s1 _ _ a2 (ne_of a2 hx (by intro z; cases z)), s1 _ _ a3 (ne_of a3 hx (by intro z; cases z))⟩
  refine ⟨x, ks, ps, way, rfl, hp1, h1, h2, fun H2 s2 => ?_⟩
  walk_at "go"
  refine ⟨x, ks, ps, [], way, rfl, hp1.same s2, h1, by rw [List.length_nil]; omega, ?_⟩
  walk_at "go"
  refine v_sfld (s2 _ _ e1) T.Room.cl T.nNm (by show 1 < 1000; decide) fun H3 s3 e3 => ?_
  refine k H3 (fun b o hb nb => s3 _ _ (s2 _ _ (s1 _ _ hb nb)) nb) ⟨dx, e3⟩
end
end
section
open PySem PySem.Spec L2
theorem cells_ne {k : Nat} : ¬ ((Sum.inr (tx [k]) : Key) = Sum.inr ("cells" : Str)) := by
  intro h
  injection h with h
  have : (tx [k]).length = ("cells" : Str).length := by rw [h]
  rw [tx_len, List.length_singleton] at this
  exact absurd this (by decide +kernel)
theorem RoomAt.pen {R : Addr} {H H' : Hp} {r x : Addr} {nm : List Nat} {g : Pen} {n : Nat} (h : RoomAt R H r x nm) (p : PenAt g H n) (k : Keep g.p H H') : RoomAt R H' r x nm := by
  obtain ⟨dx, e⟩ := h.ex
  obtain ⟨a, b, h1, _⟩ := p.ex
  exact ⟨dx, k _ _ e (ne_of e h1 (by intro z; cases z))⟩
theorem PlanAt.pen {C : Addr} {H H' : Hp} {x : Addr} {ks : List Nat} {ps : List (List Nat)} {g : Pen} {n : Nat} (h : PlanAt C H x ks ps) (p : PenAt g H n) (k : Keep g.p H H') : PlanAt C H' x ks ps := by
  obtain ⟨dx, t, d, a1, a2, a3⟩ := h.ex
  obtain ⟨a, b, h1, _⟩ := p.ex
  refine ⟨dx, t, d, k _ _ a1 (ne_of a1 h1 (by intro z; cases z)), k _ _ a2 (ne_of a2 h1 (by intro z; cases z)), k _ _ a3 fun z => ?_⟩
  rw [z, h1] at a3
  injection a3 with a3
  injection a3 with a3
  unfold crossKV penL at a3
  generalize hk : ks.map _ = m at a3
  cases ks with
  | nil => rw [List.map_nil] at hk; rw [← hk] at a3; cases a3
  | cons c r =>
    rw [List.map_cons] at hk
    rw [← hk] at a3
    injection a3 with a3 _
    injection a3 with a3 _
    exact cells_ne a3.symm
theorem RoomAt.lst {R : Addr} {H H' : Hp} {r x q : Addr} {nm : List Nat} {l : List V} (h : RoomAt R H r x nm) (e0 : H q = some (.lst l)) (k : Keep q H H') : RoomAt R H' r x nm := by
  obtain ⟨dx, e⟩ := h.ex
  exact ⟨dx, k _ _ e (ne_of e e0 (by intro z; cases z))⟩
theorem PlanAt.lst {C : Addr} {H H' : Hp} {x q : Addr} {ks : List Nat} {ps : List (List Nat)} {l : List V} (h : PlanAt C H x ks ps) (e0 : H q = some (.lst l)) (k : Keep q H H') : PlanAt C H' x ks ps := by
  obtain ⟨dx, t, d, a1, a2, a3⟩ := h.ex
  exact ⟨dx, t, d, k _ _ a1 (ne_of a1 e0 (by intro z; cases z)), k _ _ a2 (ne_of a2 e0 (by intro z; cases z)), k _ _ a3 (ne_of a3 e0 (by intro z; cases z))⟩
end
section
open PySem PySem.Spec L2
/-- items, in a list or told as the letters of one text -/
def ItemsAt (H : Hp) (v : V) (xs : List V) : Prop := (∃ q, v = .ref q ∧ H q = some (.lst xs)) ∨ ∃ l : List Nat, v = .str (tx l) ∧ xs = l.map fun c => V.str (tx [c])
def spPick2 : Sp := fun vs H Q _ => ∃ (g : Pen) (n : Nat) (v : V) (xs : List V), vs = [.ref g.p, v] ∧ ItemsAt H v xs ∧ 0 < xs.length ∧ xs.length < 1000000 ∧ PenAt g H n ∧ n < 1000000 ∧
  ∀ u H', u ∈ xs → PenAt g H' (n + 1) → Keep g.p H H' → Q u H'
theorem PenAt.lst_ne {g : Pen} {H : Hp} {n : Nat} {q : Addr} {xs : List V} (h : PenAt g H n) (e : H q = some (.lst xs)) : q ≠ g.p := by
  obtain ⟨a, r, h1, _⟩ := h.ex
  exact ne_of e h1 (by intro z; cases z)
section
variable {P : Program} {w : World} {K : PySem.W.Frag} {mg : Str → Option Value} {base : Heap}
abbrev stpick2 : Stmt := (top 54)
abbrev Npick2 : List Str := ["_law_pen", "_law_some"]
theorem scpick2 : FnScope Npick2 ["_law_pen", "_law_some"] (defScope stpick2) := ⟨rfl, rfl, rfl, by decide +kernel, rfl, by decide +kernel, by decide +kernel⟩

theorem ok_pick2 (F : FnAt K mg "_law_pick" stpick2) (T : Txt K mg) (D_draw : Def P w K mg base CX0 1 "_law_draw" ["_law_pen", "_law_span"] spDraw) : Def P w K mg base CX0 2 "_law_pick" ["_law_pen", "_law_some"] spPick2 := by
  refine F.ok scpick2 (fun _ _ _ _ _ _ us hl => match us, hl with | [_, _], _ => rfl) (fun vs H Q E h => ?_) (fun f cdv A outer s H vs Q E hr h => ?_)
  · obtain ⟨g, n, v, xs, rfl, _⟩ := h
    rfl
  obtain ⟨g, n, v, xs, rfl, hv, h0, h1, hp, hn, k⟩ := h
  have hu := hu_of hr
  have nd := scpick2.nd
  refine ⟨_, (pss_one (ps_ret (pe_ix (IxR.or (ix_LK (K := K) rfl) ix_str) (pv 1) (pe_cd D_draw hr pass0 (pa_cons (pv 0) (pa_cons (pe_callB (CallR.or (c_lenK (K := K) rfl) c_lenS) (by rfl) T.len PySem.boot_len (pa_cons (pv 1) pa_nil)) pa_nil))) (fun _ _ => rfl)))), ?_⟩
  refine s_start [some _, some _] rfl ?_
  rcases hv with ⟨q, rfl, hq⟩ | ⟨l, rfl, rfl⟩
  · walk_at "go"
    refine .inl (v_lenG ⟨_, hq, ?_⟩)
    walk_at "go"
    refine ⟨g, xs.length, n, rfl, by omega, by omega, hp, hn, fun z H1 z0 z1 p1 k1 => ?_⟩
    walk_at "go"
    have hz : z.toNat < xs.length := by omega
    refine .inl (v_ixL (k1 _ _ hq (hp.lst_ne hq)) (at_of (j := z.toNat) (by omega) (List.getElem?_eq_getElem hz)) ?_)
    exact k _ H1 (List.getElem_mem hz) p1 k1
  · rw [List.length_map] at h0 h1
    have l1 : l.length ≤ 1000000 := by omega
    walk_at "go"
    refine .inr (v_lenS l1 ?_)
    walk_at "go"
    refine ⟨g, l.length, n, rfl, by omega, by omega, hp, hn, fun z H1 z0 z1 p1 k1 => ?_⟩
    walk_at "go"
    obtain ⟨i, rfl⟩ : ∃ i : Nat, z = (i : Int) := ⟨z.toNat, by omega⟩
    have hz : i < l.length := by omega
    refine .inr (v_ixS l1 (show atI l ((i : Nat) : Int) = some l[i] from atI_nat (List.getElem?_eq_getElem hz)) ?_)
    exact k _ H1 (List.mem_map.mpr ⟨_, List.getElem_mem hz, rfl⟩) p1 k1
end
end
section
open PySem PySem.Spec L2
structure Txt71 (K : PySem.W.Frag) (mg : Str → Option Value) : Prop extends Txt K mg where
  abs : mg "abs" = none
section
variable {P : Program} {w : World} {K : PySem.W.Frag} {mg : Str → Option Value} {base : Heap}
abbrev stdraw71 : Stmt := (top 53)
abbrev Ndraw71 : List Str := ["_law_pen", "_law_span", "_law_digit", "_law_at", "_law_cell", "_law_n"]
theorem scdraw71 : FnScope Ndraw71 ["_law_pen", "_law_span"] (defScope stdraw71) := ⟨rfl, rfl, rfl, by decide +kernel, rfl, by decide +kernel, by decide +kernel⟩

theorem ok_draw71 (F : FnAt K mg "_law_draw" stdraw71) (T : Txt71 K mg) : Def P w K mg base CX0 1 "_law_draw" ["_law_pen", "_law_span"] spDraw := by
  refine F.ok scdraw71 (fun _ _ _ _ _ _ us hl => match us, hl with | [_, _], _ => rfl) (fun vs H Q E h => ?_) (fun f cdv A outer s H vs Q E hr h => ?_)
  · obtain ⟨p, m, n, rfl, _⟩ := h
    rfl
  obtain ⟨⟨p, cl, cells⟩, m, n, rfl, hm0, hm1, hp, hn, k⟩ := h
  have hu := hu_of hr
  have nd := scdraw71.nd
  refine ⟨_, (pss_cons (ps_if (pt_cmpR op_gt (pe_dget hu (pv 0) pe_str (fun _ _ => rfl)) pe_int (nomark _))
      (pss_cons (ps_set (i := 2) nd rfl (Or.inl rfl) (pe_op op_mod (pe_callTy c_int (by rfl) T.int (by decide +kernel) (pa_cons (pe_dget hu (pv 0) pe_str (fun _ _ => rfl)) pa_nil)) (pv 1)))
        (pss_cons (ps_dput hu (pv 0) pe_str (pe_op op_fdivW (pe_dget hu (pv 0) pe_str (fun _ _ => rfl)) (pv 1)) rfl)
        (pss_one (ps_ret (pv 2)))))
      pss_nil)
      (pss_cons (ps_set (i := 3) nd rfl (Or.inl rfl) (pe_dget hu (pv 0) pe_str (fun _ _ => rfl)))
      (pss_cons (ps_dput hu (pv 0) pe_str (pe_op op_add (pv 3) pe_int) rfl)
      (pss_cons (ps_set (i := 4) nd rfl (Or.inl rfl) (pe_op op_add (pe_op op_mul pe_int (pv 3)) pe_int))
      (pss_cutS (ps_if (pt_cmpR (op_neDK (K := K) rfl hr.units) (pe_dget hu (pv 0) pe_str (fun _ _ => rfl)) (pe_lst pa_nil) (nomark _))
      (pss_one (ps_set (i := 4) nd rfl (Or.inl rfl) (pe_ix (ix_LK (K := K) rfl) (pe_dget hu (pv 0) pe_str (fun _ _ => rfl)) (pe_op op_mod (pe_callTy c_int (by rfl) T.int (by decide +kernel) (pa_cons (pv 3) pa_nil)) (pe_callB (c_lenK (K := K) rfl) (by rfl) T.len PySem.boot_len (pa_cons (pe_dget hu (pv 0) pe_str (fun _ _ => rfl)) pa_nil))) (fun _ _ => rfl))))
      pss_nil)
      (pss_cutS (ps_if (PW.pt (pw_and (pt_cmpR op_lt (pv 3) (pe_callB (c_lenK (K := K) rfl) (by rfl) T.len PySem.boot_len (pa_cons (pe_dget hu (pv 0) pe_str (fun _ _ => rfl)) pa_nil)) (nomark _)) (pw_and1 (pt_cmpR op_ge (pe_callB c_abs (by rfl) T.abs (by decide +kernel) (pa_cons (pv 4) pa_nil)) (pe_op op_pow pe_int pe_int) (nomark _)))))
      (pss_cons (ps_dput hu (pv 0) pe_str (pe_op op_fdivW (pe_op op_sub (pe_callB c_abs (by rfl) T.abs (by decide +kernel) (pa_cons (pv 4) pa_nil)) (pe_op op_pow pe_int pe_int)) (pv 1)) rfl)
        (pss_one (ps_ret (pe_op op_mod (pe_callTy c_int (by rfl) T.int (by decide +kernel) (pa_cons (pe_op op_sub (pe_callB c_abs (by rfl) T.abs (by decide +kernel) (pa_cons (pv 4) pa_nil)) (pe_op op_pow pe_int pe_int)) pa_nil)) (pv 1)))))
      pss_nil)
      (pss_cons (ps_set (i := 5) nd rfl (Or.inl rfl) (pe_op op_mod (pe_callTy c_int (by rfl) T.int (by decide +kernel) (pa_cons (pe_op op_add (pe_op op_add (pe_op op_add (pe_op op_mul (pe_op op_mod (pe_callTy c_int (by rfl) T.int (by decide +kernel) (pa_cons (pv 4) pa_nil)) pe_int) pe_int) (pe_op op_mul (pe_op op_mul pe_int (pv 3)) (pv 3))) (pe_op op_mul pe_int (pv 3))) pe_int) pa_nil)) pe_int))
      (pss_cons (ps_set (i := 5) nd rfl (Or.inl rfl) (pe_op op_mod (pe_callTy c_int (by rfl) T.int (by decide +kernel) (pa_cons (pe_op op_add (pe_op op_add (pe_op op_add (pe_op op_mul (pv 5) (pv 5)) (pe_op op_mul pe_int (pv 5))) (pe_op op_mul pe_int (pv 3))) pe_int) pa_nil)) pe_int))
      (pss_cons (ps_set (i := 5) nd rfl (Or.inl rfl) (pe_op op_mod (pe_callTy c_int (by rfl) T.int (by decide +kernel) (pa_cons (pe_op op_add (pe_op op_add (pe_op op_mul (pv 5) (pv 5)) (pe_op op_mul pe_int (pv 5))) (pv 3)) pa_nil)) pe_int))
      (pss_one (ps_ret (pe_op op_mod (pe_callTy c_int (by rfl) T.int (by decide +kernel) (pa_cons (pe_op op_fdivW (pe_op op_mod (pe_callTy c_int (by rfl) T.int (by decide +kernel) (pa_cons (pe_op op_mul (pv 5) (pe_op op_add (pv 5) pe_int)) pa_nil)) pe_int) pe_int) pa_nil)) (pv 1))))))))))))), ?_⟩
  refine s_start [some _, some _, none, none, none, none] rfl ?_
  obtain ⟨a, r, h1, h2, h3, h4, h5, h6⟩ := hp.ex
  dsimp only at h1 h2 h3 k ⊢
  have g1 := pen_rest h1
  have g2 := pen_place h1
  have g3 := pen_cells h1
  have fin : ∀ (H2 : Hp) (a2 r2 z : Int), H2 p = some (.dK (penL cl a2 r2)) → Keep p H H2 → 0 ≤ a2 → a2 ≤ a + 1 → 0 ≤ r2 → 0 ≤ z → z < m → Q (.int z) H2 := by
    intro H2 a2 r2 z e1 e2 e3 e4 e5 e6 e7
    have ne : cl ≠ p := ne_of h2 h1 (by intro z; cases z)
    exact k z H2 e6 e7 ⟨a2, r2, e1, e2 _ _ h2 ne, h3, e3, by omega, e5⟩ e2
  walk_at "go"
  refine if_dec (fun c => ?_) (fun c => ?_)
  · walk_at "go"
    refine v_put (pen_setRest h1) fun H1 s1 e1 => ?_
    walk_at "go"
    refine fin H1 _ _ _ e1 s1 h4 (by omega) (Int.ediv_nonneg h6 (by omega)) (Int.emod_nonneg _ (by omega)) (Int.emod_lt_of_pos _ hm0)
  · walk_at "go"
    refine v_put (pen_setPlace h1) fun H1 s1 e1 => ?_
    have ne : cl ≠ p := ne_of h2 h1 (by intro z; cases z)
    have h2' := s1 _ _ h2 ne
    have g1 := pen_rest e1
    have g3 := pen_cells e1
    walk_at "go"
    refine s_cut (fun σ' H' => ∃ c : Int, σ' = [some (.ref p), some (.int m), none, some (.int a), some (.int c), none] ∧ Same H1 H') ?_ ?_
    · walk_at "go"
      intro q H2 hq s2 e2
      refine v_neNilI (s2 _ _ h2') e2 ?_
      have g3 := pen_cells (s2 _ _ e1)
      walk_at "go"
      refine if_bool (fun c => ?_) (fun c => ?_)
      · have hne : 0 < cells.length := by
          cases cells with
          | nil => simp at c
          | cons _ _ => simp
        walk_at "go"
        · rw [List.length_map]; omega
        walk_at "go"
        rw [List.length_map]
        have hz0 : 0 ≤ a % (cells.length : Int) := Int.emod_nonneg _ (by omega)
        have hz1 : a % (cells.length : Int) < cells.length := Int.emod_lt_of_pos _ (by omega)
        have hlt : (a % (cells.length : Int)).toNat < cells.length := by omega
        refine v_ixL (s2 _ _ h2') (at_of (j := (a % (cells.length : Int)).toNat) (by omega) (by rw [List.getElem?_map, List.getElem?_eq_getElem hlt]; rfl)) ?_
        exact ⟨_, rfl, s2⟩
      · walk_at "go"
        exact ⟨_, rfl, s2⟩
    · rintro σ' H2 ⟨c, rfl, s2⟩
      have e2 := s2 _ _ e1
      have h22 := s2 _ _ h2'
      have g3 := pen_cells e2
      have kk : Keep p H H2 := s1.trans (Keep.of s2)
      have ze : (10 : Int) ^ (18 : Int).toNat = 1000000000000000000 := by decide
      refine s_cut (fun σ' H' => σ' = [some (.ref p), some (.int m), none, some (.int a), some (.int c), none] ∧ H' = H2) ?_ ?_
      · walk_at "go"
        refine if_dec (fun c1 => ?_) (fun c1 => ?_)
        · walk_at "go"
          refine v_abs ?_
          walk_at "go"
          rw [ze]
          refine if_dec (fun c2 => ?_) (fun c2 => ?_)
          · walk_at "go"
            refine v_abs ?_
            walk_at "go"
            rw [ze]
            refine v_put (pen_setRest e2) fun H3 s3 e3 => ?_
            walk_at "go"
            refine v_abs ?_
            walk_at "go"
            rw [ze]
            exact fin H3 _ _ _ e3 (kk.trans s3) (by omega) (by omega) (Int.ediv_nonneg (by omega) (by omega)) (Int.emod_nonneg _ (by omega)) (Int.emod_lt_of_pos _ hm0)
          · walk_at "go"
            exact ⟨rfl, rfl⟩
        · walk_at "go"
          exact ⟨rfl, rfl⟩
      · rintro σ' H' ⟨rfl, rfl⟩
        walk_at "go"
        exact fin H' _ _ _ e2 kk (by omega) (by omega) h6 (Int.emod_nonneg _ (by omega)) (Int.emod_lt_of_pos _ hm0)
end
end
section
open PySem PySem.Spec L2
def RowTu (H : Hp) (q : Addr) (r : List Nat) : Prop := H q = some (.tup (numV r))
abbrev TabT (H : Hp) (t : Addr) (T : List (List Nat)) : Prop := RefsT RowTu H t T
theorem TabT.keep {H H' : Hp} {t : Addr} {T : List (List Nat)} (h : TabT H t T) (s : Same H H') : TabT H' t T := h.same s fun p a e => s _ _ e
theorem walk_tabT {α : Type} {K : PySem.W.Frag} {t : Addr} {E : List (α × Addr)} : Walk (Itt K t) E.length (fun H => SqT K H t (refV E)) (fun k H x H' => H' = H ∧ ∃ e, E[k]? = some e ∧ x = V.ref e.2) := by
  have w := walk_tup (K := K) (a := t) (xs := refV E)
  rw [List.length_map] at w
  refine w.mono (fun _ z => z) fun i H x H' hi _ y => ?_
  obtain ⟨rfl, e⟩ := y
  rw [List.getElem?_map] at e
  obtain ⟨z, h1, h2⟩ := Option.map_eq_some_iff.mp e
  exact ⟨rfl, z, h1, h2.symm⟩
theorem num_at {l : List Nat} {i : Nat} (h : i < l.length) : (numV l)[i]? = some (.int ((l.getD i 0 : Nat) : Int)) := by
  unfold numV
  rw [List.getElem?_map, List.getD_eq_getElem?_getD, List.getElem?_eq_getElem h]
  rfl
structure TxtCl (K : PySem.W.Frag) (mg : Str → Option Value) : Prop extends Txt71 K mg where
  tuple : mg "tuple" = none
  enumerate : mg "enumerate" = none
def spFoundP : Sp := fun vs H Q _ => ∃ (t : Addr) (T : List (List Nat)) (n first : Nat), vs = [.ref t, .int ((first : Nat) : Int)] ∧ TabT H t T ∧ OkT n T ∧ first < n ∧ n ≤ 1000 ∧ ∀ p H', H p = none → Same H H' → H' p = some (.lst (numV (bfs T n first))) → Q (.ref p) H'
section
variable {P : Program} {w : World} {K : PySem.W.Frag} {mg : Str → Option Value} {base : Heap}
abbrev stfound_places : Stmt := (top 41)
abbrev Nfound_places : List Str := ["rows", "first", "found", "seen", "at", "row", "place"]
theorem scfound_places : FnScope Nfound_places ["rows", "first"] (defScope stfound_places) := ⟨rfl, rfl, rfl, by decide +kernel, rfl, by decide +kernel, by decide +kernel⟩

theorem ok_found_places (F : FnAt K mg "found_places" stfound_places) (T : TxtCl K mg) : Def P w K mg base CX0 1 "found_places" ["rows", "first"] spFoundP := by
  refine F.ok scfound_places (fun _ _ _ _ _ _ us hl => match us, hl with | [_, _], _ => rfl) (fun vs H Q E h => ?_) (fun f cdv A outer s H vs Q E hr h => ?_)
  · obtain ⟨t, T, n, first, rfl, _⟩ := h
    rfl
  obtain ⟨t, TT, n, first, rfl, hT, okT, lf, ln, k⟩ := h
  have hu := hu_of hr
  have nd := scfound_places.nd
  refine ⟨_, (pss_cons (ps_set (i := 2) nd rfl (Or.inl rfl) (pe_lst (pa_cons (pv 1) pa_nil)))
      (pss_cons (ps_set (i := 3) nd rfl (Or.inl rfl) (pe_disp (pps_cons (pv 1) pe_bl pps_nil) (by rfl) (by rfl) (fun z => by cases z) (by decide)))
      (pss_cons (ps_set (i := 4) nd rfl (Or.inl rfl) pe_int)
      (pss_cutS (ps_while PassesOwn.never (pt_cmpR op_lt (pv 4) (pe_callB (c_lenK (K := K) rfl) (by rfl) T.len PySem.boot_len (pa_cons (pv 2) pa_nil)) (nomark _))
      (pss_cons (ps_for PassesOwn.never rfl (pi_tupK (K := K) rfl (pv 0)) (pg_name (i := 5) nd rfl (Or.inl rfl))
        (pss_cons (ps_set (i := 6) nd rfl (Or.inl rfl) (pe_ix (ix_TK (K := K) rfl) (pv 5) (pe_ix (ix_LK (K := K) rfl) (pv 2) (pv 4) (fun _ _ => rfl)) (fun _ _ => rfl)))
          (pss_one (ps_if (pt_cmp (pc_dnotin hu (pv 6) (pv 3)))
          (pss_cons (ps_dput hu (pv 3) (pv 6) pe_bl rfl)
            (pss_one (ps_expr (pe_appK (K := K) rfl (pv 2) (pv 6)))))
          pss_nil))))
        (pss_one (ps_aug (i := 4) nd rfl (Or.inl rfl) pe_int ip_add))))
      (pss_one (ps_ret (pv 2))))))), ?_⟩
  refine s_start [some _, some _, none, none, none, none, none] rfl ?_
  obtain ⟨E, e1, e2, e3⟩ := hT.ex
  walk_at "go"
  intro fo H1 hfo s1 efo
  walk_at "go"
  intro se hse
  refine e_pr ?_
  walk_at "go"
  refine ⟨upd_same, [(Sum.inl ((first : Nat) : Int), .bl true)], rfl, (by show 1 ≤ 15; decide), ?_⟩
  have em : upd (upd H1 se (.dK [])) se (.dK (mergeK [] [((Sum.inl ((first : Nat) : Int) : Key), V.bl true)])) = upd H1 se (.dK (nKV [first] fun _ => .bl true)) := by
    funext b
    by_cases c : b = se
    · subst c
      rw [upd_same, upd_same]
      rfl
    · rw [upd_ne c, upd_ne c, upd_ne c]
  rw [em]
  have s2 : Same H1 (upd H1 se (.dK (nKV [first] fun _ => .bl true))) := Same.new hse
  have ese : upd H1 se (.dK (nKV [first] fun _ => .bl true)) se = some (.dK (nKV [first] fun _ => .bl true)) := upd_same
  generalize upd H1 se (.dK (nKV [first] fun _ => .bl true)) = H2 at s2 ese
  walk_at "go"
  have nfs : fo ≠ se := ne_of_none efo hse
  have hse0 : H se = none := Same.free s1 hse
  refine s_cut (fun σ H' => ∃ y4 y5 y6, σ = [some (.ref t), some (.int ((first : Nat) : Int)), some (.ref fo), some (.ref se), y4, y5, y6] ∧ Same H H' ∧ H' fo = some (.lst (numV (bfs TT n first)))) ?_ ?_
  · refine s_while (fun m σ H' => ∃ i fd y5 y6, m + i = n + 1 ∧ σ = [some (.ref t), some (.int ((first : Nat) : Int)), some (.ref fo), some (.ref se), some (.int ((i : Nat) : Int)), y5, y6] ∧ FdOk n fd ∧ i ≤ fd.length ∧ fp TT m i fd = bfs TT n first ∧ H' fo = some (.lst (numV fd)) ∧ H' se = some (.dK (nKV fd fun _ => .bl true)) ∧ Same H H') (n + 1) ⟨0, [first], _, _, rfl, rfl, .one lf, Nat.zero_le _, rfl, s2 _ _ efo, ese, s1.trans s2⟩ ?_
    rintro m σ H3 ⟨i, fd, y5, y6, hm, rfl, fok, li, efp, e1', e2', s3⟩
    have lfd := fok.len
    walk_at "go"
    have lnm : (numV fd).length = fd.length := List.length_map _
    refine if_dec (fun c => ?_) (fun c => ?_)
    · have ci : i < fd.length := by omega
      obtain ⟨m', rfl⟩ : ∃ m', m = m' + 1 := ⟨m - 1, by omega⟩
      have hx : fd.getD i 0 < n := fok.lt _ (getD_mem ci)
      have efp2 : fp TT m' (i + 1) (addT TT (fd.getD i 0) fd) = bfs TT n first := by
        rw [← efp]
        show _ = if i < fd.length then _ else _
        rw [if_pos ci]
      refine v_turn ?_
      generalize hxd : fd.getD i 0 = x at hx efp2
      walk_at "go"
      refine ⟨_, rfl, ⟨_, SqT.of (s3 _ _ e2)⟩, ?_⟩
      refine for_it (walk_tabT (K := K) (E := E)) (fun j σ H' => ∃ y5 y6, σ = [some (.ref t), some (.int ((first : Nat) : Int)), some (.ref fo), some (.ref se), some (.int ((i : Nat) : Int)), y5, y6] ∧ FdOk n (addT (TT.take j) x fd) ∧ H' fo = some (.lst (numV (addT (TT.take j) x fd))) ∧ H' se = some (.dK (nKV (addT (TT.take j) x fd) fun _ => .bl true)) ∧ Same H H') ⟨_, _, rfl, fok, e1', e2', s3⟩ ?_ ?_ ?_
      · rintro j σ H' _ ⟨_, _, _, _, _, _, sH⟩
        exact SqT.of (sH _ _ e2)
      · rintro j v σ H4 H5 hj ⟨y5, y6, rfl, fok4, e14, e24, s4⟩ ⟨rfl, e, he, rfl⟩
        have em := List.mem_of_getElem? he
        have hr : TT[j]? = some e.1 := by rw [← e1, List.getElem?_map, he]; rfl
        have er : H5 e.2 = some (.tup (numV e.1)) := s4 _ _ (e3 e em)
        have eT : e.1 ∈ TT := List.mem_of_getElem? hr
        have hp : e.1.getD x 0 < n := okT.get eT hx
        have nx : addT (TT.take (j + 1)) x fd = if e.1.getD x 0 ∈ addT (TT.take j) x fd then addT (TT.take j) x fd else addT (TT.take j) x fd ++ [e.1.getD x 0] := by rw [take_succ_get hr, addT_snoc]
        obtain ⟨qq, hqq⟩ := addT_pre (TT.take j) x fd
        have gi : (addT (TT.take j) x fd).getD i 0 = x := by
          rw [hqq, List.getD_eq_getElem?_getD, List.getElem?_append_left ci, ← List.getD_eq_getElem?_getD, hxd]
        have li4 : i < (addT (TT.take j) x fd).length := by rw [hqq, List.length_append]; omega
        have l4 := fok4.len
        generalize addT (TT.take j) x fd = fd4 at *
        walk_at "go"
        refine v_ixL e14 (at_of (j := i) rfl (num_at li4)) ?_
        rw [gi]
        walk_at "go"
        refine v_ixT er (at_of (j := x) rfl (num_at (by rw [(okT _ eT).1]; exact hx))) ?_
        walk_at "go"
        by_cases c4 : e.1.getD x 0 ∈ fd4
        · refine v_dnotin (num_get e24 c4) ?_
          rw [if_pos c4] at nx
          walk_at "go"
          exact ⟨_, _, rfl, by rw [nx]; exact fok4, by rw [nx]; exact e14, by rw [nx]; exact e24, s4⟩
        · refine v_dnotin (num_not e24 c4) ?_
          rw [if_neg c4] at nx
          try walk_at "go"
          rw [if_pos (show (!(none : Option V).isSome) = true from rfl)]
          walk_at "go"
          refine v_put (num_put e24 c4 (by omega)) fun H6 k6 e6 => ?_
          walk_at "go"
          have e16 := k6 _ _ e14 nfs
          refine v_app e16 (by unfold numV; rw [List.length_map]; omega) fun H7 k7 e7 => ?_
          refine ⟨_, _, rfl, by rw [nx]; exact fok4.snoc hp c4, ?_, ?_, fun b o hb => k7 _ _ (k6 _ _ (s4 _ _ hb) (ne_of_none hb hse0)) (ne_of_none hb hfo)⟩
          · rw [nx, e7]
            unfold numV
            rw [List.map_append]
            rfl
          · rw [nx, k7 _ _ e6 nfs.symm]
            refine congrArg (fun z => some (HO.dK z)) ?_
            unfold nKV
            exact List.map_congr_left fun c _ => by simp
      · rintro σ H4 ⟨y5, y6, rfl, fok4, e14, e24, s4⟩
        rw [List.take_of_length_le (by rw [← e1, List.length_map]; exact Nat.le_refl _)] at fok4 e14 e24
        refine ⟨_, rfl, _, _, rfl, rfl, ?_⟩
        obtain ⟨qq, hqq⟩ := addT_pre TT x fd
        exact ⟨m', Nat.lt_succ_self _, i + 1, addT TT x fd, _, _, by omega, rfl, fok4, by rw [hqq, List.length_append]; omega, efp2, e14, e24, s4⟩
    · have : i = fd.length := by omega
      have efd : fd = bfs TT n first := by
        rw [← efp]
        cases m with
        | zero => rfl
        | succ m =>
          show _ = if i < fd.length then _ else _
          rw [if_neg (by omega)]
      walk_at "go"
      exact ⟨_, _, _, rfl, s3, by rw [← efd]; exact e1'⟩
  rintro σ' H3 ⟨y4, y5, y6, rfl, s3, e1'⟩
  walk_at "go"
  exact k fo H3 hfo s3 e1'
end
end
section
open PySem PySem.Spec L2
theorem ne_tupL {H : Hp} {a b : Addr} {xs ys : List V} (h : H a = some (.tup xs)) (h2 : H b = some (.lst ys)) : a ≠ b := fun e => by
  rw [e, h2] at h
  cases h
theorem walk_numL {K : PySem.W.Frag} {a : Addr} {l : List Nat} : Walk (Itl K a) l.length (fun H => SqL K H a (numV l)) (fun k H x H' => H' = H ∧ x = .int ((l.getD k 0 : Nat) : Int)) := by
  have w := walk_list (K := K) (a := a) (xs := numV l)
  rw [show (numV l).length = l.length from List.length_map _] at w
  refine w.mono (fun _ z => z) fun i H x H' hi _ y => ⟨y.1, ?_⟩
  have z := y.2
  rw [num_at hi] at z
  exact (Option.some.inj z).symm
theorem range_num (l : List Nat) (g : Nat → Nat) : (((List.range l.length).filter fun _ => true).map fun k => V.int ((g (l.getD k 0) : Nat) : Int)) = numV (l.map g) := by
  rw [List.filter_eq_self.mpr (fun _ _ => rfl)]
  unfold numV
  rw [List.map_map]
  refine List.ext_getElem (by simp) fun i h1 h2 => ?_
  rw [List.length_map, List.length_range] at h1
  rw [List.getElem_map, List.getElem_range, List.getElem_map, List.getD_eq_getElem?_getD, List.getElem?_eq_getElem h1]
  rfl
def spNumP : Sp := fun vs H Q _ => ∃ (t : Addr) (T : List (List Nat)) (n first : Nat), vs = [.ref t, .int ((first : Nat) : Int)] ∧ TabT H t T ∧ OkT n T ∧ T.length ≤ 1000 ∧ first < n ∧ n ≤ 1000 ∧ ∀ q H', H q = none → Same H H' → TabT H' q (numT T (bfs T n first)) → Q (.ref q) H'
section
variable {P : Program} {w : World} {K : PySem.W.Frag} {mg : Str → Option Value} {base : Heap}
abbrev stnumbered_rows : Stmt := (top 42)
abbrev Nnumbered_rows : List Str := ["rows", "first", "found", "numbers", "at", "place", "row"]
theorem scnumbered_rows : FnScope Nnumbered_rows ["rows", "first"] (defScope stnumbered_rows) := ⟨rfl, rfl, rfl, by decide +kernel, rfl, by decide +kernel, by decide +kernel⟩

theorem ok_numbered_rows (F : FnAt K mg "numbered_rows" stnumbered_rows) (T : TxtCl K mg) (D_found_places : Def P w K mg base CX0 1 "found_places" ["rows", "first"] spFoundP) : Def P w K mg base CX0 2 "numbered_rows" ["rows", "first"] spNumP := by
  refine F.ok scnumbered_rows (fun _ _ _ _ _ _ us hl => match us, hl with | [_, _], _ => rfl) (fun vs H Q E h => ?_) (fun f cdv A outer s H vs Q E hr h => ?_)
  · obtain ⟨t, T, n, first, rfl, _⟩ := h
    rfl
  obtain ⟨t, TT, n, first, rfl, hT, okT, lT, lf, ln, k⟩ := h
  have hu := hu_of hr
  have nd := scnumbered_rows.nd
  refine ⟨_, (pss_cons (ps_set (i := 2) nd rfl (Or.inr rfl) (pe_cd D_found_places hr pass0 (pa_cons (pv 0) (pa_cons (pv 1) pa_nil))))
      (pss_cons (ps_set (i := 3) nd rfl (Or.inr rfl) (pe_dc (own := [("at", 4), ("place", 5)]) (g := gTup K 2 (gCons (gName 4) (gCons (gName 5) (gNil)))) (by rfl) nd (pi_enum (by rfl) T.enumerate (pa_cons (pv 2) pa_nil)) (blkOk_by (own := [("at", 4), ("place", 5)]) (N := Nnumbered_rows) (sc := defScope stnumbered_rows) (by decide +kernel)) (fun _ _ _ _ _ => (pg_tup rfl (pgs_cons (pg_name (i := 4) nd rfl (Or.inl rfl)) (pgs_cons (pg_name (i := 5) nd rfl (Or.inl rfl)) pgs_nil)))) (fun _ _ _ _ _ => pts_nil) (fun _ _ _ _ _ => (pv 5)) (fun _ _ _ _ _ => (pv 4))))
      (pss_one (ps_ret (pe_callTy (c_tupleK (K := K) rfl) (by rfl) T.tuple (by decide +kernel) (pa_cons (pe_lc (own := [("row", 6)]) (g := gName 6) (by rfl) nd (pi_tupK (K := K) rfl (pv 0)) (blkOk_by (own := [("row", 6)]) (N := Nnumbered_rows) (sc := defScope stnumbered_rows) (by decide +kernel)) (fun _ _ _ _ _ => (pg_name (i := 6) nd rfl (Or.inr rfl))) (fun _ _ _ _ _ => pts_nil) (fun _ _ _ _ _ => (pe_callTy (c_tupleK (K := K) rfl) (by rfl) T.tuple (by decide +kernel) (pa_cons (pe_lc (own := [("place", 5)]) (g := gName 5) (by rfl) nd (pi_listK (K := K) rfl (pv 2)) (blkOk_by (own := [("place", 5)]) (N := Nnumbered_rows) (sc := { kind := .function, names := [(".0", .local), ("row", .cell), ("tuple", .globalImplicit), ("found", .cell), ("numbers", .cell)], isGenerator := false, isCoroutine := false }) (by decide +kernel)) (fun _ _ _ _ _ => (pg_name (i := 5) nd rfl (Or.inl rfl))) (fun _ _ _ _ _ => pts_nil) (fun _ _ _ _ _ => (pe_dget hu (pv 3) (pe_ix (ix_TK (K := K) rfl) (pv 6) (pv 5) (fun _ _ => rfl)) (fun _ _ => rfl)))) pa_nil)))) pa_nil)))))), ?_⟩
  refine s_start [some _, some _, none, none, none, none, none] rfl ?_
  obtain ⟨E, e1, e2, e3⟩ := hT.ex
  have lE : E.length = TT.length := by rw [← e1, List.length_map]
  walk_at "go"
  refine ⟨t, TT, n, first, rfl, hT, okT, lf, ln, fun p H1 hp s1 ep => ?_⟩
  have fok := bfs_ok okT lf
  have fcl := bfs_closed okT lf
  have lfd := fok.len
  generalize hfd : bfs TT n first = fd at *
  walk_at "go"
  refine e_iEnumL ?_
  walk_at "go"
  refine ⟨p, numV fd, rfl, SqL.of ep, ?_⟩
  refine dc_numE (by decide) fok.nd ep (by omega) (fun σ' H' R r => r) (fun kk x H' R r => ⟨_, rfl, r⟩) (fun kk x H' R r => ⟨_, rfl, r⟩) (fun d H2 hd s2 ed => ?_)
  have s02 := s1.trans s2
  walk_at "go"
  refine ⟨_, rfl, ⟨_, SqT.of (s02 _ _ e2)⟩, ?_⟩
  refine lc_refsT (E := E) (R' := fun H' v r => ∃ q, v = .ref q ∧ RowTu H' q (rowN fd r)) (s02 _ _ e2) (by omega) (fun v r H3 H4 ⟨q, e, z⟩ s => ⟨q, e, s _ _ z⟩) (fun v r H3 H4 D l ⟨q, e, z⟩ e0 kp => ⟨q, e, kp _ _ z (ne_tupL z e0)⟩) (fun e he H3 s3 R r => ?_) (fun e he H3 s3 R r => ?_) (fun D H3 vs hD s3 eD lv rv => ?_)
  · walk_at "go"
    exact r _ (Same.refl _)
  · have er : H3 e.2 = some (.tup (numV e.1)) := s3 _ _ (s02 _ _ (e3 e he))
    have eT : e.1 ∈ TT := by rw [← e1]; exact List.mem_map.mpr ⟨e, he, rfl⟩
    have ep3 := s3 _ _ (s2 _ _ ep)
    have ed3 := s3 _ _ ed
    walk_at "go"
    refine lc_gen (n := fd.length) (b := fun _ => true) (it := fun j => .int ((fd.getD j 0 : Nat) : Int)) (f := fun j => .int ((ixOf fd (e.1.getD (fd.getD j 0) 0) : Nat) : Int)) walk_numL (fun H' s' => SqL.of (s' _ _ ep3)) (by omega) (fun j hj H4 s4 R' rr => ?_) (fun j hj _ H4 s4 R' rr => ?_) (fun D H4 hD s4 eD => ?_)
    · walk_at "go"
      exact rr _ (Same.refl _)
    · have mj := getD_mem hj
      walk_at "go"
      refine v_ixT (s4 _ _ er) (at_of (j := fd.getD j 0) rfl (num_at (by rw [(okT _ eT).1]; exact fok.lt _ mj))) ?_
      walk_at "go"
      refine v_dget (num_get (s4 _ _ ed3) (fcl _ mj _ eT)) ?_
      walk_at "go"
      exact rr _ (Same.refl _)
    rw [range_num fd fun p => ixOf fd (e.1.getD p 0)] at eD
    walk_at "go"
    refine v_tuple eD fun q H5 hq s5 eq => ?_
    exact r _ _ (s4.trans s5) ⟨q, rfl, eq⟩
  walk_at "go"
  obtain ⟨G, g1, rfl, g3⟩ := refs_of (R := RowTu) (H := H3) (vs := vs) (D := numT TT fd) (by rw [lv]; unfold numT; rw [List.length_map]; exact lE) fun j v r h1 h2 => by
    unfold numT at h2
    rw [List.getElem?_map] at h2
    obtain ⟨r0, hr0, rfl⟩ := Option.map_eq_some_iff.mp h2
    rw [← e1, List.getElem?_map] at hr0
    obtain ⟨e, he, rfl⟩ := Option.map_eq_some_iff.mp hr0
    exact rv j v e h1 he
  refine v_tuple eD fun q H4 hq s4 eq => ?_
  exact k q H4 (Same.free (s02.trans s3) hq) ((s02.trans s3).trans s4) ⟨G, g1, eq, fun e he => s4 _ _ (g3 e he)⟩
end
end
section
open PySem PySem.Spec L2
/-- tables of n places that lead back -/
def Back (n : Nat) (T : List (List Nat)) : Prop := ∀ r ∈ T, ∀ p, p < n → r.getD (r.getD p 0) 0 = p
theorem walk_zipS {K : PySem.W.Frag} {a : Addr} {ks : List Nat} {xs : List V} : Walk (Itzs K (tx ks) a xs) xs.length (fun H => H a = some (.tup xs)) (fun i H v H' => ∃ T c y, v = .ref T ∧ H T = none ∧ H' = upd H T (.tup [.str (tx [c]), y]) ∧ ks[i]? = some c ∧ xs[i]? = some y) := by
  refine ⟨fun i H hi h => ⟨hi, SqT.of h⟩, fun H h => ⟨Nat.le_refl _, SqT.of h⟩, fun i H v H' hi h y => ?_⟩
  obtain ⟨T, c, z, e1, e2, e3, e4, e5⟩ := y
  exact ⟨T, c, z, e1, e2, e3, by simpa using e4, e5⟩
theorem e_chain71 {r r' : R2} {ta tb tc : TE} {σ : L2.St} {H : Hp} {Q : VK} (q : ta σ H fun x H1 => tb σ H1 fun y H2 => r x y H2 fun z H3 => ∃ k, z = .bl k ∧ (if k = true then tc σ H3 fun w' H4 => r' y w' H4 Q else Q (.bl false) H3)) : tChain r r' ta tb tc σ H Q := q
theorem v_lenT71 {K : PySem.W.Frag} {H : Hp} {Q : VK} {p : Addr} {xs : List V} (h : H p = some (.tup xs)) (q : Q (.int ((xs.length : Nat) : Int)) H) : rLen K [.ref p] H Q := ⟨p, xs, rfl, .inr (SqT.of h), q⟩
theorem e_iZipS {K : PySem.W.Frag} {ta : TA} {σ : L2.St} {H : Hp} {R : It → Hp → Prop} (q : ta σ H fun vs H1 => ∃ x a xs, vs = [.str x, .ref a] ∧ SqT K H1 a xs ∧ x.cps.size = xs.length ∧ R (Itzs K x a xs) H1) : iZipS K ta σ H R := q
theorem e_iEnumT71 {K : PySem.W.Frag} {ta : TA} {σ : L2.St} {H : Hp} {R : It → Hp → Prop} (q : ta σ H fun vs H1 => ∃ a xs, vs = [.ref a] ∧ SqT K H1 a xs ∧ R (Itet K a xs) H1) : iEnumT K ta σ H R := q
theorem walk_enumT71 {K : PySem.W.Frag} {a : Addr} {xs : List V} : Walk (Itet K a xs) xs.length (fun H => H a = some (.tup xs)) (fun i H v H' => ∃ T x, v = .ref T ∧ H T = none ∧ H' = upd H T (.tup [.int ((i : Nat) : Int), x]) ∧ xs[i]? = some x) := ⟨fun i H hi h => ⟨hi, SqT.of h⟩, fun H h => ⟨Nat.le_refl _, SqT.of h⟩, fun i H v H' hi h y => y⟩
structure TxtCp (K : PySem.W.Frag) (mg : Str → Option Value) (C : Addr) : Prop extends TxtCl K mg where
  zip : mg "zip" = none
  range : mg "range" = none
  Plan : ClsF K mg "Plan" C
  nK : NoAttr K C "kinds"
  nP : NoAttr K C "pairs"
def spNeedE (C : Addr) : Sp := fun vs H Q _ => ∃ (x t : Addr) (b : Bool) (ks : List Nat) (ps T : List (List Nat)) (n : Nat), vs = [.ref x, .ref t, .bl b] ∧ PlanAt C H x ks ps ∧ TabT H t T ∧ T.length = ks.length ∧ OkT n T ∧ n ≤ 1000 ∧ (b = true → Back n T) ∧ ∀ H', Same H H' → Q .non H'
section
variable {P : Program} {w : World} {K : PySem.W.Frag} {mg : Str → Option Value} {base : Heap} {C : Addr}
abbrev stneed_entries : Stmt := (top 39)
abbrev Nneed_entries : List Str := ["plan", "rows", "turning", "kind", "row", "place", "entry"]
theorem scneed_entries : FnScope Nneed_entries ["plan", "rows", "turning"] (defScope stneed_entries) := ⟨rfl, rfl, rfl, by decide +kernel, rfl, by decide +kernel, by decide +kernel⟩

theorem ok_need_entries (F : FnAt K mg "need_entries" stneed_entries) (T : TxtCp K mg C) : Def P w K mg base CX0 1 "need_entries" ["plan", "rows", "turning"] (spNeedE C) := by
  refine F.ok scneed_entries (fun _ _ _ _ _ _ us hl => match us, hl with | [_, _, _], _ => rfl) (fun vs H Q E h => ?_) (fun f cdv A outer s H vs Q E hr h => ?_)
  · obtain ⟨x, t, b, ks, ps, T, n, rfl, _⟩ := h
    rfl
  obtain ⟨x, t, b, ks, ps, TT, n, rfl, pl, hT, lT, okT, ln, bk, k⟩ := h
  have hu := hu_of hr
  have nd := scneed_entries.nd
  refine ⟨_, (pss_one (ps_for PassesOwn.never rfl (pi_zipS (by rfl) T.zip (pa_cons (pe_flK (K := K) rfl (pv 0) rfl) (pa_cons (pv 1) pa_nil))) (pg_tup rfl (pgs_cons (pg_name (i := 3) nd rfl (Or.inl rfl)) (pgs_cons (pg_name (i := 4) nd rfl (Or.inl rfl)) pgs_nil)))
      (pss_one (ps_for PassesOwn.never rfl (pi_enumT (by rfl) T.enumerate (pa_cons (pv 4) pa_nil)) (pg_tup rfl (pgs_cons (pg_name (i := 5) nd rfl (Or.inl rfl)) (pgs_cons (pg_name (i := 6) nd rfl (Or.inl rfl)) pgs_nil)))
        (pss_one (ps_if (PW.pt (pw_or (pt_not (pt_chain op_le op_lt pe_int (pv 6) (pe_callB (c_lenK (K := K) rfl) (by rfl) T.len PySem.boot_len (pa_cons (pv 4) pa_nil)))) (pw_or1 (PW.pt (pw_and (pt_val (pv 2)) (pw_and1 (pt_cmpR op_ne (pe_ix (ix_TK (K := K) rfl) (pv 4) (pv 6) (fun _ _ => rfl)) (pv 5) (nomark _))))))))
          (pss_one ps_never)
          pss_nil)))))), ?_⟩
  refine s_start [some _, some _, some _, none, none, none, none] rfl ?_
  obtain ⟨E, e1, e2, e3⟩ := hT.ex
  have lE : E.length = TT.length := by rw [← e1, List.length_map]
  obtain ⟨dx, tp, dq, a1, a2, a3⟩ := pl.ex
  walk_at "go"
  refine e_iZipS ?_
  walk_at "go"
  refine v_fld a1 T.Plan.cl T.nK planF_k ?_
  walk_at "go"
  have lr : (refV E).length = E.length := List.length_map _
  refine ⟨tx ks, t, refV E, rfl, SqT.of e2, by rw [lr, lE, lT]; simp, ?_⟩
  refine for_it (walk_zipS (K := K) (a := t) (ks := ks) (xs := refV E)) (fun j σ H' => ∃ y3 y4 y5 y6, σ = [some (.ref x), some (.ref t), some (.bl b), y3, y4, y5, y6] ∧ Same H H') ⟨_, _, _, _, rfl, Same.refl _⟩ (fun _ _ _ _ ⟨_, _, _, _, _, sH⟩ => sH _ _ e2) ?_ ?_
  · rintro i v σ H1 H2 hi ⟨y3, y4, y5, y6, rfl, s1⟩ ⟨T0, c, y, rfl, hT0, rfl, hc, hy⟩
    rw [lr] at hi
    have he : E[i]? = some E[i] := List.getElem?_eq_getElem hi
    have hy0 : y = .ref E[i].2 := by
      rw [List.getElem?_map, he] at hy
      exact (Option.some.inj hy).symm
    subst hy0
    have em : E[i] ∈ E := List.getElem_mem hi
    have eT : E[i].1 ∈ TT := by rw [← e1]; exact List.mem_map.mpr ⟨_, em, rfl⟩
    generalize E[i] = e at em eT
    refine v_gTup2 rfl upd_same ?_
    have s2 : Same H1 (upd H1 T0 (.tup [.str (tx [c]), .ref e.2])) := Same.new hT0
    generalize upd H1 T0 (.tup [.str (tx [c]), .ref e.2]) = H2 at s2
    have s02 := s1.trans s2
    have er : H2 e.2 = some (.tup (numV e.1)) := s02 _ _ (e3 e em)
    have lnm : (numV e.1).length = n := by rw [show (numV e.1).length = e.1.length from List.length_map _, (okT _ eT).1]
    refine e_iEnumT71 ?_
    walk_at "go"
    refine ⟨e.2, numV e.1, rfl, SqT.of er, ?_⟩
    refine for_it (walk_enumT71 (K := K) (a := e.2) (xs := numV e.1)) (fun j σ H' => ∃ y5 y6, σ = [some (.ref x), some (.ref t), some (.bl b), some (.str (tx [c])), some (.ref e.2), y5, y6] ∧ Same H2 H') ⟨_, _, rfl, Same.refl _⟩ (fun _ _ _ _ ⟨_, _, _, sH⟩ => sH _ _ er) ?_ ?_
    · rintro j v σ H3 H4 hj ⟨y5, y6, rfl, s3⟩ ⟨T1, z, rfl, hT1, rfl, hz⟩
      rw [lnm] at hj
      have hj1 : j < e.1.length := by rw [(okT _ eT).1]; exact hj
      rw [num_at hj1] at hz
      obtain rfl := Option.some.inj hz
      refine v_gTup2 rfl upd_same ?_
      have s4 : Same H3 (upd H3 T1 (.tup [.int ((j : Nat) : Int), .int ((e.1.getD j 0 : Nat) : Int)])) := Same.new hT1
      generalize upd H3 T1 (.tup [.int ((j : Nat) : Int), .int ((e.1.getD j 0 : Nat) : Int)]) = H4 at s4
      have s24 := s3.trans s4
      have er4 := s24 _ _ er
      have hp := okT.get eT hj
      walk_at "go"
      refine e_chain71 ?_
      walk_at "go"
      rw [if_pos (show decide ((0 : Int) ≤ ((e.1.getD j 0 : Nat) : Int)) = true from decide_eq_true (Int.natCast_nonneg _))]
      walk_at "go"
      refine v_lenT71 er4 ?_
      rw [lnm]
      walk_at "go"
      rw [decide_eq_true (show ((e.1.getD j 0 : Nat) : Int) < ((n : Nat) : Int) from by omega)]
      refine ⟨_, rfl, ?_⟩
      walk_at "go"
      cases b with
      | false =>
        walk_at "go"
        exact ⟨_, _, rfl, s24⟩
      | true =>
        walk_at "go"
        refine v_ixT er4 (at_of (j := e.1.getD j 0) rfl (num_at (by rw [(okT _ eT).1]; exact hp))) ?_
        rw [bk rfl _ eT j hj]
        walk_at "go"
        rw [decide_eq_true (show V.int ((j : Nat) : Int) = V.int ((j : Nat) : Int) from rfl), if_neg (show ¬ (!true) = true from Bool.false_ne_true)]
        walk_at "go"
        exact ⟨_, _, rfl, s24⟩
    · rintro σ H3 ⟨y5, y6, rfl, s3⟩
      walk_at "go"
      exact ⟨_, _, _, _, rfl, s02.trans s3⟩
  · rintro σ H1 ⟨y3, y4, y5, y6, rfl, s1⟩
    walk_at "go"
    exact k H1 s1
end
end
section
open PySem PySem.Spec L2
/-- the row of a kind -/
def rowK (ks : List Nat) (T : List (List Nat)) (c : Nat) : List Nat := T.getD (ixOf ks c) []
/-- crossing kinds may be exchanged -/
def Exch (n : Nat) (ks : List Nat) (ps T : List (List Nat)) : Prop := ∀ p ∈ ps, ∃ a b, p = [a, b] ∧ a ∈ ks ∧ b ∈ ks ∧ ∀ x, x < n → (rowK ks T b).getD ((rowK ks T a).getD x 0) 0 = (rowK ks T a).getD ((rowK ks T b).getD x 0) 0
def spNeedX (C : Addr) : Sp := fun vs H Q _ => ∃ (x t : Addr) (ks : List Nat) (ps T : List (List Nat)) (n : Nat), vs = [.ref x, .ref t] ∧ PlanAt C H x ks ps ∧ TabT H t T ∧ T.length = ks.length ∧ ks.length ≤ 1000 ∧ ps.length ≤ 1000 ∧ OkT n T ∧ n ≤ 1000 ∧ Exch n ks ps T ∧ ∀ H', Same H H' → Q .non H'
section
variable {P : Program} {w : World} {K : PySem.W.Frag} {mg : Str → Option Value} {base : Heap} {C : Addr}
abbrev stneed_exchanged : Stmt := (top 40)
abbrev Nneed_exchanged : List Str := ["plan", "rows", "many", "place", "pair", "one", "other"]
theorem scneed_exchanged : FnScope Nneed_exchanged ["plan", "rows"] (defScope stneed_exchanged) := ⟨rfl, rfl, rfl, by decide +kernel, rfl, by decide +kernel, by decide +kernel⟩

theorem ok_need_exchanged (F : FnAt K mg "need_exchanged" stneed_exchanged) (T : TxtCp K mg C) : Def P w K mg base CX0 1 "need_exchanged" ["plan", "rows"] (spNeedX C) := by
  refine F.ok scneed_exchanged (fun _ _ _ _ _ _ us hl => match us, hl with | [_, _], _ => rfl) (fun vs H Q E h => ?_) (fun f cdv A outer s H vs Q E hr h => ?_)
  · obtain ⟨x, t, ks, ps, T, n, rfl, _⟩ := h
    rfl
  obtain ⟨x, t, ks, ps, TT, n, rfl, pl, hT, lT, lk, lp, okT, ln, ex, k⟩ := h
  have hu := hu_of hr
  have nd := scneed_exchanged.nd
  refine ⟨_, (pss_cons (ps_set (i := 2) nd rfl (Or.inl rfl) (pe_cut (pe_ifExp (pt_cmpR op_gt (pe_callB (c_lenK (K := K) rfl) (by rfl) T.len PySem.boot_len (pa_cons (pv 1) pa_nil)) pe_int (nomark _)) (pe_callB (c_lenK (K := K) rfl) (by rfl) T.len PySem.boot_len (pa_cons (pe_ix (ix_TK (K := K) rfl) (pv 1) pe_int (fun _ _ => rfl)) pa_nil)) pe_int)))
      (pss_one (ps_for PassesOwn.never rfl (pi_range1 (by rfl) T.range (pa_cons (pv 2) pa_nil)) (pg_name (i := 3) nd rfl (Or.inl rfl))
      (pss_one (ps_for PassesOwn.never rfl (pi_tupK (K := K) rfl (pe_flK (K := K) rfl (pv 0) rfl)) (pg_name (i := 4) nd rfl (Or.inl rfl))
        (pss_cons (ps_par (i := 5) (j := 6) (by rfl) nd rfl rfl (by decide) rfl rfl (pa_cons (pe_ix (ix_TK (K := K) rfl) (pv 1) (pe_find (pe_flK (K := K) rfl (pv 0) rfl) (pe_ix ix_str (pv 4) pe_int (fun _ _ => rfl))) (fun _ _ => rfl)) (pa_cons (pe_ix (ix_TK (K := K) rfl) (pv 1) (pe_find (pe_flK (K := K) rfl (pv 0) rfl) (pe_ix ix_str (pv 4) pe_int (fun _ _ => rfl))) (fun _ _ => rfl)) pa_nil)) (by rfl))
          (pss_one (ps_if (pt_cmpR op_ne (pe_ix (ix_TK (K := K) rfl) (pv 6) (pe_ix (ix_TK (K := K) rfl) (pv 5) (pv 3) (fun _ _ => rfl)) (fun _ _ => rfl)) (pe_ix (ix_TK (K := K) rfl) (pv 5) (pe_ix (ix_TK (K := K) rfl) (pv 6) (pv 3) (fun _ _ => rfl)) (fun _ _ => rfl)) (nomark _))
          (pss_one ps_never)
          pss_nil)))))))), ?_⟩
  refine s_start [some _, some _, none, none, none, none, none] rfl ?_
  obtain ⟨E, e1, e2, e3⟩ := hT.ex
  have lE : E.length = TT.length := by rw [← e1, List.length_map]
  obtain ⟨dx, tp, dq, a1, a2, a3⟩ := pl.ex
  have lr : (refV E).length = E.length := List.length_map _
  walk_at "go"
  refine e_cut (fun v H' => ∃ m : Nat, v = .int ((m : Nat) : Int) ∧ H' = H ∧ m ≤ n) ?_ ?_
  · walk_at "go"
    refine v_lenT71 e2 ?_
    rw [lr]
    walk_at "go"
    by_cases c : 0 < E.length
    · rw [decide_eq_true (show (0 : Int) < ((E.length : Nat) : Int) by omega)]
      refine ⟨_, rfl, ?_⟩
      walk_at "go"
      have he : E[0]? = some E[0] := List.getElem?_eq_getElem c
      have em : E[0] ∈ E := List.getElem_mem c
      refine v_ixT e2 (at_of (j := 0) rfl (by rw [List.getElem?_map, he]; rfl)) ?_
      walk_at "go"
      refine v_lenT71 (e3 _ em) ?_
      refine ⟨_, rfl, rfl, ?_⟩
      rw [show (numV E[0].1).length = E[0].1.length from List.length_map _, (okT _ (by rw [← e1]; exact List.mem_map.mpr ⟨_, em, rfl⟩)).1]
      exact Nat.le_refl n
    · rw [decide_eq_false (show ¬ (0 : Int) < ((E.length : Nat) : Int) by omega)]
      refine ⟨_, rfl, ?_⟩
      walk_at "go"
      exact ⟨rfl, Nat.zero_le _⟩
  rintro v H' ⟨m, rfl, rfl, lm⟩
  walk_at "go"
  rw [Int.toNat_natCast]
  refine for_it (walk_rI (fun i => ((i : Nat) : Int)) (fun k => Int.zero_add _)) (fun i σ H1 => ∃ y3 y4 y5 y6, σ = [some (.ref x), some (.ref t), some (.int ((m : Nat) : Int)), y3, y4, y5, y6] ∧ H1 = H') ⟨_, _, _, _, rfl, rfl⟩ (fun _ _ _ _ _ => trivial) ?_ ?_
  · rintro i v σ H1 H2 hi ⟨y3, y4, y5, y6, rfl, rfl⟩ ⟨rfl, rfl⟩
    walk_at "go"
    refine v_fld a1 T.Plan.cl T.nP planF_p ?_
    walk_at "go"
    refine ⟨tp, rfl, ⟨_, SqT.of a2⟩, ?_⟩
    refine for_it (walk_tup (K := K) (a := tp) (xs := strsV ps)) (fun j σ H1 => ∃ y4 y5 y6, σ = [some (.ref x), some (.ref t), some (.int ((m : Nat) : Int)), some (.int ((i : Nat) : Int)), y4, y5, y6] ∧ H1 = H2) ⟨_, _, _, rfl, rfl⟩ (fun _ _ _ _ ⟨_, _, _, _, e⟩ => by rw [e]; exact SqT.of a2) ?_ ?_
    · rintro j v σ H1 H3 hj ⟨y4, y5, y6, rfl, rfl⟩ ⟨rfl, hv⟩
      obtain ⟨p, hp, rfl⟩ : ∃ p, ps[j]? = some p ∧ v = V.str (tx p) := by
        unfold strsV at hv
        rw [List.getElem?_map] at hv
        obtain ⟨p, h1, h2⟩ := Option.map_eq_some_iff.mp hv
        exact ⟨p, h1, h2.symm⟩
      obtain ⟨a, b, rfl, ha, hb, hex⟩ := ex p (List.mem_of_getElem? hp)
      have row : ∀ c, c ∈ ks → ∃ e ∈ E, (refV E)[ixOf ks c]? = some (.ref e.2) ∧ rowK ks TT c = e.1 ∧ e.1 ∈ TT := fun c hc => by
        have l1 : ixOf ks c < E.length := by rw [lE, lT]; exact (ixOf_get hc).1
        have he : E[ixOf ks c]? = some E[ixOf ks c] := List.getElem?_eq_getElem l1
        refine ⟨E[ixOf ks c], List.getElem_mem l1, by rw [List.getElem?_map, he]; rfl, ?_, by rw [← e1]; exact List.mem_map.mpr ⟨_, List.getElem_mem l1, rfl⟩⟩
        unfold rowK
        rw [← e1, List.getD_eq_getElem?_getD, List.getElem?_map, he]
        rfl
      obtain ⟨ea, ma, ga, ra, ta⟩ := row a ha
      obtain ⟨eb, mb, gb, rb, tb⟩ := row b hb
      have im : i < n := by omega
      have hex := hex i im
      rw [ra, rb] at hex
      walk_at "go"
      refine v_fld a1 T.Plan.cl T.nK planF_k ?_
      refine ⟨⟨_, rfl⟩, ?_⟩
      walk_at "go"
      refine v_ixS (by show 2 ≤ 1000000; decide) (show atI [a, b] 0 = some a from rfl) ?_
      refine v_find ha ?_
      refine v_ixT e2 (at_of (j := ixOf ks a) rfl ga) ?_
      walk_at "go"
      refine v_fld a1 T.Plan.cl T.nK planF_k ?_
      refine ⟨⟨_, rfl⟩, ?_⟩
      walk_at "go"
      refine v_ixS (by show 2 ≤ 1000000; decide) (show atI [a, b] 1 = some b from rfl) ?_
      refine v_find hb ?_
      refine v_ixT e2 (at_of (j := ixOf ks b) rfl gb) ?_
      walk_at "go"
      have la : ∀ {z : Nat}, z < n → z < ea.1.length := fun h => by rw [(okT _ ta).1]; exact h
      have lb : ∀ {z : Nat}, z < n → z < eb.1.length := fun h => by rw [(okT _ tb).1]; exact h
      refine v_ixT (e3 _ ma) (at_of (j := i) rfl (num_at (la im))) ?_
      refine v_ixT (e3 _ mb) (at_of (j := ea.1.getD i 0) rfl (num_at (lb (okT.get ta im)))) ?_
      walk_at "go"
      refine v_ixT (e3 _ mb) (at_of (j := i) rfl (num_at (lb im))) ?_
      refine v_ixT (e3 _ ma) (at_of (j := eb.1.getD i 0) rfl (num_at (la (okT.get tb im)))) ?_
      rw [hex]
      walk_at "go"
      try rw [decide_eq_true (show V.int ((ea.1.getD (eb.1.getD i 0) 0 : Nat) : Int) = V.int ((ea.1.getD (eb.1.getD i 0) 0 : Nat) : Int) from rfl)]
      try rw [if_neg (show ¬ (!true) = true from Bool.false_ne_true)]
      try walk_at "go"
      exact ⟨_, _, _, rfl, rfl⟩
    · rintro σ H1 ⟨y4, y5, y6, rfl, rfl⟩
      exact ⟨_, _, _, _, rfl, rfl⟩
  · rintro σ H1 ⟨y3, y4, y5, y6, rfl, rfl⟩
    exact k H1 (Same.refl _)
end
end
section
open PySem PySem.Spec L2
/-- numbers in a list or in a tuple -/
def SqN (H : Hp) (p : Addr) (r : List Nat) : Prop := H p = some (.lst (numV r)) ∨ H p = some (.tup (numV r))
theorem SqN.same {H H' : Hp} {p : Addr} {r : List Nat} (h : SqN H p r) (s : Same H H') : SqN H' p r := h.imp (s _ _) (s _ _)
theorem v_lenN71 {K : PySem.W.Frag} {H : Hp} {Q : VK} {p : Addr} {r : List Nat} (h : SqN H p r) (q : Q (.int ((r.length : Nat) : Int)) H) : rLen K [.ref p] H Q := by
  have e : (numV r).length = r.length := List.length_map _
  rw [← e] at q
  exact ⟨p, numV r, rfl, h.imp SqL.of SqT.of, q⟩
theorem walk_numT {K : PySem.W.Frag} {a : Addr} {l : List Nat} : Walk (Itt K a) l.length (fun H => SqT K H a (numV l)) (fun k H x H' => H' = H ∧ x = .int ((l.getD k 0 : Nat) : Int)) := by
  have w := walk_tup (K := K) (a := a) (xs := numV l)
  rw [show (numV l).length = l.length from List.length_map _] at w
  refine w.mono (fun _ z => z) fun i H x H' hi _ y => ⟨y.1, ?_⟩
  have z := y.2
  rw [num_at hi] at z
  exact (Option.some.inj z).symm
structure TxtCi (K : PySem.W.Frag) (mg : Str → Option Value) (C : Addr) : Prop extends TxtCp K mg C where
  all : mg "all" = none
  bool : mg "bool" = none
  isinstance : mg "isinstance" = none
def spIsI71 : Sp := fun vs H Q _ => ∃ n : Int, vs = [.int n] ∧ Q (.bl true) H
def spRowOk : Sp := fun vs H Q _ => ∃ (p : Addr) (r : List Nat), vs = [.ref p, .non] ∧ SqN H p r ∧ 0 < r.length ∧ r.length ≤ 1000 ∧ ∀ H', Same H H' → Q (.bl true) H'
section
variable {P : Program} {w : World} {K : PySem.W.Frag} {mg : Str → Option Value} {base : Heap} {C : Addr}
abbrev stis_integer : Stmt := (top 20)
abbrev Nis_integer : List Str := ["value"]
theorem scis_integer : FnScope Nis_integer ["value"] (defScope stis_integer) := ⟨rfl, rfl, rfl, by decide +kernel, rfl, by decide +kernel, by decide +kernel⟩

theorem ok_is_integer71 (F : FnAt K mg "is_integer" stis_integer) (T : TxtCi K mg C) : Def P w K mg base CX0 1 "is_integer" ["value"] spIsI71 := by
  refine F.ok scis_integer (fun _ _ _ _ _ _ us hl => match us, hl with | [_], _ => rfl) (fun vs H Q E h => ?_) (fun f cdv A outer s H vs Q E hr h => ?_)
  · obtain ⟨n, rfl, _⟩ := h
    rfl
  obtain ⟨n, rfl, k⟩ := h
  have hu := hu_of hr
  have nd := scis_integer.nd
  refine ⟨_, (pss_one (ps_ret (pe_and (pe_callB (c_isiK (K := K) rfl) (by rfl) T.isinstance (by decide +kernel) (pa_cons (pv 0) (pa_cons (pe_bltn (v := .ty "int") (u := .type "int") (by rfl) T.int (by decide +kernel) rfl) pa_nil))) (pe_one (pe_not (pe_callB (c_isiK (K := K) rfl) (by rfl) T.isinstance (by decide +kernel) (pa_cons (pv 0) (pa_cons (pe_bltn (v := .ty "bool") (u := .type "bool") (by rfl) T.bool (by decide +kernel) rfl) pa_nil)))))))), ?_⟩
  refine s_start [some _] rfl ?_
  walk_at "go"
  refine ⟨.int n, .ty "int", .type "int", .type "int", true, rfl, .ty "int", .base (.int n), kit_ty (by decide +kernel), ?_⟩
  refine ⟨_, rfl, ?_⟩
  rw [if_pos rfl]
  walk_at "go"
  refine ⟨.int n, .ty "bool", .type "int", .type "bool", false, rfl, .ty "bool", .base (.int n), kit_ty (by decide +kernel), ?_⟩
  walk_at "go"
  exact k
abbrev stis_table_row : Stmt := (top 37)
abbrev Nis_table_row : List Str := ["value", "many", "entry"]
theorem scis_table_row : FnScope Nis_table_row ["value", "many"] (defScope stis_table_row) := ⟨rfl, rfl, rfl, by decide +kernel, rfl, by decide +kernel, by decide +kernel⟩

theorem ok_is_table_row (F : FnAt K mg "is_table_row" stis_table_row) (T : TxtCi K mg C) (D_is_list : Def P w K mg base CX0 1 "is_list" ["value"] (spIsList K)) (D_is_integer : Def P w K mg base CX0 1 "is_integer" ["value"] spIsI71) : Def P w K mg base CX0 2 "is_table_row" ["value", "many"] spRowOk := by
  refine F.ok scis_table_row (fun _ _ _ _ _ _ us hl => match us, hl with | [_, _], _ => rfl) (fun vs H Q E h => ?_) (fun f cdv A outer s H vs Q E hr h => ?_)
  · obtain ⟨p, r, rfl, _⟩ := h
    rfl
  obtain ⟨p, r, rfl, hp, r0, lr, k⟩ := h
  have hu := hu_of hr
  have nd := scis_table_row.nd
  refine ⟨_, (pss_cutS (ps_if (PW.pt (pw_or (pt_not (pt_val (pe_cd D_is_list hr pass0 (pa_cons (pv 0) pa_nil)))) (pw_or (pt_cmpR op_eq (pe_callB (c_lenK (K := K) rfl) (by rfl) T.len PySem.boot_len (pa_cons (pv 0) pa_nil)) pe_int (nomark _)) (pw_or1 (PW.pt (pw_and (pt_cmpR op_notN1 (pv 1) pe_non (nomark _)) (pw_and1 (pt_cmpR op_ne (pe_callB (c_lenK (K := K) rfl) (by rfl) T.len PySem.boot_len (pa_cons (pv 0) pa_nil)) (pv 1) (nomark _)))))))))
      (pss_one (ps_ret pe_bl))
      pss_nil)
      (pss_one (ps_ret (pe_callB (c_allK (K := K) rfl rfl) (by rfl) T.all (by decide +kernel) (pa_cons (pe_lc (own := [("entry", 2)]) (g := gName 2) (by rfl) nd (pi_or (pi_listK (K := K) rfl (pv 0)) (pi_tupK (K := K) rfl (pv 0))) (blkOk_by (own := [("entry", 2)]) (N := Nis_table_row) (sc := defScope stis_table_row) (by decide +kernel)) (fun _ _ _ _ _ => (pg_name (i := 2) nd rfl (Or.inl rfl))) (fun _ _ _ _ _ => pts_nil) (fun _ _ _ _ _ => (pe_cd D_is_integer hr pass0 (pa_cons (pv 2) pa_nil)))) pa_nil))))), ?_⟩
  refine s_start [some _, some _, none] rfl ?_
  refine s_cut (fun σ H' => σ = [some (.ref p), some .non, none] ∧ Same H H') ?_ ?_
  · walk_at "go"
    refine ⟨p, numV r, rfl, hp.elim .inl fun z => .inr (.inl z), fun H1 s1 => ?_⟩
    walk_at "go"
    refine v_lenN71 (hp.same s1) ?_
    walk_at "go"
    rw [if_neg (show ¬ decide (V.int ((r.length : Nat) : Int) = V.int 0) = true from fun z => by
      have z := of_decide_eq_true z
      injection z with z
      omega)]
    walk_at "go"
    refine ⟨rfl, false, rfl, ?_⟩
    walk_at "go"
    exact ⟨rfl, s1⟩
  rintro σ H1 ⟨rfl, s1⟩
  have fin : ∀ D H', H1 D = none → Same H1 H' → H' D = some (.lst (((List.range r.length).filter fun _ => true).map fun _ => V.bl true)) → rAll K [.ref D] H' Q := fun D H' hD s e => by
    have e2 : H' D = some (.lst (((List.range r.length).map fun _ => true).map V.bl)) := by
      rw [e, List.filter_eq_self.mpr (fun _ _ => rfl), List.map_map]
      rfl
    refine v_all e2 ?_
    rw [show (((List.range r.length).map fun _ => true).all id) = true from by simp]
    exact k H' (s1.trans s)
  walk_at "go"
  rcases hp.same s1 with z | z
  · refine Or.inl ⟨_, rfl, p, rfl, ⟨_, SqL.of z⟩, ?_⟩
    refine lc_gen (n := r.length) (b := fun _ => true) (it := fun j => .int ((r.getD j 0 : Nat) : Int)) (f := fun _ => V.bl true) walk_numL (fun H' s' => SqL.of (s' _ _ z)) (by omega) (fun j hj H4 s4 R' rr => ?_) (fun j hj _ H4 s4 R' rr => ?_) (fun D H4 hD s4 eD => ?_)
    · walk_at "go"
      exact rr _ (Same.refl _)
    · walk_at "go"
      exact ⟨_, rfl, rr _ (Same.refl _)⟩
    · exact fin D H4 hD s4 eD
  · refine Or.inr ⟨_, rfl, p, rfl, ⟨_, SqT.of z⟩, ?_⟩
    refine lc_gen (n := r.length) (b := fun _ => true) (it := fun j => .int ((r.getD j 0 : Nat) : Int)) (f := fun _ => V.bl true) walk_numT (fun H' s' => SqT.of (s' _ _ z)) (by omega) (fun j hj H4 s4 R' rr => ?_) (fun j hj _ H4 s4 R' rr => ?_) (fun D H4 hD s4 eD => ?_)
    · walk_at "go"
      exact rr _ (Same.refl _)
    · walk_at "go"
      exact ⟨_, rfl, rr _ (Same.refl _)⟩
    · exact fin D H4 hD s4 eD
end
end
section
open PySem PySem.Spec L2
/-- tables as they are told -/
structure TabS (K : PySem.W.Frag) (H : Hp) (t : Addr) (T : List (List Nat)) : Prop where
  ex : ∃ E : List (List Nat × Addr), E.map (·.1) = T ∧ SeqO K H t (refV E) ∧ ∀ e ∈ E, SqN H e.2 e.1
def spTabRows (K : PySem.W.Frag) (C : Addr) : Sp := fun vs H Q _ => ∃ (x t : Addr) (ks : List Nat) (ps T : List (List Nat)) (n : Nat), vs = [.ref x, .ref t, .non] ∧ PlanAt C H x ks ps ∧ TabS K H t T ∧ T.length = ks.length ∧ ks.length ≤ 1000 ∧ OkT n T ∧ 0 < n ∧ n ≤ 1000 ∧ ∀ q H', H q = none → Same H H' → TabT H' q T → Q (.ref q) H'
theorem v_lenO71 {K : PySem.W.Frag} {H : Hp} {Q : VK} {p : Addr} {xs : List V} (h : SeqO K H p xs) (q : Q (.int ((xs.length : Nat) : Int)) H) : rLen K [.ref p] H Q := by
  rcases h with h | h | ⟨rfl, o, n, h, c, e⟩
  · exact ⟨p, xs, rfl, .inl (SqL.of h), q⟩
  · exact ⟨p, xs, rfl, .inr (SqT.of h), q⟩
  · exact ⟨p, [], rfl, .inr (.inr ⟨o, #[], n, h, c, e, by decide, .nil⟩), q⟩
theorem v_ixO71 {K : PySem.W.Frag} {H : Hp} {Q : VK} {p : Addr} {xs : List V} {v : V} (h : SeqO K H p xs) (e : atI xs 0 = some v) (q : Q v H) : rIxL K (.ref p) (.int 0) H Q ∨ rIxT K (.ref p) (.int 0) H Q := by
  rcases h with h | h | ⟨rfl, _⟩
  · exact .inl (v_ixL h e q)
  · exact .inr (v_ixT h e q)
  · cases e
section
variable {P : Program} {w : World} {K : PySem.W.Frag} {mg : Str → Option Value} {base : Heap} {C : Addr}
abbrev sttable_rows : Stmt := (top 38)
abbrev Ntable_rows : List Str := ["plan", "tables", "many", "row"]
theorem sctable_rows : FnScope Ntable_rows ["plan", "tables", "many"] (defScope sttable_rows) := ⟨rfl, rfl, rfl, by decide +kernel, rfl, by decide +kernel, by decide +kernel⟩

theorem ok_table_rows (F : FnAt K mg "table_rows" sttable_rows) (T : TxtCi K mg C) (D_is_list : Def P w K mg base CX0 1 "is_list" ["value"] (spIsList K)) (D_is_table_row : Def P w K mg base CX0 2 "is_table_row" ["value", "many"] spRowOk) : Def P w K mg base CX0 3 "table_rows" ["plan", "tables", "many"] (spTabRows K C) := by
  refine F.ok sctable_rows (fun _ _ _ _ _ _ us hl => match us, hl with | [_, _, _], _ => rfl) (fun vs H Q E h => ?_) (fun f cdv A outer s H vs Q E hr h => ?_)
  · obtain ⟨x, t, ks, ps, T, n, rfl, _⟩ := h
    rfl
  obtain ⟨x, t, ks, ps, TT, n, rfl, pl, hT, lT, lk, okT, n0, ln, k⟩ := h
  have hu := hu_of hr
  have nd := sctable_rows.nd
  replace D_is_list := D_is_list.mono (show 1 ≤ 2 by decide)
  refine ⟨_, (pss_cutS (ps_if (PW.pt (pw_or (pt_not (pt_val (pe_cd D_is_list hr pass0 (pa_cons (pv 1) pa_nil)))) (pw_or1 (pt_cmpR op_ne (pe_callB (c_lenK (K := K) rfl) (by rfl) T.len PySem.boot_len (pa_cons (pv 1) pa_nil)) (pe_callB c_lenS (by rfl) T.len PySem.boot_len (pa_cons (pe_flK (K := K) rfl (pv 0) rfl) pa_nil)) (nomark _)))))
      (pss_one ps_never)
      pss_nil)
      (pss_cons (ps_for PassesOwn.never rfl (pi_or (pi_listK (K := K) rfl (pv 1)) (pi_tupK (K := K) rfl (pv 1))) (pg_name (i := 3) nd rfl (Or.inl rfl))
      (pss_one (ps_if (PW.pt (pw_or (pt_not (pt_val (pe_cd D_is_table_row hr pass0 (pa_cons (pv 3) (pa_cons (pv 2) pa_nil))))) (pw_or1 (pt_cmpR op_ne (pe_callB (c_lenK (K := K) rfl) (by rfl) T.len PySem.boot_len (pa_cons (pv 3) pa_nil)) (pe_callB (c_lenK (K := K) rfl) (by rfl) T.len PySem.boot_len (pa_cons (pe_ix (IxR.or (ix_LK (K := K) rfl) (ix_TK (K := K) rfl)) (pv 1) pe_int (fun _ _ => rfl)) pa_nil)) (nomark _)))))
        (pss_one ps_never)
        pss_nil)))
      (pss_one (ps_ret (pe_callTy (c_tupleK (K := K) rfl) (by rfl) T.tuple (by decide +kernel) (pa_cons (pe_lc (own := [("row", 3)]) (g := gName 3) (by rfl) nd (pi_or (pi_listK (K := K) rfl (pv 1)) (pi_tupK (K := K) rfl (pv 1))) (blkOk_by (own := [("row", 3)]) (N := Ntable_rows) (sc := defScope sttable_rows) (by decide +kernel)) (fun _ _ _ _ _ => (pg_name (i := 3) nd rfl (Or.inl rfl))) (fun _ _ _ _ _ => pts_nil) (fun _ _ _ _ _ => (pe_callTy (c_tupleK (K := K) rfl) (by rfl) T.tuple (by decide +kernel) (pa_cons (pv 3) pa_nil)))) pa_nil)))))), ?_⟩
  refine s_start [some _, some _, some _, none] rfl ?_
  obtain ⟨E, e1, e2, e3⟩ := hT.ex
  have lE : E.length = TT.length := by rw [← e1, List.length_map]
  have lr : (refV E).length = E.length := List.length_map _
  obtain ⟨dx, tp, dq, a1, a2, a3⟩ := pl.ex
  have so : ∀ {H' : Hp}, Same H H' → SeqO K H' t (refV E) := fun s => e2.imp (s _ _) (Or.imp (s _ _) id)
  refine s_cut (fun σ H' => σ = [some (.ref x), some (.ref t), some .non, none] ∧ Same H H') ?_ ?_
  · walk_at "go"
    refine ⟨t, refV E, rfl, e2, fun H1 s1 => ?_⟩
    walk_at "go"
    refine v_lenO71 (so s1) ?_
    walk_at "go"
    refine v_fld (s1 _ _ a1) T.Plan.cl T.nK planF_k ?_
    walk_at "go"
    rw [decide_eq_true (show V.int (((refV E).length : Nat) : Int) = V.int ((ks.length : Nat) : Int) from by rw [lr, lE, lT]), if_neg (show ¬ (!true) = true from Bool.false_ne_true)]
    walk_at "go"
    exact ⟨rfl, s1⟩
  rintro σ H1 ⟨rfl, s1⟩
  refine e_forSeqA (te0 := tVar 1) e2 s1 (fun Q q => ⟨_, rfl, q⟩) (fun i σ H' => ∃ y3, σ = [some (.ref x), some (.ref t), some .non, y3] ∧ Same H H') ⟨_, rfl, s1⟩ (fun i σ' H' ⟨_, _, z⟩ => z) ?_ ?_
  · rintro i v σ H2 hv ⟨y3, rfl, s2⟩
    rw [List.getElem?_map] at hv
    obtain ⟨e, he, rfl⟩ := Option.map_eq_some_iff.mp hv
    have em := List.mem_of_getElem? he
    have eT : e.1 ∈ TT := by rw [← e1]; exact List.mem_map.mpr ⟨e, em, rfl⟩
    have le := (okT _ eT).1
    walk_at "go"
    refine ⟨e.2, e.1, rfl, (e3 e em).same s2, by omega, by omega, fun H3 s3 => ?_⟩
    have s23 := s2.trans s3
    walk_at "go"
    refine v_lenN71 ((e3 e em).same s23) ?_
    walk_at "go"
    have pE : 0 < E.length := by
      have := (List.getElem?_eq_some_iff.mp he).1
      omega
    have h0 : E[0]? = some E[0] := List.getElem?_eq_getElem pE
    have m0 : E[0] ∈ E := List.getElem_mem pE
    have l0 : E[0].1.length = n := (okT _ (by rw [← e1]; exact List.mem_map.mpr ⟨_, m0, rfl⟩)).1
    refine v_ixO71 (v := .ref E[0].2) (so s23) (at_of (j := 0) rfl (by rw [List.getElem?_map, h0]; rfl)) ?_
    walk_at "go"
    refine v_lenN71 ((e3 _ m0).same s23) ?_
    rw [l0, le]
    walk_at "go"
    try rw [decide_eq_true (show V.int ((n : Nat) : Int) = V.int ((n : Nat) : Int) from rfl)]
    try rw [if_neg (show ¬ (!true) = true from Bool.false_ne_true)]
    try walk_at "go"
    exact ⟨_, rfl, s23⟩
  rintro σ H2 ⟨y3, rfl, s2⟩
  walk_at "go"
  refine i_refs (te0 := tVar 1) (E := E) (R' := fun H' v r => ∃ q, v = .ref q ∧ RowTu H' q r) e2 s2 (by omega) (fun Q q => ⟨_, rfl, q⟩) (fun v r H3 H4 ⟨q, e, z⟩ s => ⟨q, e, s _ _ z⟩) (fun v r H3 H4 D l ⟨q, e, z⟩ e0 kp => ⟨q, e, kp _ _ z (ne_tupL z e0)⟩) (fun e he H3 s3 R r => ?_) (fun e he H3 s3 R r => ?_) (fun D H3 vs hD s3 eD lv rv => ?_)
  · walk_at "go"
    exact r _ (Same.refl _)
  · walk_at "go"
    rcases (e3 e he).same (s2.trans s3) with z | z
    · refine v_tuple z fun q H4 hq s4 eq => ?_
      exact r _ _ s4 ⟨q, rfl, eq⟩
    · exact ⟨e.2, _, rfl, .inr ⟨SqT.of z, r _ _ (Same.refl _) ⟨e.2, rfl, z⟩⟩⟩
  walk_at "go"
  obtain ⟨G, g1, rfl, g3⟩ := refs_of (R := RowTu) (H := H3) (vs := vs) (D := TT) (by rw [lv, lE]) fun j v r h1 h2 => by
    rw [← e1, List.getElem?_map] at h2
    obtain ⟨e, he, rfl⟩ := Option.map_eq_some_iff.mp h2
    exact rv j v e h1 he
  refine v_tuple eD fun q H4 hq s4 eq => ?_
  exact k q H4 (Same.free (s2.trans s3) hq) ((s2.trans s3).trans s4) ⟨G, g1, eq, fun e he => s4 _ _ (g3 e he)⟩
end
end
local macro_rules | `(tactic| walk_at "ro") => `(tactic| first | assumption | ((apply RoomAt.go (by assumption)); walk_at "ro"))
local macro_rules | `(tactic| walk_at "pl") => `(tactic| first | assumption | ((apply PlanAt.go (by assumption)); walk_at "pl"))
local macro_rules | `(tactic| walk_at "st2") => `(tactic| first
  | (walk_at "st")
  | ((with_reducible refine v_rnameG ?_); refine ⟨_, _, _, (by walk_at "ro"), (by assumption), (by assumption), ?_⟩)
  | ((with_reducible refine v_rplanG ?_); refine ⟨_, _, _, (by walk_at "ro"), (by assumption), (by assumption), ?_⟩)
  | ((with_reducible refine v_rlenG ?_); refine ⟨_, _, (by walk_at "ro"), (by omega), ?_⟩)
  | ((with_reducible refine v_reqG ?_); refine ⟨_, _, _, _, _, (by walk_at "ro"), (by walk_at "ro"), (by walk_at "pl"), (by assumption), (by omega), (by omega), ?_⟩)
  | ((with_reducible refine v_rneG ?_); refine ⟨_, _, _, _, _, (by walk_at "ro"), (by walk_at "ro"), (by walk_at "pl"), (by assumption), (by omega), (by omega), ?_⟩)
  | ((with_reducible refine v_reqTG ?_); refine ⟨_, _, (by walk_at "ro"), ?_⟩)
  | ((with_reducible refine v_peqG ?_); refine ⟨_, _, (by walk_at "pl"), (by assumption), ?_⟩)
  | (with_reducible refine if_nI rfl ?_)
  | (with_reducible refine if_I rfl ?_)
  | ((with_reducible refine v_mdRG ?_); refine ⟨_, _, (by walk_at "ro"), (by decide +kernel), ?_⟩)
  | (with_reducible refine s_asgL ?_) | (with_reducible refine e_MN ?_)
  | (with_reducible refine e_CN ?_) | (refine ⟨rfl, rfl, ?_⟩))
local macro_rules | `(tactic| walk_at "go2") => `(tactic| repeat walk_at "st2")
section
open PySem PySem.Spec L2
/-! ### tables as data -/
def rowD71 (r : List Nat) : PyData := .tuple (r.map fun n => .int ((n : Nat) : Int))
theorem row71_lay : ∀ r : List Nat, PyData.canLayAll0 (r.map fun n => PyData.int ((n : Nat) : Int)) = true
  | [] => rfl
  | a :: r => by
    rw [List.map_cons]
    simp only [PyData.canLayAll0, PyData.canLay0, row71_lay r, Bool.and_true]
theorem tab71_lay : ∀ T : List (List Nat), PyData.canLayAll0 (T.map rowD71) = true
  | [] => rfl
  | r :: T => by
    rw [List.map_cons]
    simp only [PyData.canLayAll0, tab71_lay T, Bool.and_true]
    unfold rowD71
    simp only [PyData.canLay0, row71_lay r]
theorem row71_dep : ∀ r : List Nat, PyData.depthAll (r.map fun n => PyData.int ((n : Nat) : Int)) ≤ 4
  | [] => by show PyData.depthAll [] ≤ 4; decide
  | a :: r => Nat.max_le.mpr ⟨by show PyData.depth (PyData.int _) ≤ 4; simp [PyData.depth], row71_dep r⟩
theorem tab71_dep : ∀ T : List (List Nat), PyData.depthAll (T.map rowD71) ≤ 8
  | [] => by show PyData.depthAll [] ≤ 8; decide
  | r :: T => Nat.max_le.mpr ⟨by
      have := row71_dep r
      show PyData.depth (PyData.tuple _) ≤ 8
      simp only [PyData.depth]
      omega, tab71_dep T⟩
section
variable {K : PySem.W.Frag} {H : Hp} {Q : VK}
theorem dp_nums : ∀ r : List Nat, DpAll K H (numV r) (r.map fun n => PyData.int ((n : Nat) : Int))
  | [] => .nil
  | a :: r => .cons (.int _) (dp_nums r)
theorem dp_tab : ∀ {E : List (List Nat × Addr)}, (∀ e ∈ E, RowTu H e.2 e.1) → DpAll K H (refV E) ((E.map (·.1)).map rowD71)
  | [], _ => .nil
  | e :: E, h => .cons (.tup (SqT.of (h e (List.mem_cons_self ..))) (dp_nums e.1)) (dp_tab fun c hc => h c (List.mem_cons_of_mem _ hc))
end
/-! ### closed floors -/
/-- a closed floor -/
structure ClosedAt (CL : Addr) (H : Hp) (c x : Addr) (T : List (List Nat)) (m : Nat) : Prop where
  ml : m ≤ 1000
  ex : ∃ dx fs t q, H c = some (.ins CL dx fs) ∧ fs.lookup ("plan" : Str) = some (.ref x) ∧ fs.lookup ("tables" : Str) = some (.ref t) ∧ fs.lookup ("own_places" : Str) = some (.ref q) ∧ TabT H t T ∧ H q = some (.tup (numV (List.range m)))
  no : ∃ dx fs, H c = some (.ins CL dx fs) ∧ fs.lookup ("at" : Str) = none ∧ fs.lookup ("follow" : Str) = none ∧ fs.lookup ("need_place" : Str) = none ∧ fs.lookup ("walked" : Str) = none ∧ fs.lookup ("based" : Str) = none ∧ fs.lookup ("renamed" : Str) = none ∧ fs.lookup ("alike" : Str) = none ∧ fs.lookup ("first_ways" : Str) = none ∧ fs.lookup ("ways" : Str) = none
theorem ClosedAt.same {CL : Addr} {H H' : Hp} {c x : Addr} {T : List (List Nat)} {m : Nat} (h : ClosedAt CL H c x T m) (s : Same H H') : ClosedAt CL H' c x T m := by
  obtain ⟨dx, fs, t, q, e1, e2, e3, e4, e5, e6⟩ := h.ex
  obtain ⟨dy, gs, n1, n2⟩ := h.no
  exact ⟨h.ml, ⟨dx, fs, t, q, s _ _ e1, e2, e3, e4, e5.keep s, s _ _ e6⟩, dy, gs, s _ _ n1, n2⟩
structure TxtCc (K : PySem.W.Frag) (mg : Str → Option Value) (C CL : Addr) : Prop extends TxtCi K mg C where
  Closed : ClsF K mg "Closed" CL
  nQp : NoAttr K CL "plan"
  nQt : NoAttr K CL "tables"
  nQo : NoAttr K CL "own_places"
/-- what Closed(..) is made of -/
structure ClArg (K : PySem.W.Frag) (C : Addr) (H : Hp) (x t : Addr) (ks : List Nat) (ps T : List (List Nat)) (n : Nat) : Prop where
  pl : PlanAt C H x ks ps
  tab : TabS K H t T
  lT : T.length = ks.length
  lk : ks.length ≤ 1000
  lp : ps.length ≤ 1000
  ok : OkT n T
  n0 : 0 < n
  ln : n ≤ 1000
  back : Back n T
  exch : Exch n ks ps T
theorem TabS.same {K : PySem.W.Frag} {H H' : Hp} {t : Addr} {T : List (List Nat)} (h : TabS K H t T) (s : Same H H') : TabS K H' t T := by
  obtain ⟨E, e1, e2, e3⟩ := h.ex
  exact ⟨E, e1, e2.imp (s _ _) (Or.imp (s _ _) id), fun e he => (e3 e he).same s⟩
theorem ClArg.same {K : PySem.W.Frag} {C : Addr} {H H' : Hp} {x t : Addr} {ks : List Nat} {ps T : List (List Nat)} {n : Nat} (h : ClArg K C H x t ks ps T n) (s : Same H H') : ClArg K C H' x t ks ps T n :=
  ⟨h.pl.same s, h.tab.same s, h.lT, h.lk, h.lp, h.ok, h.n0, h.ln, h.back, h.exch⟩
theorem TabT.keepK {H H' : Hp} {t c CL dx : Addr} {fs : List (Str × V)} {T : List (List Nat)} (h : TabT H t T) (k : Keep c H H') (hc : H c = some (.ins CL dx fs)) : TabT H' t T := by
  obtain ⟨E, e1, e2, e3⟩ := h.ex
  exact ⟨E, e1, k _ _ e2 (ne_of e2 hc (by intro z; cases z)), fun e he => k _ _ (e3 e he) (ne_of (e3 e he) hc (by intro z; cases z))⟩
theorem bfs_nil (n first : Nat) : bfs [] n first = [first] := by
  show fp [] (n + 1) 0 [first] = [first]
  have a0 : ∀ (x : Nat) (fd : List Nat), addT [] x fd = fd := fun _ _ => rfl
  have key : ∀ m i, fp [] m i [first] = [first] := by
    intro m
    induction m with
    | zero => intro i; rfl
    | succ m ih =>
      intro i
      show (if i < [first].length then fp [] m (i + 1) (addT [] _ [first]) else [first]) = [first]
      rw [a0, ih]
      split <;> rfl
  exact key _ _
theorem bfs_pos (T : List (List Nat)) (n first : Nat) : 0 < (bfs T n first).length := by
  obtain ⟨q, hq⟩ := fp_pre T (n + 1) 0 [first]
  show 0 < (fp T (n + 1) 0 [first]).length
  rw [hq, List.length_append]
  exact Nat.lt_of_lt_of_le Nat.one_pos (Nat.le_add_right _ _)
def spClosed0 (K : PySem.W.Frag) (C CL : Addr) : Sp := fun vs H Q _ => ∃ (c dx x t : Addr) (G : Hp) (ks : List Nat) (ps T : List (List Nat)) (n : Nat), vs = [.ref c, .ref x, .ref t] ∧ H c = some (.ins CL dx []) ∧ G c = none ∧ Same G H ∧ ClArg K C G x t ks ps T n ∧
  ∀ H', Same G H' → ClosedAt CL H' c x (numT T (bfs T n 0)) (bfs T n 0).length → Q .non H'
def spClosed (K : PySem.W.Frag) (C CL : Addr) : Sp := fun vs H Q _ => ∃ (x t : Addr) (ks : List Nat) (ps T : List (List Nat)) (n : Nat), vs = [.ref x, .ref t] ∧ ClArg K C H x t ks ps T n ∧
  ∀ c H', H c = none → Same H H' → ClosedAt CL H' c x (numT T (bfs T n 0)) (bfs T n 0).length → Q (.ref c) H'
theorem conv_closed (K : PySem.W.Frag) (C CL : Addr) : Conv CL (spClosed0 K C CL) (spClosed K C CL) := by
  rintro vs H Q E ⟨x, t, ks, ps, T, n, rfl, ha, q⟩ a dx hx hdx hne
  have s0 : Same H (upd (upd H dx (.own a)) a (.ins CL dx [])) := fun b o hb => by
    rw [upd_ne (ne_of_none hb hx), upd_ne (ne_of_none hb hdx)]
    exact hb
  exact ⟨a, dx, x, t, H, ks, ps, T, n, rfl, upd_same, hx, s0, ha, fun H' s' z => ⟨rfl, q a H' hx s' z⟩⟩
def spClLen (CL : Addr) : Sp := fun vs H Q _ => ∃ (c x : Addr) (T : List (List Nat)) (m : Nat), vs = [.ref c] ∧ ClosedAt CL H c x T m ∧ Q (.int ((m : Nat) : Int)) H
theorem lt_rows {E : List (List Nat × Addr)} {T : List (List Nat)} {n : Nat} (e1 : E.map (·.1) = T) (ok : OkT n T) {e : List Nat × Addr} (he : e ∈ E) : e.1.length = n := (ok _ (by rw [← e1]; exact List.mem_map.mpr ⟨_, he, rfl⟩)).1
theorem e_tupRg1 {ta : TE} {σ : L2.St} {H : Hp} {Q : VK} (q : ta σ H fun x H1 => ∃ n : Nat, x = .int ((n : Nat) : Int) ∧ n ≤ 1000000 ∧ ∀ q H', H1 q = none → Same H1 H' → H' q = some (.tup (numV (List.range n))) → Q (.ref q) H') (mono : ∀ {Q1 Q2 : VK}, (∀ v H', Q1 v H' → Q2 v H') → ta σ H Q1 → ta σ H Q2) : tTupRg (tRg1 ta) σ H Q := by
  show ta σ H fun x H1 => ∃ n, x = .int n ∧ (RgOk 0 n ∧ ∀ q, H1 q = none → Q (.ref q) (upd H1 q (.tup (rgV 0 n))))
  refine mono (fun v H' ⟨n, e, ln, k⟩ => ?_) q
  refine ⟨_, e, .of_le (by omega) (by omega) (by omega) (by omega), fun q hq => k q _ hq (Same.new hq) ?_⟩
  rw [upd_same]
  have e2 : rgV 0 ((n : Nat) : Int) = numV (List.range n) := by
    unfold rgV numV
    rw [show (((n : Nat) : Int) - 0).toNat = n by omega]
    exact List.map_congr_left fun i _ => by rw [Int.zero_add]
  rw [e2]
section
variable {P : Program} {w : World} {K : PySem.W.Frag} {mg : Str → Option Value} {base : Heap} {C CL : Addr}
abbrev stClosed_init : Stmt := (inClass (top 44) 0)
abbrev NClosed_init : List Str := ["self", "plan", "tables", "rows"]
theorem scClosed_init : FnScope NClosed_init ["self", "plan", "tables"] (defScope stClosed_init) := ⟨rfl, rfl, rfl, by decide +kernel, rfl, by decide +kernel, by decide +kernel⟩

theorem ok_Closed (F : MAt K CL "__init__" "Closed.__init__" stClosed_init) (T : TxtCc K mg C CL) (D_table_rows : Def P w K mg base CX0 3 "table_rows" ["plan", "tables", "many"] (spTabRows K C)) (D_need_entries : Def P w K mg base CX0 1 "need_entries" ["plan", "rows", "turning"] (spNeedE C)) (D_need_exchanged : Def P w K mg base CX0 1 "need_exchanged" ["plan", "rows"] (spNeedX C)) (D_numbered_rows : Def P w K mg base CX0 2 "numbered_rows" ["rows", "first"] spNumP) :
    CMk0 P w K mg base CX0 4 "Closed" CL (spClosed K C CL) ["self", "plan", "tables"] "Closed.__init__" stClosed_init := by
  refine F.make0 (sp0 := spClosed0 K C CL) T.Closed scClosed_init (fun _ _ _ _ _ _ us hl => match us, hl with | [_, _, _], _ => rfl) (fun vs H Q E h => ?_) (conv_closed K C CL) (fun f cdv A outer s H vs Q E hr h => ?_)
  · obtain ⟨c, dx, x, t, G, ks, ps, T, n, rfl, _⟩ := h
    rfl
  obtain ⟨c, dx, x, t, G, ks, ps, TT, n, rfl, hc, hGc, sG, ha, q⟩ := h
  have hu := hu_of hr
  have nd := scClosed_init.nd
  replace D_need_entries := D_need_entries.mono (show 1 ≤ 3 by decide)
  replace D_need_exchanged := D_need_exchanged.mono (show 1 ≤ 3 by decide)
  replace D_numbered_rows := D_numbered_rows.mono (show 2 ≤ 3 by decide)
  refine ⟨_, (pss_cons (ps_set (i := 3) nd rfl (Or.inl rfl) (pe_cd D_table_rows hr pass0 (pa_cons (pv 1) (pa_cons (pv 2) (pa_cons pe_non pa_nil)))))
      (pss_cons (ps_expr (pe_cd D_need_entries hr pass0 (pa_cons (pv 1) (pa_cons (pv 3) (pa_cons pe_bl pa_nil)))))
      (pss_cons (ps_expr (pe_cd D_need_exchanged hr pass0 (pa_cons (pv 1) (pa_cons (pv 3) pa_nil))))
      (pss_cons (ps_flK (K := K) rfl (pv 0) (pv 1) rfl)
      (pss_cons (ps_flK (K := K) rfl (pv 0) (pe_cd D_numbered_rows hr pass0 (pa_cons (pv 3) (pa_cons pe_int pa_nil))) rfl)
      (pss_one (ps_flK (K := K) rfl (pv 0) (pe_tupRg rfl (by rfl) T.tuple (prg_1 (by rfl) T.range (pe_cut (pe_ifExp (pt_cmpR op_gt (pe_callB (c_lenK (K := K) rfl) (by rfl) T.len PySem.boot_len (pa_cons (pe_flK (K := K) rfl (pv 0) rfl) pa_nil)) pe_int (nomark _)) (pe_callB (c_lenK (K := K) rfl) (by rfl) T.len PySem.boot_len (pa_cons (pe_ix (ix_TK (K := K) rfl) (pe_flK (K := K) rfl (pv 0) rfl) pe_int (fun _ _ => rfl)) pa_nil)) pe_int)))) rfl))))))), ?_⟩
  refine s_start [some _, some _, some _, none] rfl ?_
  have keep : ∀ {H1 H2 : Hp}, Same G H1 → Keep c H1 H2 → Same G H2 := fun s k b ob hb => k _ _ (s _ _ hb) (ne_of_none hb hGc)
  walk_at "go"
  refine ⟨x, t, ks, ps, TT, n, rfl, ha.pl.same sG, ha.tab.same sG, ha.lT, ha.lk, ha.ok, ha.n0, ha.ln, fun r H1 hr1 s1 eT => ?_⟩
  have g1 := sG.trans s1
  walk_at "go"
  refine ⟨x, r, true, ks, ps, TT, n, rfl, ha.pl.same g1, eT, ha.lT, ha.ok, ha.ln, fun _ => ha.back, fun H2 s2 => ?_⟩
  have g2 := g1.trans s2
  walk_at "go"
  refine ⟨x, r, ks, ps, TT, n, rfl, ha.pl.same g2, eT.keep s2, ha.lT, ha.lk, ha.lp, ha.ok, ha.ln, ha.exch, fun H3 s3 => ?_⟩
  have g3 := g2.trans s3
  have s13 := s2.trans s3
  walk_at "go"
  have e3 := s13 _ _ (s1 _ _ hc)
  refine v_sfld e3 T.Closed.cl T.nQp (by decide) fun H4 k4 e4 => ?_
  have g4 := keep g3 k4
  have hT4 : TabT H4 r TT := (eT.keep s13).keepK k4 e3
  walk_at "go"
  refine ⟨r, TT, n, 0, rfl, hT4, ha.ok, by rw [ha.lT]; exact ha.lk, ha.n0, ha.ln, fun u H5 hu5 s5 eN => ?_⟩
  have g5 := g4.trans s5
  have e5 := s5 _ _ e4
  walk_at "go"
  refine v_sfld e5 T.Closed.cl T.nQt (by show 1 < 1000; decide) fun H6 k6 e6 => ?_
  have g6 := keep g5 k6
  have eN6 := eN.keepK k6 e5
  have okN := numT_ok (n := n) (x := 0) ha.ok ha.n0
  have lN : (numT TT (bfs TT n 0)).length = TT.length := List.length_map _
  have lb := (bfs_ok (n := n) ha.ok ha.n0).len
  have pb := bfs_pos TT n 0
  have bn : TT = [] → bfs TT n 0 = [0] := fun z => by rw [z]; exact bfs_nil n 0
  generalize bfs TT n 0 = fd at *
  obtain ⟨E, b1, b2, b3⟩ := eN6.ex
  have lE : E.length = TT.length := by rw [← lN, ← b1, List.length_map]
  have lr : (refV E).length = E.length := List.length_map _
  walk_at "go"
  refine e_tupRg1 ?_ (fun h z => ?_)
  · refine e_cut (fun v H' => v = .int ((fd.length : Nat) : Int) ∧ H' = H6) ?_ ?_
    · walk_at "go"
      refine v_fld e6 T.Closed.cl T.nQt (show (putF "tables" (.ref u) (putF "plan" (.ref x) [])).lookup ("tables" : Str) = some (V.ref u) from rfl) ?_
      walk_at "go"
      refine v_lenT71 b2 ?_
      rw [lr]
      walk_at "go"
      by_cases c0 : 0 < E.length
      · rw [decide_eq_true (show (0 : Int) < ((E.length : Nat) : Int) by omega)]
        refine ⟨_, rfl, ?_⟩
        walk_at "go"
        refine v_fld e6 T.Closed.cl T.nQt (show (putF "tables" (.ref u) (putF "plan" (.ref x) [])).lookup ("tables" : Str) = some (V.ref u) from rfl) ?_
        walk_at "go"
        have he : E[0]? = some E[0] := List.getElem?_eq_getElem c0
        refine v_ixT b2 (at_of (j := 0) rfl (by rw [List.getElem?_map, he]; rfl)) ?_
        walk_at "go"
        refine v_lenT71 (b3 _ (List.getElem_mem c0)) ?_
        rw [show (numV E[0].1).length = E[0].1.length from List.length_map _, lt_rows b1 okN (List.getElem_mem c0)]
        exact ⟨rfl, rfl⟩
      · rw [decide_eq_false (show ¬ (0 : Int) < ((E.length : Nat) : Int) by omega)]
        walk_at "go"
        refine ⟨?_, rfl⟩
        have z0 : TT = [] := List.length_eq_zero_iff.mp (by omega)
        rw [bn z0]
        rfl
    rintro v H' ⟨rfl, rfl⟩
    refine ⟨_, rfl, by have := ha.ln; omega, fun q1 H7 hq1 s7 eq1 => ?_⟩
    walk_at "go"
    have e7 := s7 _ _ e6
    refine v_sfld e7 T.Closed.cl T.nQo (by show 2 < 1000; decide) fun H8 k8 e8 => ?_
    exact q H8 (keep (g6.trans s7) k8) ⟨by have := ha.ln; omega, ⟨_, _, u, q1, e8, rfl, rfl, rfl, ((TabT.keep eN6 s7).keepK k8 e7), k8 _ _ eq1 (ne_of eq1 e7 (by intro z; cases z))⟩, _, _, e8, rfl, rfl, rfl, rfl, rfl, rfl, rfl, rfl, rfl⟩
  · obtain ⟨Mid, z1, z2⟩ := z
    exact ⟨Mid, z1, fun v H' y => h v H' (z2 v H' y)⟩
abbrev stClosed_len : Stmt := (inClass (top 44) 2)
abbrev NClosed_len : List Str := ["self"]
theorem scClosed_len : FnScope NClosed_len ["self"] (defScope stClosed_len) := ⟨rfl, rfl, rfl, by decide +kernel, rfl, by decide +kernel, by decide +kernel⟩

theorem ok_Closed_len (F : MAt K CL "__len__" "Closed.__len__" stClosed_len) (T : TxtCc K mg C CL) : MDef P w K mg base CX0 1 CL "__len__" ["self"] (spClLen CL) := by
  refine F.ok scClosed_len (fun _ _ _ _ _ _ us hl => match us, hl with | [_], _ => rfl) (fun vs H Q E h => ?_) (fun f cdv A outer s H vs Q E hr h => ?_)
  · obtain ⟨c, x, T, m, rfl, _⟩ := h
    rfl
  obtain ⟨c, x, TT, m, rfl, hc, q⟩ := h
  have hu := hu_of hr
  have nd := scClosed_len.nd
  refine ⟨_, (pss_one (ps_ret (pe_callB (c_lenK (K := K) rfl) (by rfl) T.len PySem.boot_len (pa_cons (pe_flK (K := K) rfl (pv 0) rfl) pa_nil)))), ?_⟩
  refine s_start [some _] rfl ?_
  obtain ⟨dx, fs, t, p, e1, e2, e3, e4, e5, e6⟩ := hc.ex
  walk_at "go"
  refine v_fld e1 T.Closed.cl T.nQo e4 ?_
  walk_at "go"
  refine v_lenT71 e6 ?_
  rw [show (numV (List.range m)).length = m from by unfold numV; rw [List.length_map, List.length_range]]
  exact q
end
end
section
open PySem PySem.Spec L2
structure TxtCr (K : PySem.W.Frag) (mg : Str → Option Value) (C R O CL : Addr) : Prop extends TxtR K mg C R O, TxtCc K mg C CL
/-- the place to which a way leads -/
def walkT (ks : List Nat) (T : List (List Nat)) (p : Nat) (w : List Nat) : Nat := w.foldl (fun p c => (rowK ks T c).getD p 0) p
theorem walkT_snoc {ks : List Nat} {T : List (List Nat)} {p : Nat} {w : List Nat} {c : Nat} : walkT ks T p (w ++ [c]) = (rowK ks T c).getD (walkT ks T p w) 0 := by
  unfold walkT
  rw [List.foldl_append]
  rfl
theorem rowK_mem {ks : List Nat} {T : List (List Nat)} {c : Nat} (l : T.length = ks.length) (h : c ∈ ks) : rowK ks T c ∈ T := by
  have := (ixOf_get h).1
  unfold rowK
  rw [List.getD_eq_getElem?_getD, List.getElem?_eq_getElem (show ixOf ks c < T.length by omega)]
  exact List.getElem_mem _
theorem walkT_lt {n : Nat} {ks : List Nat} {T : List (List Nat)} (ok : OkT n T) (l : T.length = ks.length) : ∀ {w : List Nat} {p : Nat}, p < n → (∀ c ∈ w, c ∈ ks) → walkT ks T p w < n
  | [], _, h, _ => h
  | c :: w, p, h, hw => walkT_lt (w := w) ok l (ok.get (rowK_mem l (hw c (List.mem_cons_self ..))) h) fun d hd => hw d (List.mem_cons_of_mem _ hd)
def spClWalk (C CL : Addr) : Sp := fun vs H Q _ => ∃ (c x : Addr) (ks : List Nat) (ps T : List (List Nat)) (m p : Nat) (w : List Nat), vs = [.ref c, .int ((p : Nat) : Int), .str (tx w)] ∧ ClosedAt CL H c x T m ∧ PlanAt C H x ks ps ∧ OkT m T ∧ T.length = ks.length ∧ p < m ∧ (∀ c ∈ w, c ∈ ks) ∧ Q (.int ((walkT ks T p w : Nat) : Int)) H
def spClAt (C R CL : Addr) : Sp := fun vs H Q _ => ∃ (c x r y : Addr) (ks : List Nat) (ps T : List (List Nat)) (m : Nat) (w : List Nat), vs = [.ref c, .ref r] ∧ ClosedAt CL H c x T m ∧ PlanAt C H x ks ps ∧ RoomAt R H r y w ∧ PlanAt C H y ks ps ∧ PsOk ps ∧ OkT m T ∧ T.length = ks.length ∧ 0 < m ∧ (∀ c ∈ w, c ∈ ks) ∧ ∀ H', Same H H' → Q (.int ((walkT ks T 0 w : Nat) : Int)) H'
section
variable {P : Program} {w : World} {K : PySem.W.Frag} {mg : Str → Option Value} {base : Heap} {C R O CL : Addr}
abbrev stClosed_walked : Stmt := (inClass (top 44) 7)
abbrev NClosed_walked : List Str := ["self", "place", "way", "found", "kind"]
theorem scClosed_walked : FnScope NClosed_walked ["self", "place", "way"] (defScope stClosed_walked) := ⟨rfl, rfl, rfl, by decide +kernel, rfl, by decide +kernel, by decide +kernel⟩

theorem ok_Closed_walked (F : MAt K CL "walked" "Closed.walked" stClosed_walked) (T : TxtCc K mg C CL) : MDef P w K mg base CX0 1 CL "walked" ["self", "place", "way"] (spClWalk C CL) := by
  refine F.ok scClosed_walked (fun _ _ _ _ _ _ us hl => match us, hl with | [_, _, _], _ => rfl) (fun vs H Q E h => ?_) (fun f cdv A outer s H vs Q E hr h => ?_)
  · obtain ⟨c, x, ks, ps, T, m, p, wy, rfl, _⟩ := h
    rfl
  obtain ⟨c, x, ks, ps, TT, m, p, wy, rfl, hc, pl, okT, lT, lp, hw, q⟩ := h
  have hu := hu_of hr
  have nd := scClosed_walked.nd
  refine ⟨_, (pss_cons (ps_set (i := 3) nd rfl (Or.inl rfl) (pv 1))
      (pss_cons (ps_for PassesOwn.never rfl (pi_str (pv 2)) (pg_name (i := 4) nd rfl (Or.inl rfl))
      (pss_one (ps_set (i := 3) nd rfl (Or.inl rfl) (pe_ix (ix_TK (K := K) rfl) (pe_ix (ix_TK (K := K) rfl) (pe_flK (K := K) rfl (pv 0) rfl) (pe_find (pe_flK (K := K) rfl (pe_flK (K := K) rfl (pv 0) rfl) rfl) (pv 4)) (fun _ _ => rfl)) (pv 3) (fun _ _ => rfl)))))
      (pss_one (ps_ret (pv 3))))), ?_⟩
  refine s_start [some _, some _, some _, none, none] rfl ?_
  obtain ⟨dx, fs, t, q0, e1, e2, e3, e4, e5, e6⟩ := hc.ex
  obtain ⟨dp, tp, dq, a1, a2, a3⟩ := pl.ex
  obtain ⟨E, b1, b2, b3⟩ := e5.ex
  have lE : E.length = TT.length := by rw [← b1, List.length_map]
  walk_at "go2"
  refine for_it (walk_tx wy) (fun i σ H1 => ∃ y4, σ = [some (.ref c), some (.int ((p : Nat) : Int)), some (.str (tx wy)), some (.int ((walkT ks TT p (wy.take i) : Nat) : Int)), y4] ∧ H1 = H) ⟨_, rfl, rfl⟩ (fun _ _ _ _ _ => trivial) ?_ ?_
  · rintro i v σ H1 H2 hi ⟨y4, rfl, rfl⟩ ⟨rfl, rfl⟩
    have ha : wy[i]? = some wy[i] := List.getElem?_eq_getElem hi
    have hg : wy.getD i 0 = wy[i] := by rw [List.getD_eq_getElem?_getD, ha]; rfl
    rw [hg]
    generalize wy[i] = a at ha
    have am := hw a (List.mem_of_getElem? ha)
    have l1 : ixOf ks a < E.length := by rw [lE, lT]; exact (ixOf_get am).1
    have he : E[ixOf ks a]? = some E[ixOf ks a] := List.getElem?_eq_getElem l1
    have em : E[ixOf ks a] ∈ E := List.getElem_mem l1
    have er : rowK ks TT a = E[ixOf ks a].1 := by
      unfold rowK
      rw [← b1, List.getD_eq_getElem?_getD, List.getElem?_map, he]
      rfl
    have lt := walkT_lt (p := p) (w := wy.take i) okT lT lp fun d hd => hw d (List.mem_of_mem_take hd)
    walk_at "go2"
    refine v_fld e1 T.Closed.cl T.nQt e3 ?_
    walk_at "go2"
    refine v_fld e1 T.Closed.cl T.nQp e2 ?_
    walk_at "go2"
    refine v_fld a1 T.Plan.cl T.nK planF_k ?_
    refine ⟨⟨_, rfl⟩, ?_⟩
    walk_at "go2"
    refine v_find am ?_
    refine v_ixT b2 (at_of (j := ixOf ks a) rfl (by rw [List.getElem?_map, he]; rfl)) ?_
    walk_at "go2"
    refine v_ixT (b3 _ em) (at_of (j := walkT ks TT p (wy.take i)) rfl (num_at (by rw [lt_rows b1 okT em]; exact lt))) ?_
    walk_at "go2"
    refine ⟨some (.str (tx [a])), ?_, rfl⟩
    rw [take_succ_get ha, walkT_snoc, er]
    rfl
  · rintro σ H1 ⟨y4, rfl, rfl⟩
    walk_at "go2"
    rw [List.take_length]
    exact q
abbrev stClosed_at : Stmt := (inClass (top 44) 4)
abbrev NClosed_at : List Str := ["self", "room"]
theorem scClosed_at : FnScope NClosed_at ["self", "room"] (defScope stClosed_at) := ⟨rfl, rfl, rfl, by decide +kernel, rfl, by decide +kernel, by decide +kernel⟩

theorem ok_Closed_at (F : MAt K CL "at" "Closed.at" stClosed_at) (T : TxtCr K mg C R O CL) (D_need_same : Def P w K mg base CX0 3 "need_same" ["plan", "other"] (calmOf (spNeedSame C O))) (M_Closed_walked : MDef P w K mg base CX0 1 CL "walked" ["self", "place", "way"] (spClWalk C CL)) : MDef P w K mg base CX0 4 CL "at" ["self", "room"] (spClAt C R CL) := by
  refine F.ok scClosed_at (fun _ _ _ _ _ _ us hl => match us, hl with | [_, _], _ => rfl) (fun vs H Q E h => ?_) (fun f cdv A outer s H vs Q E hr h => ?_)
  · obtain ⟨c, x, r, y, ks, ps, T, m, wy, rfl, _⟩ := h
    rfl
  obtain ⟨c, x, r, y, ks, ps, TT, m, wy, rfl, hc, pl, ro, ply, psk, okT, lT, m0, hw, q⟩ := h
  have hu := hu_of hr
  have nd := scClosed_at.nd
  replace M_Closed_walked := M_Closed_walked.mono (show 1 ≤ 3 by decide)
  refine ⟨_, (pss_cons (ps_expr (pe_cd D_need_same hr pass0 (pa_cons (pe_flK (K := K) rfl (pv 0) rfl) (pa_cons (pe_flK (K := K) rfl (pv 1) rfl) pa_nil))))
      (pss_one (ps_ret (pe_md M_Closed_walked T.Closed.cl hr pass0 (pv 0) (pa_cons pe_int (pa_cons (pe_flK (K := K) rfl (pv 1) rfl) pa_nil)))))), ?_⟩
  refine s_start [some _, some _] rfl ?_
  obtain ⟨dx, fs, t, q0, e1, e2, e3, e4, e5, e6⟩ := hc.ex
  obtain ⟨dy, gs, n1, n2, n3, n4, n5, _⟩ := hc.no
  obtain ⟨dr, r1⟩ := ro.ex
  walk_at "go2"
  refine v_fld e1 T.Closed.cl T.nQp e2 ?_
  walk_at "go2"
  refine v_fld r1 T.Room.cl T.nPl roomF_p ?_
  walk_at "go2"
  refine ⟨x, y, true, rfl, ⟨_, _, _, _, pl, ply, psk, psk, (decide_eq_true ⟨rfl, rfl⟩).symm⟩, fun _ => ?_, fun z => nomatch z⟩
  walk_at "go2"
  refine v_md n1 n5 ?_
  walk_at "go2"
  refine v_fld r1 T.Room.cl T.nNm roomF_n ?_
  walk_at "go2"
  exact ⟨c, x, ks, ps, TT, m, 0, wy, rfl, hc, pl, okT, lT, m0, hw, q H (Same.refl _)⟩
end
end
section
open PySem PySem.Spec L2
/-- tables of a plan that are right -/
structure Good (n : Nat) (ks : List Nat) (ps T : List (List Nat)) : Prop where
  lT : T.length = ks.length
  lk : ks.length ≤ 1000
  lp : ps.length ≤ 1000
  ok : OkT n T
  n0 : 0 < n
  ln : n ≤ 1000
  back : Back n T
  exch : Exch n ks ps T
theorem Good.arg {K : PySem.W.Frag} {C : Addr} {H : Hp} {x t : Addr} {ks : List Nat} {ps T : List (List Nat)} {n : Nat} (g : Good n ks ps T) (pl : PlanAt C H x ks ps) (tab : TabS K H t T) : ClArg K C H x t ks ps T n :=
  ⟨pl, tab, g.lT, g.lk, g.lp, g.ok, g.n0, g.ln, g.back, g.exch⟩
/-- places out of which nothing leads -/
structure Cl (n : Nat) (T : List (List Nat)) (fd : List Nat) : Prop where
  nd : fd.Nodup
  lt : ∀ x ∈ fd, x < n
  cl : ∀ y ∈ fd, ∀ r ∈ T, r.getD y 0 ∈ fd
section
variable {n : Nat} {ks : List Nat} {ps T S : List (List Nat)} {fd r : List Nat} {i j p x : Nat}
theorem Cl.of_bfs (ok : OkT n T) (h : x < n) : Cl n T (bfs T n x) := ⟨(bfs_ok ok h).nd, (bfs_ok ok h).lt, bfs_closed ok h⟩
theorem Cl.le (h : Cl n T fd) : fd.length ≤ n := (FdOk.mk h.nd h.lt).len
theorem getD_inj71 (nd : fd.Nodup) (hi : i < fd.length) (hj : j < fd.length) (e : fd.getD i 0 = fd.getD j 0) : i = j := by
  rw [List.getD_eq_getElem?_getD, List.getD_eq_getElem?_getD, List.getElem?_eq_getElem hi, List.getElem?_eq_getElem hj] at e
  exact (List.getElem_inj nd).mp e
theorem ixOf_getD (nd : fd.Nodup) (hj : j < fd.length) : ixOf fd (fd.getD j 0) = j := by
  obtain ⟨h1, h2⟩ := ixOf_get (getD_mem hj)
  exact getD_inj71 nd h1 hj h2
theorem rowN_get (hj : j < fd.length) : (rowN fd r).getD j 0 = ixOf fd (r.getD (fd.getD j 0) 0) := by
  unfold rowN
  rw [List.getD_eq_getElem?_getD, List.getElem?_map, List.getD_eq_getElem?_getD (l := fd), List.getElem?_eq_getElem hj]
  rfl
theorem rowN_lt (h : Cl n T fd) (hr : r ∈ T) (hj : j < fd.length) : (rowN fd r).getD j 0 < fd.length := by
  rw [rowN_get hj]
  exact (ixOf_get (h.cl _ (getD_mem hj) r hr)).1
theorem ph_row (h : Cl n T fd) (hr : r ∈ T) (hj : j < fd.length) : fd.getD ((rowN fd r).getD j 0) 0 = r.getD (fd.getD j 0) 0 := by
  rw [rowN_get hj]
  exact (ixOf_get (h.cl _ (getD_mem hj) r hr)).2
theorem Cl.numT (h : Cl n T fd) : OkT fd.length (numT T fd) := fun s hs => by
  obtain ⟨r, hr, rfl⟩ := List.mem_map.mp hs
  refine ⟨List.length_map _, fun y hy => ?_⟩
  obtain ⟨p, hp, rfl⟩ := List.mem_map.mp hy
  exact (ixOf_get (h.cl p hp r hr)).1
theorem Cl.back (h : Cl n T fd) (b : Back n T) : Back fd.length (Cw.numT T fd) := fun s hs p hp => by
  obtain ⟨r, hr, rfl⟩ := List.mem_map.mp hs
  have l1 := rowN_lt h hr hp
  refine getD_inj71 h.nd (rowN_lt h hr l1) hp ?_
  rw [ph_row h hr l1, ph_row h hr hp]
  exact b r hr _ (h.lt _ (getD_mem hp))
theorem rowK_num (l : T.length = ks.length) {c : Nat} (hc : c ∈ ks) : rowK ks (Cw.numT T fd) c = rowN fd (rowK ks T c) := by
  have h1 := (ixOf_get hc).1
  unfold rowK Cw.numT
  rw [List.getD_eq_getElem?_getD, List.getElem?_map, List.getD_eq_getElem?_getD, List.getElem?_eq_getElem (show ixOf ks c < T.length by omega)]
  rfl
theorem Cl.exch (h : Cl n T fd) (l : T.length = ks.length) (e : Exch n ks ps T) : Exch fd.length ks ps (Cw.numT T fd) := fun q hq => by
  obtain ⟨a, b, e1, ha, hb, hx⟩ := e q hq
  refine ⟨a, b, e1, ha, hb, fun x hx0 => ?_⟩
  rw [rowK_num l ha, rowK_num l hb]
  have ra := rowK_mem l ha
  have rb := rowK_mem l hb
  have la := rowN_lt h ra hx0
  have lb := rowN_lt h rb hx0
  refine getD_inj71 h.nd (rowN_lt h rb la) (rowN_lt h ra lb) ?_
  rw [ph_row h rb la, ph_row h ra lb, ph_row h ra hx0, ph_row h rb hx0]
  exact hx _ (h.lt _ (getD_mem hx0))
theorem Good.num (g : Good n ks ps T) (h : Cl n T fd) (h0 : 0 < fd.length) : Good fd.length ks ps (Cw.numT T fd) :=
  ⟨by rw [← g.lT]; exact List.length_map _, g.lk, g.lp, h.numT, h0, Nat.le_trans h.le g.ln, h.back g.back, h.exch g.lT g.exch⟩
theorem Good.bfs (g : Good n ks ps T) (h : x < n) : Good (bfs T n x).length ks ps (Cw.numT T (Cw.bfs T n x)) := g.num (.of_bfs g.ok h) (bfs_pos T n x)
/-! ### numbering commutes with finding -/
theorem map_mem_iff (nd : fd.Nodup) {l : List Nat} (hl : ∀ y ∈ l, y < fd.length) (hx : x < fd.length) : fd.getD x 0 ∈ l.map (fun j => fd.getD j 0) ↔ x ∈ l :=
  ⟨fun h => by
    obtain ⟨y, hy, e⟩ := List.mem_map.mp h
    rw [← getD_inj71 nd (hl y hy) hx e]
    exact hy, fun h => List.mem_map.mpr ⟨x, h, rfl⟩⟩
theorem addT_num (h : Cl n T fd) (hS : ∀ r ∈ S, r ∈ T) (hx : x < fd.length) : ∀ {l : List Nat}, (∀ y ∈ l, y < fd.length) → (addT (Cw.numT S fd) x l).map (fun j => fd.getD j 0) = addT S (fd.getD x 0) (l.map fun j => fd.getD j 0) ∧ ∀ y ∈ addT (Cw.numT S fd) x l, y < fd.length := by
  induction S with
  | nil => exact fun hl => ⟨rfl, hl⟩
  | cons r S ih =>
    intro l hl
    have hr := hS r (List.mem_cons_self ..)
    have lr := rowN_lt h hr hx
    have e := ph_row h hr hx
    have ih := fun (l : List Nat) => ih (fun s hs => hS s (List.mem_cons_of_mem _ hs)) (l := l)
    show (addT (Cw.numT S fd) x (if (rowN fd r).getD x 0 ∈ l then l else l ++ [(rowN fd r).getD x 0])).map _ = addT S _ (if r.getD (fd.getD x 0) 0 ∈ l.map _ then l.map _ else l.map _ ++ [r.getD (fd.getD x 0) 0]) ∧ ∀ y ∈ addT (Cw.numT S fd) x (if (rowN fd r).getD x 0 ∈ l then l else l ++ [(rowN fd r).getD x 0]), y < fd.length
    have mi := map_mem_iff h.nd hl lr
    rw [e] at mi
    by_cases c : (rowN fd r).getD x 0 ∈ l
    · rw [if_pos c, if_pos (mi.mpr c)]
      exact ih _ hl
    · rw [if_neg c, if_neg fun z => c (mi.mp z)]
      have hl2 : ∀ y ∈ l ++ [(rowN fd r).getD x 0], y < fd.length := fun y hy => by
        rcases List.mem_append.mp hy with z | z
        · exact hl y z
        · rw [List.mem_singleton.mp z]
          exact lr
      obtain ⟨a1, a2⟩ := ih _ hl2
      refine ⟨?_, a2⟩
      rw [a1, List.map_append, List.map_cons, List.map_nil, e]
theorem fp_num (h : Cl n T fd) (hS : ∀ r ∈ S, r ∈ T) : ∀ (m i : Nat) {l : List Nat}, (∀ y ∈ l, y < fd.length) → (fp (Cw.numT S fd) m i l).map (fun j => fd.getD j 0) = fp S m i (l.map fun j => fd.getD j 0) ∧ ∀ y ∈ fp (Cw.numT S fd) m i l, y < fd.length
  | 0, _, _, hl => ⟨rfl, hl⟩
  | m + 1, i, l, hl => by
    show (if i < l.length then fp (Cw.numT S fd) m (i + 1) (addT (Cw.numT S fd) (l.getD i 0) l) else l).map _ = (if i < (l.map fun j => fd.getD j 0).length then fp S m (i + 1) (addT S ((l.map fun j => fd.getD j 0).getD i 0) (l.map fun j => fd.getD j 0)) else _) ∧ ∀ y ∈ (if i < l.length then fp (Cw.numT S fd) m (i + 1) (addT (Cw.numT S fd) (l.getD i 0) l) else l), y < fd.length
    rw [List.length_map]
    by_cases c : i < l.length
    · rw [if_pos c, if_pos c]
      have eg : (l.map fun j => fd.getD j 0).getD i 0 = fd.getD (l.getD i 0) 0 := by
        rw [List.getD_eq_getElem?_getD, List.getElem?_map, List.getD_eq_getElem?_getD (l := l), List.getElem?_eq_getElem c]
        rfl
      obtain ⟨a1, a2⟩ := addT_num (x := l.getD i 0) h hS (hl _ (getD_mem c)) hl
      obtain ⟨b1, b2⟩ := fp_num h hS m (i + 1) a2
      exact ⟨by rw [b1, a1, eg], b2⟩
    · rw [if_neg c, if_neg c]
      exact ⟨rfl, hl⟩
/-- with fuel enough the fuel tells nothing -/
theorem fp_fuel (ok : OkT n T) : ∀ (m m' i : Nat) {l : List Nat}, FdOk n l → n + 1 ≤ m + i → n + 1 ≤ m' + i → fp T m i l = fp T m' i l
  | 0, 0, _, _, _, _, _ => rfl
  | 0, m' + 1, i, l, f, h1, h2 => by
    have := f.len
    show l = if i < l.length then _ else l
    rw [if_neg (by omega)]
  | m + 1, 0, i, l, f, h1, h2 => by
    have := f.len
    show (if i < l.length then _ else l) = l
    rw [if_neg (by omega)]
  | m + 1, m' + 1, i, l, f, h1, h2 => by
    show (if i < l.length then fp T m (i + 1) (addT T (l.getD i 0) l) else l) = (if i < l.length then fp T m' (i + 1) (addT T (l.getD i 0) l) else l)
    by_cases c : i < l.length
    · rw [if_pos c, if_pos c]
      exact fp_fuel ok m m' (i + 1) (f.add ok (f.lt _ (getD_mem c))) (by omega) (by omega)
    · rw [if_neg c, if_neg c]
theorem OkT.sub (ok : OkT n T) (hS : ∀ r ∈ S, r ∈ T) : OkT n S := fun r hr => ok r (hS r hr)
theorem bfs_num (ok : OkT n T) (h : Cl n T fd) (hS : ∀ r ∈ S, r ∈ T) (hp : p < fd.length) : (Cw.bfs (Cw.numT S fd) fd.length p).map (fun j => fd.getD j 0) = Cw.bfs S n (fd.getD p 0) ∧ ∀ y ∈ Cw.bfs (Cw.numT S fd) fd.length p, y < fd.length := by
  obtain ⟨a1, a2⟩ := fp_num h hS (fd.length + 1) 0 (l := [p]) fun y hy => by rw [List.mem_singleton.mp hy]; exact hp
  refine ⟨?_, a2⟩
  have okN : OkT fd.length (Cw.numT S fd) := fun s hs => h.numT s (by
    obtain ⟨r, hr, rfl⟩ := List.mem_map.mp hs
    exact List.mem_map.mpr ⟨r, hS r hr, rfl⟩)
  have e1 := fp_fuel okN (fd.length + 1) (n + 1) 0 (.one hp) (by omega) (by have := h.le; omega)
  show (fp (Cw.numT S fd) (fd.length + 1) 0 [p]).map _ = fp S (n + 1) 0 [fd.getD p 0]
  rw [e1]
  obtain ⟨b1, b2⟩ := fp_num h hS (n + 1) 0 (l := [p]) fun y hy => by rw [List.mem_singleton.mp hy]; exact hp
  rw [b1]
  rfl
theorem bfs_first71 (T : List (List Nat)) (n x : Nat) : (Cw.bfs T n x).getD 0 0 = x := by
  obtain ⟨q, hq⟩ := fp_pre T (n + 1) 0 [x]
  show (fp T (n + 1) 0 [x]).getD 0 0 = x
  rw [hq]
  rfl
/-! ### found from any of the places -/
/-! ### ways -/
theorem walkT_app {w v : List Nat} : walkT ks T p (w ++ v) = walkT ks T (walkT ks T p w) v := List.foldl_append
/-- crossing kinds are exchanged at each place -/
theorem Good.sw (g : Good n ks ps T) {a b : Nat} (hb : b ∈ crossOf ks ps a) (hx : x < n) : (rowK ks T b).getD ((rowK ks T a).getD x 0) 0 = (rowK ks T a).getD ((rowK ks T b).getD x 0) 0 := by
  obtain ⟨h1, h2⟩ := List.mem_filter.mp hb
  rcases Bool.or_eq_true_iff.mp h2 with z | z
  · obtain ⟨c, d, e, _, _, h⟩ := g.exch _ (of_decide_eq_true z)
    injection e with e1 e2
    injection e2 with e2 _
    subst e1
    subst e2
    exact h x hx
  · obtain ⟨c, d, e, _, _, h⟩ := g.exch _ (of_decide_eq_true z)
    injection e with e1 e2
    injection e2 with e2 _
    subst e1
    subst e2
    exact (h x hx).symm
theorem walk_past (g : Good n ks ps T) {k : Nat} : ∀ {q : List Nat} {p : Nat}, (∀ y ∈ q, y ∈ crossOf ks ps k) → k ∈ ks → p < n → walkT ks T ((rowK ks T k).getD p 0) q = (rowK ks T k).getD (walkT ks T p q) 0
  | [], _, _, _, _ => rfl
  | y :: q, p, h, hk, hp => by
    have hy := h y (List.mem_cons_self ..)
    have my := (List.mem_filter.mp hy).1
    show walkT ks T ((rowK ks T y).getD ((rowK ks T k).getD p 0) 0) q = (rowK ks T k).getD (walkT ks T ((rowK ks T y).getD p 0) q) 0
    rw [g.sw hy hp, walk_past g (fun z hz => h z (List.mem_cons_of_mem _ hz)) hk (g.ok.get (rowK_mem g.lT my) hp)]
theorem walk_step (g : Good n ks ps T) {name : List Nat} {k : Nat} (hn : ∀ c ∈ name, c ∈ ks) (hk : k ∈ ks) (hp : p < n) : walkT ks T p (stepOf (crossOf ks ps k) name k) = (rowK ks T k).getD (walkT ks T p name) 0 := by
  obtain ⟨d, e, e1, hd, he, hc⟩ := stepOf_cases (crossOf ks ps k) name k
  have e1' := congrArg List.reverse e1
  rw [List.reverse_reverse, List.reverse_append] at e1'
  have hd' : ∀ y ∈ d.reverse, y ∈ crossOf ks ps k := fun y hy => hd y (List.mem_reverse.mp hy)
  rcases hc with ⟨e', rfl, e2⟩ | ⟨hk', e2⟩
  · have e3 := congrArg List.reverse e2
    rw [List.reverse_reverse, List.reverse_append] at e3
    rw [e3, e1', List.reverse_cons, walkT_app, walkT_app, walkT_app]
    have hq : walkT ks T p e'.reverse < n := walkT_lt g.ok g.lT hp fun c hc => hn c (by rw [e1', List.reverse_cons]; exact List.mem_append_left _ (List.mem_append_left _ hc))
    show _ = (rowK ks T k).getD (walkT ks T ((rowK ks T k).getD (walkT ks T p e'.reverse) 0) d.reverse) 0
    have r1 := walk_past g hd' hk hq
    rw [r1]
    have hq2 : walkT ks T (walkT ks T p e'.reverse) d.reverse < n := walkT_lt g.ok g.lT hq fun c hc => (List.mem_filter.mp (hd' c hc)).1
    exact (g.back _ (rowK_mem g.lT hk) _ hq2).symm
  · have e3 := congrArg List.reverse e2
    rw [List.reverse_reverse, List.reverse_append, List.reverse_reverse] at e3
    obtain ⟨b1, b2, eb, ep, hb1, hb2⟩ := putIn_split k d.reverse
    rw [e3, e1', ep, eb]
    have h2 : ∀ y ∈ b2, y ∈ crossOf ks ps k := fun y hy => hd' y (by rw [eb]; exact List.mem_append_right _ hy)
    simp only [walkT_app]
    have hq : walkT ks T (walkT ks T p e.reverse) b1 < n := walkT_lt g.ok g.lT (walkT_lt g.ok g.lT hp fun c hc => hn c (by rw [e1']; exact List.mem_append_left _ hc)) fun c hc => (List.mem_filter.mp (hd' c (by rw [eb]; exact List.mem_append_left _ hc))).1
    show walkT ks T ((rowK ks T k).getD (walkT ks T (walkT ks T p e.reverse) b1) 0) b2 = _
    exact walk_past g h2 hk hq
theorem walk_join (g : Good n ks ps T) (hp : p < n) : ∀ (way : List Nat) {name : List Nat}, (∀ c ∈ name, c ∈ ks) → (∀ c ∈ way, c ∈ ks) → walkT ks T p (joinOf ks ps name way) = walkT ks T p (name ++ way)
  | [], name, _, _ => by rw [List.append_nil]; rfl
  | k :: way, name, hn, hw => by
    have hk := hw k (List.mem_cons_self ..)
    show walkT ks T p (joinOf ks ps (stepOf (crossOf ks ps k) name k) way) = _
    rw [walk_join g hp way (fun c hc => (stepOf_mem hc).elim (fun z => z ▸ hk) (hn c)) (fun c hc => hw c (List.mem_cons_of_mem _ hc)), walkT_app, walk_step g hn hk hp, walkT_app]
    rfl
end
end
section
open PySem PySem.Spec L2
section
variable {P : Program} {w : World} {K : PySem.W.Frag} {mg : Str → Option Value} {base : Heap} {C R O CL : Addr}
end
end
section
open PySem PySem.Spec L2
def ltr71 (f s k : Nat) : Nat := LET.getD ((f + s * k) % 26) 0
theorem ltr71_all : ∀ f ∈ List.range 26, ∀ s ∈ [1, 3, 5, 7], ((List.range 8).map (ltr71 f s)).Nodup ∧ ∀ c ∈ (List.range 8).map (ltr71 f s), c ∈ LET := by decide +kernel
theorem ltr71_nd {f s m : Nat} (hf : f < 26) (hs : s ∈ [1, 3, 5, 7]) (hm : m ≤ 8) : ((List.range m).map (ltr71 f s)).Nodup ∧ ∀ c ∈ (List.range m).map (ltr71 f s), c ∈ LET := by
  obtain ⟨h1, h2⟩ := ltr71_all f (List.mem_range.mpr hf) s hs
  have sub : ((List.range m).map (ltr71 f s)).Sublist ((List.range 8).map (ltr71 f s)) := by
    refine List.Sublist.map _ ?_
    rw [← Nat.min_eq_left hm, ← List.take_range]
    exact List.take_sublist _ _
  exact ⟨h1.sublist sub, fun c hc => h2 c (sub.subset hc)⟩
theorem sorted_ones71 {ws : List (List Nat)} {ls : List Nat} (pm : ws.Perm (ls.map fun c => [c])) (nd : ls.Nodup) (pw : ws.Pairwise fun a b => ¬ b < a) : ∃ ks : List Nat, ws = ks.map (fun c => [c]) ∧ ks.Perm ls ∧ ks.Pairwise (· < ·) := by
  obtain ⟨ks, rfl, pk⟩ := perm_ones pm
  refine ⟨ks, rfl, pk, ?_⟩
  have nk : ks.Nodup := pk.symm.nodup nd
  rw [List.pairwise_map] at pw
  refine List.pairwise_iff_getElem.mpr fun i j hi hj l => ?_
  have h1 := List.pairwise_iff_getElem.mp pw i j hi hj l
  have h2 : ks[i] ≠ ks[j] := fun e => by have := (List.getElem_inj nk).mp e; omega
  have h3 : ¬ ks[j] < ks[i] := fun z => h1 (List.cons_lt_cons_iff.mpr (.inl z))
  omega
/-- the kinds and the pairs of a scene -/
structure ScOk (ks : List Nat) (gs : List (List Nat)) : Prop where
  asc : ks.Pairwise (· < ·)
  lt : ∀ c ∈ ks, c ∈ LET
  len : ks.length ≤ 8
  prs : PairsIn ks gs
  few : gs.length ≤ 100
theorem ScOk.nd {ks : List Nat} {gs : List (List Nat)} (h : ScOk ks gs) : ks.Nodup := h.asc.imp fun {a b} z e => by omega
/-- whether two kinds cross -/
def crB (gs : List (List Nat)) (a b : Nat) : Bool := decide ([a, b] ∈ gs) || decide ([b, a] ∈ gs)
theorem asc_rev (l : List Nat) : ascOf l.reverse = ascOf l := ascOf_congr fun c => by simp
theorem prs_crB {ks : List Nat} {gs : List (List Nat)} (h : ScOk ks gs) {a b : Nat} : [a, b] ∈ prsOf gs ↔ a < b ∧ crB gs a b = true := by
  unfold prsOf crB
  rw [Bool.or_eq_true_iff, decide_eq_true_iff, decide_eq_true_iff]
  constructor
  · intro m
    obtain ⟨x, y, e, hx, hy, m⟩ := pairsOf_mem.mp m
    injection e with e1 e2
    injection e2 with e2 _
    subst e1
    subst e2
    obtain ⟨r, hr, e⟩ := List.mem_map.mp m
    obtain ⟨u, v, rfl, n, hu, hv⟩ := h.prs r hr
    have lu := h.lt u hu
    have lv := h.lt v hv
    rcases Nat.lt_or_gt_of_ne n with z | z
    · rw [(asc2 lu lv z).1] at e
      injection e with e1 e2
      injection e2 with e2 _
      subst e1
      subst e2
      exact ⟨z, .inl hr⟩
    · rw [(asc2 lv lu z).2] at e
      injection e with e1 e2
      injection e2 with e2 _
      subst e1
      subst e2
      exact ⟨z, .inr hr⟩
  · rintro ⟨l, m | m⟩
    · obtain ⟨u, v, e, n, hu, hv⟩ := h.prs _ m
      injection e with e1 e2
      injection e2 with e2 _
      subst e1
      subst e2
      exact pairsOf_mem.mpr ⟨a, b, rfl, h.lt _ hu, h.lt _ hv, List.mem_map.mpr ⟨[a, b], m, (asc2 (h.lt _ hu) (h.lt _ hv) l).1⟩⟩
    · obtain ⟨u, v, e, n, hu, hv⟩ := h.prs _ m
      injection e with e1 e2
      injection e2 with e2 _
      subst e1
      subst e2
      exact pairsOf_mem.mpr ⟨a, b, rfl, h.lt _ hv, h.lt _ hu, List.mem_map.mpr ⟨[b, a], m, (asc2 (h.lt _ hv) (h.lt _ hu) l).2⟩⟩
theorem prs_twin (gs : List (List Nat)) : prsOf (gs.reverse.map List.reverse) = prsOf gs := by
  unfold prsOf
  refine pairsOf_congr fun a b _ _ => ?_
  rw [List.map_map]
  constructor
  · intro h
    obtain ⟨r, hr, e⟩ := List.mem_map.mp h
    exact List.mem_map.mpr ⟨r, List.mem_reverse.mp hr, by rw [← e]; exact (asc_rev r).symm⟩
  · intro h
    obtain ⟨r, hr, e⟩ := List.mem_map.mp h
    exact List.mem_map.mpr ⟨r, List.mem_reverse.mpr hr, by rw [← e]; exact asc_rev r⟩
theorem asc_self71 {ks : List Nat} (asc : ks.Pairwise (· < ·)) (lt : ∀ c ∈ ks, c ∈ LET) : ascOf ks = ks := by
  refine List.Perm.eq_of_pairwise (le := (· < ·)) (fun a b _ _ h1 h2 => by omega) (asc_pw ks) asc ?_
  refine (List.perm_ext_iff_of_nodup (ascOf_nodup ks) (asc.imp fun {a b} z e => by omega)).mpr fun c => ?_
  rw [ascOf_mem]
  exact ⟨fun h => h.2, fun h => ⟨lt c h, h⟩⟩
theorem ScOk.kinds {ks : List Nat} {gs : List (List Nat)} (h : ScOk ks gs) : kindsOf ks = ks ∧ kindsOf ks.reverse = ks := ⟨asc_self71 h.asc h.lt, (asc_rev ks).trans (asc_self71 h.asc h.lt)⟩
/-- a scene -/
structure SceneAt (C : Addr) (H : Hp) (q : Addr) (ks : List Nat) (gs : List (List Nat)) (x y : Addr) : Prop where
  ex : ∃ l, H q = some (.dK [(Sum.inr ("kinds" : Str), .str (tx ks)), (Sum.inr ("pairs" : Str), .ref l), (Sum.inr ("plan" : Str), .ref x), (Sum.inr ("twin" : Str), .ref y)]) ∧ H l = some (.lst (strsV gs))
  px : PlanAt C H x ks (prsOf gs)
  py : PlanAt C H y ks (prsOf gs)
theorem SceneAt.same {C : Addr} {H H' : Hp} {q : Addr} {ks : List Nat} {gs : List (List Nat)} {x y : Addr} (h : SceneAt C H q ks gs x y) (s : Same H H') : SceneAt C H' q ks gs x y := by
  obtain ⟨l, e1, e2⟩ := h.ex
  exact ⟨⟨l, s _ _ e1, s _ _ e2⟩, h.px.same s, h.py.same s⟩
section
variable {H : Hp} {q : Addr} {ks : List Nat} {l x y : Addr}
theorem sc_kinds (h : H q = some (.dK [(Sum.inr ("kinds" : Str), .str (tx ks)), (Sum.inr ("pairs" : Str), .ref l), (Sum.inr ("plan" : Str), .ref x), (Sum.inr ("twin" : Str), .ref y)])) : DGet H q (.str "kinds") (some (.str (tx ks))) := DGet.k (k := Sum.inr ("kinds" : Str)) h
theorem sc_pairs (h : H q = some (.dK [(Sum.inr ("kinds" : Str), .str (tx ks)), (Sum.inr ("pairs" : Str), .ref l), (Sum.inr ("plan" : Str), .ref x), (Sum.inr ("twin" : Str), .ref y)])) : DGet H q (.str "pairs") (some (.ref l)) := DGet.k (k := Sum.inr ("pairs" : Str)) h
theorem sc_plan (h : H q = some (.dK [(Sum.inr ("kinds" : Str), .str (tx ks)), (Sum.inr ("pairs" : Str), .ref l), (Sum.inr ("plan" : Str), .ref x), (Sum.inr ("twin" : Str), .ref y)])) : DGet H q (.str "plan") (some (.ref x)) := DGet.k (k := Sum.inr ("plan" : Str)) h
theorem sc_twin (h : H q = some (.dK [(Sum.inr ("kinds" : Str), .str (tx ks)), (Sum.inr ("pairs" : Str), .ref l), (Sum.inr ("plan" : Str), .ref x), (Sum.inr ("twin" : Str), .ref y)])) : DGet H q (.str "twin") (some (.ref y)) := DGet.k (k := Sum.inr ("twin" : Str)) h
end
end
section
open PySem PySem.Spec L2
structure TxtSc (K : PySem.W.Frag) (mg : Str → Option Value) (C R O CL : Addr) : Prop extends TxtCr K mg C R O CL where
  sorted : mg "sorted" = none
  min : mg "min" = none
  dict : mg "dict" = none
def spScene (C : Addr) : Sp := fun vs H Q _ => ∃ (g : Pen) (n least most : Nat), vs = [.ref g.p, .int ((least : Nat) : Int), .int ((most : Nat) : Int)] ∧ PenAt g H n ∧ n < 800000 ∧ least ≤ most ∧ most ≤ 8 ∧
  ∀ q ks gs x y H', H q = none → SceneAt C H' q ks gs x y → ScOk ks gs → least ≤ ks.length → ks.length ≤ most → PenAt g H' (n + 68) → Keep g.p H H' → Q (.ref q) H'
theorem e_revL71 {K : PySem.W.Frag} {te : TE} {σ : L2.St} {H : Hp} {Q : VK} (q : te σ H fun x H1 => ∃ a xs, x = .ref a ∧ SqL K H1 a xs ∧ ∀ p, H1 p = none → Q (.ref p) (upd H1 p (.lst xs.reverse))) : tRevL K te σ H Q := q
theorem walk_strL71 {K : PySem.W.Frag} {a : Addr} {ls : List (List Nat)} : Walk (Itl K a) ls.length (fun H => SqL K H a (strsV ls)) (fun k H x H' => H' = H ∧ x = .str (tx (ls.getD k []))) := by
  have w := walk_list (K := K) (a := a) (xs := strsV ls)
  rw [show (strsV ls).length = ls.length from List.length_map _] at w
  refine w.mono (fun _ z => z) fun i H x H' hi _ y => ⟨y.1, ?_⟩
  have z := y.2
  rw [List.getElem?_map, List.getElem?_eq_getElem hi] at z
  rw [List.getD_eq_getElem?_getD, List.getElem?_eq_getElem hi]
  exact (Option.some.inj z).symm
section
variable {P : Program} {w : World} {K : PySem.W.Frag} {mg : Str → Option Value} {base : Heap} {C R O CL : Addr}
abbrev stscene : Stmt := (top 55)
abbrev Nscene : List Str := ["_law_pen", "_law_least", "_law_most", "_law_many", "_law_first", "_law_step", "_law_letters", "_law_kinds", "_law_shape", "_law_pairs", "_law_k", "_law_j", "_law_near_here", "_law_menu", "_law_twin", "_law_pair"]
theorem scscene : FnScope Nscene ["_law_pen", "_law_least", "_law_most"] (defScope stscene) := ⟨rfl, rfl, rfl, by decide +kernel, rfl, by decide +kernel, by decide +kernel⟩

theorem ok_scene (F : FnAt K mg "_law_scene" stscene) (T : TxtSc K mg C R O CL) (D_draw : Def P w K mg base CX0 1 "_law_draw" ["_law_pen", "_law_span"] spDraw) (D_pick : Def P w K mg base CX0 2 "_law_pick" ["_law_pen", "_law_some"] spPick2) (C_Plan : CDef P w K mg base CX0 3 "Plan" C (spPlan K C)) : Def P w K mg base CX0 5 "_law_scene" ["_law_pen", "_law_least", "_law_most"] (spScene C) := by
  refine F.ok scscene (fun _ _ _ _ _ _ us hl => match us, hl with | [_, _, _], _ => rfl) (fun vs H Q E h => ?_) (fun f cdv A outer s H vs Q E hr h => ?_)
  · obtain ⟨g, n, least, most, rfl, _⟩ := h
    rfl
  obtain ⟨g, n, least, most, rfl, hp, hn, lm, m8, k⟩ := h
  have hu := hu_of hr
  have nd := scscene.nd
  replace D_draw := D_draw.mono (show 1 ≤ 4 by decide)
  replace D_pick := D_pick.mono (show 2 ≤ 4 by decide)
  refine ⟨_, (pss_cons (ps_asg (pe_tup (pa_cons (pe_op op_add (pv 1) (pe_cd D_draw hr pass0 (pa_cons (pv 0) (pa_cons (pe_op op_sub (pe_op op_add (pv 2) pe_int) (pv 1)) pa_nil)))) (pa_cons (pe_cd D_draw hr pass0 (pa_cons (pv 0) (pa_cons pe_int pa_nil))) (pa_cons (pe_cd D_pick hr pass0 (pa_cons (pv 0) (pa_cons (pe_lst (pa_cons pe_int (pa_cons pe_int (pa_cons pe_int (pa_cons pe_int pa_nil))))) pa_nil))) pa_nil)))) (pg_tup rfl (pgs_cons (pg_name (i := 3) nd rfl (Or.inl rfl)) (pgs_cons (pg_name (i := 4) nd rfl (Or.inr rfl)) (pgs_cons (pg_name (i := 5) nd rfl (Or.inr rfl)) pgs_nil)))))
      (pss_cons (ps_set (i := 6) nd rfl (Or.inr rfl) (pe_tx [97, 98, 99, 100, 101, 102, 103, 104, 105, 106, 107, 108, 109, 110, 111, 112, 113, 114, 115, 116, 117, 118, 119, 120, 121, 122] (by decide +kernel)))
      (pss_cons (ps_set (i := 7) nd rfl (Or.inl rfl) (pe_joinK (K := K) rfl (pe_tx [] (by decide +kernel)) (pe_callB (cr_sortedTK (K := K) rfl) (by rfl) T.sorted (by decide +kernel) (pa_cons (pe_lc (own := [("_law_k", 10)]) (g := gName 10) (by rfl) nd (pi_range1 (by rfl) T.range (pa_cons (pv 3) pa_nil)) (blkOk_by (own := [("_law_k", 10)]) (N := Nscene) (sc := defScope stscene) (by decide +kernel)) (fun _ _ _ _ _ => (pg_name (i := 10) nd rfl (Or.inl rfl))) (fun _ _ _ _ _ => pts_nil) (fun _ _ _ _ _ => (pe_callTy c_strS (by rfl) T.str (by decide +kernel) (pa_cons (pe_ix ix_str (pv 6) (pe_op op_mod (pe_callTy c_int (by rfl) T.int (by decide +kernel) (pa_cons (pe_op op_add (pv 4) (pe_op op_mul (pv 5) (pv 10))) pa_nil)) pe_int) (fun _ _ => rfl)) pa_nil)))) pa_nil))))
      (pss_cons (ps_par (i := 8) (j := 9) (by rfl) nd rfl rfl (by decide) rfl rfl (pa_cons (pe_cd D_draw hr pass0 (pa_cons (pv 0) (pa_cons pe_int pa_nil))) (pa_cons (pe_lst pa_nil) pa_nil)) (by rfl))
      (pss_cons (ps_for PassesOwn.never rfl (pi_range1 (by rfl) T.range (pa_cons (pv 3) pa_nil)) (pg_name (i := 10) nd rfl (Or.inl rfl))
      (pss_one (ps_for PassesOwn.never rfl (pi_range1 (by rfl) T.range (pa_cons (pv 10) pa_nil)) (pg_name (i := 11) nd rfl (Or.inl rfl))
        (pss_cons (ps_set (i := 12) nd rfl (Or.inl rfl) (pe_cut (pe_or (pe_cmpR op_eq (pe_op op_add (pv 11) pe_int) (pv 10) (nomark _)) (pe_one (pe_and (pe_cmpR op_eq (pv 11) pe_int (nomark _)) (pe_one (pe_cmpR op_eq (pv 10) (pe_op op_sub (pv 3) pe_int) (nomark _))))))))
          (pss_cons (ps_set (i := 13) nd rfl (Or.inl rfl) (pe_lst (pa_cons pe_bl (pa_cons pe_bl (pa_cons (pv 12) (pa_cons (pe_not (pv 12)) (pa_cons (pe_cmpR op_eq (pv 11) pe_int (nomark _)) (pa_cons (pe_cmpR op_eq (pe_op op_add (pv 11) pe_int) (pv 10) (nomark _)) (pa_cons (pe_cmpR op_eq (pe_cd D_draw hr pass0 (pa_cons (pv 0) (pa_cons pe_int pa_nil))) pe_int (nomark _)) pa_nil)))))))))
          (pss_one (ps_if (pt_val (pe_ix (ix_LK (K := K) rfl) (pv 13) (pv 8) (fun _ _ => rfl)))
          (pss_one (ps_expr (pe_appK (K := K) rfl (pv 9) (pe_op op_addS (pe_ix ix_str (pv 7) (pv 11) (fun _ _ => rfl)) (pe_ix ix_str (pv 7) (pv 10) (fun _ _ => rfl))))))
          pss_nil)))))))
      (pss_cons (ps_set (i := 14) nd rfl (Or.inl rfl) (pe_mk C_Plan hr pass0 (pa_cons (pe_revS (pv 7)) (pa_cons (pe_lc (own := [("_law_pair", 15)]) (g := gName 15) (by rfl) nd (pi_listK (K := K) rfl (pe_revL (pv 9))) (blkOk_by (own := [("_law_pair", 15)]) (N := Nscene) (sc := defScope stscene) (by decide +kernel)) (fun _ _ _ _ _ => (pg_name (i := 15) nd rfl (Or.inl rfl))) (fun _ _ _ _ _ => pts_nil) (fun _ _ _ _ _ => (pe_revS (pv 15)))) pa_nil))))
      (pss_one (ps_ret (pe_disp (pps_cons pe_str (pv 7) (pps_cons pe_str (pv 9) (pps_cons pe_str (pe_mk C_Plan hr pass0 (pa_cons (pv 7) (pa_cons (pe_callTy (c_listK (K := K) rfl) (by rfl) T.list (by decide +kernel) (pa_cons (pv 9) pa_nil)) pa_nil))) (pps_cons pe_str (pv 14) pps_nil)))) (by rfl) (by rfl) (fun z => by cases z) (by decide)))))))))), ?_⟩
  refine s_start [some _, some _, some _, none, none, none, none, none, none, none, none, none, none, none, none, none] rfl ?_
  walk_at "go"
  refine ⟨g, _, n, rfl, by omega, by omega, hp, by omega, fun z H1 z0 z1 p1 k1 => ?_⟩
  obtain ⟨d0, rfl⟩ : ∃ d0 : Nat, z = (d0 : Int) := ⟨z.toNat, by omega⟩
  walk_at "go"
  obtain ⟨m, em⟩ : ∃ m : Nat, ((least : Nat) : Int) + (d0 : Int) = (m : Int) := ⟨least + d0, by omega⟩
  have hm1 : least ≤ m := by omega
  have hm2 : m ≤ most := by omega
  rw [em]
  clear em
  refine ⟨g, 26, n + 1, rfl, by omega, by omega, p1, by omega, fun z H2 y0 y1 p2 k2 => ?_⟩
  obtain ⟨fr, rfl⟩ : ∃ fr : Nat, z = (fr : Int) := ⟨z.toNat, by omega⟩
  have hfr : fr < 26 := by omega
  walk_at "go"
  intro q1 H3 hq1 s3 e3
  walk_at "go"
  refine ⟨g, n + 2, .ref q1, _, rfl, .inl ⟨q1, rfl, e3⟩, by simp, by simp, p2.same s3, by omega, fun v H4 hv p4 k4 => ?_⟩
  obtain ⟨sp, hsp, rfl⟩ : ∃ sp ∈ [1, 3, 5, 7], v = V.int (sp : Nat) := by
    simp only [List.mem_cons, List.not_mem_nil, or_false] at hv
    rcases hv with rfl | rfl | rfl | rfl
    · exact ⟨1, by decide, rfl⟩
    · exact ⟨3, by decide, rfl⟩
    · exact ⟨5, by decide, rfl⟩
    · exact ⟨7, by decide, rfl⟩
  have k4' : Keep g.p H H4 := fun b o hb nb => k4 _ _ (s3 _ _ (k2 _ _ (k1 _ _ hb nb) nb)) nb
  clear hv e3 s3 k1 k2 p1 p2 hq1 k4 z0 z1 y0 y1
  walk_at "go"
  intro q2 H5 hq2 s5 e5
  refine v_gTup3 rfl e5 ?_
  have p5 := p4.same s5
  have k5 : Keep g.p H H5 := fun b o hb nb => s5 _ _ (k4' _ _ hb nb)
  clear e5 s5 k4' p4 hq2
  walk_at "go"
  rw [show ((m : Nat) : Int).toNat = m by omega]
  obtain ⟨lnd, lle⟩ := ltr71_nd hfr hsp (show m ≤ 8 by omega)
  have sp7 : sp ≤ 7 := by
    have : ∀ s ∈ [1, 3, 5, 7], s ≤ 7 := by decide
    exact this sp hsp
  refine lc_gen (n := m) (b := fun _ => true) (it := fun k => .int ((k : Nat) : Int)) (f := fun k => V.str (tx [ltr71 fr sp k])) (walk_rI (fun k => ((k : Nat) : Int)) (fun k => Int.zero_add _)) (fun _ _ => trivial) (by omega) (fun k hk Ha sa R r => ?_) (fun k hk _ Ha sa R r => ?_) (fun D H7 hD s7 e7 => ?_)
  · walk_at "go"
    exact r Ha (Same.refl _)
  · have hz : (((fr : Nat) : Int) + (sp : Int) * (k : Int)) % 26 = (((fr + sp * k) % 26 : Nat) : Int) := by
      rw [Int.natCast_emod, Int.natCast_add, Int.natCast_mul]
      rfl
    have hb : sp * k ≤ 7 * 8 := Nat.mul_le_mul sp7 (by omega)
    have hb2 : 0 ≤ ((sp : Int) * (k : Int)) ∧ ((sp : Int) * (k : Int)) ≤ 200 := by
      rw [← Int.natCast_mul]
      omega
    walk_at "go"
    rw [hz]
    have h26 : (fr + sp * k) % 26 < LET.length := Nat.mod_lt _ (by decide)
    refine v_ixS (l := LET) (by decide) (show atI LET (((fr + sp * k) % 26 : Nat) : Int) = some (ltr71 fr sp k) from at_getD h26) ?_
    walk_at "go"
    exact ⟨_, rfl, r Ha (Same.refl _)⟩
  rw [filter_yes] at e7
  have e7 : H7 D = some (.lst ((((List.range m).map (ltr71 fr sp)).map fun c => [c]).map fun l => V.str (tx l))) := by
    rw [e7, List.map_map, List.map_map]
    rfl
  generalize hL : (List.range m).map (ltr71 fr sp) = L at e7 lnd lle
  have lL : L.length = m := by rw [← hL, List.length_map, List.length_range]
  clear hL
  walk_at "go"
  refine ⟨D, _, rfl, SqL.of e7, fun ws p pmW pwW hp7 => ?_⟩
  obtain ⟨ks, rfl, pk, as⟩ := sorted_ones71 pmW lnd pwW
  have lk : ks.length = m := by rw [pk.length_eq, lL]
  have klt : ∀ c ∈ ks, c ∈ LET := fun c hc => lle c (pk.subset hc)
  have s8 : Same H7 (upd H7 p (.lst ((ks.map fun c => [c]).map fun l => V.str (tx l)))) := Same.new hp7
  have e8 : (upd H7 p (.lst ((ks.map fun c => [c]).map fun l => V.str (tx l)))) p = some (.lst ((ks.map fun c => [c]).map fun l => V.str (tx l))) := upd_same
  generalize upd H7 p (.lst ((ks.map fun c => [c]).map fun l => V.str (tx l))) = H8 at s8 e8 ⊢
  walk_at "go"
  refine v_join e8 (by rw [flat_ones]; omega) ?_
  rw [flat_ones]
  have s58 := s7.trans s8
  have p8 := p5.same s58
  have k8 : Keep g.p H H8 := fun b o hb nb => s58 _ _ (k5 _ _ hb nb)
  clear e7 e8 s7 s8 s58 pmW pwW hp7 hD lnd lle lL p5 k5 pk
  have ksnd : ks.Nodup := as.imp fun {a b} z e => by omega
  walk_at "go"
  refine ⟨g, 7, n + 3, rfl, by omega, by omega, p8, by omega, fun sh H9 w0 w1 p9 k9 => ?_⟩
  walk_at "go"
  intro pa H10 hpa s10 epa
  walk_at "go"
  have npa : pa ≠ g.p := (p9.p_ne hpa).symm
  have npc : g.cl ≠ pa := p9.cl_ne hpa
  have hpa0 : H pa = none := by
    cases z : H pa with
    | none => rfl
    | some o =>
      have := k9 _ _ (k8 _ _ z npa) npa
      rw [hpa] at this
      cases this
  have p10 := p9.same s10
  have k10 : Keep g.p H H10 := fun b o hb nb => s10 _ _ (k9 _ _ (k8 _ _ hb nb) nb)
  clear p8 k8 p9 k9 s10 hpa
  have lg : (tx ks) = tx ks := rfl
  refine for_it (walk_rI (fun i => ((i : Nat) : Int)) (fun k => Int.zero_add _)) (fun j σ H' => ∃ x10 x11 x12 x13 x14 gs, σ = [some (.ref g.p), some (.int ((least : Nat) : Int)), some (.int ((most : Nat) : Int)), some (.int (m : Nat)), some (.int (fr : Nat)), some (.int (sp : Nat)), some (.str (tx LET)), some (.str (tx ks)), some (.int sh), some (.ref pa), x10, x11, x12, x13, x14, none] ∧ PenAt g H' (n + 4 + 8 * j) ∧ Keep g.p H H' ∧ H' pa = some (.lst (strsV gs)) ∧ PairsIn ks gs ∧ gs.length ≤ 8 * j) ⟨_, _, _, _, _, [], rfl, p10, k10, epa, (fun _ z => nomatch z), Nat.zero_le _⟩ (fun _ _ _ _ _ => trivial) ?_ ?_
  · rintro j v σ H11 H12 hj ⟨x10, x11, x12, x13, x14, gs, rfl, p12, k12, e12, pin, lgs⟩ ⟨rfl, rfl⟩
    rw [Int.toNat_natCast] at hj
    have hj' : j < ks.length := by omega
    walk_at "go"
    refine for_it (walk_rI (fun i => ((i : Nat) : Int)) (fun k => Int.zero_add _)) (fun i σ H' => ∃ x11 x12 x13 gs, σ = [some (.ref g.p), some (.int ((least : Nat) : Int)), some (.int ((most : Nat) : Int)), some (.int (m : Nat)), some (.int (fr : Nat)), some (.int (sp : Nat)), some (.str (tx LET)), some (.str (tx ks)), some (.int sh), some (.ref pa), some (.int (j : Nat)), x11, x12, x13, x14, none] ∧ PenAt g H' (n + 4 + 8 * j + i) ∧ Keep g.p H H' ∧ H' pa = some (.lst (strsV gs)) ∧ PairsIn ks gs ∧ gs.length ≤ 8 * j + i) ⟨_, _, _, gs, rfl, p12, k12, e12, pin, lgs⟩ (fun _ _ _ _ _ => trivial) ?_ ?_
    · rintro i v σ H13 H14 hi ⟨y11, y12, y13, gs, rfl, p14, k14, e14, pin, lgs⟩ ⟨rfl, rfl⟩
      rw [Int.toNat_natCast] at hi
      walk_at "go"
      refine e_cut (fun v H' => (∃ b, v = .bl b) ∧ H' = H14) ?_ ?_
      · walk_at "go"
        refine if_dec (fun _ => ⟨⟨_, rfl⟩, rfl⟩) (fun _ => ?_)
        walk_at "go"
        refine if_dec (fun _ => ?_) (fun _ => ?_)
        · walk_at "go"
          exact ⟨⟨_, rfl⟩, rfl⟩
        · walk_at "go"
          exact ⟨⟨_, rfl⟩, rfl⟩
      rintro v H' ⟨⟨b, rfl⟩, rfl⟩
      walk_at "go"
      refine ⟨g, 2, _, rfl, by omega, by omega, p14, by omega, fun z H15 z0 z1 p15 k15 => ?_⟩
      have e15 := k15 _ _ e14 npa
      have k15' : Keep g.p H H15 := fun b o hb nb => k15 _ _ (k14 _ _ hb nb) nb
      walk_at "go"
      intro mn H16 hmn s16 e16
      have bl7 : ∃ b2, ([V.bl false, V.bl true, V.bl b, V.bl (!b), V.bl (decide (V.int ((i : Nat) : Int) = V.int 0)), V.bl (decide (V.int (((i : Nat) : Int) + 1) = V.int ((j : Nat) : Int))), V.bl (decide (V.int z = V.int 0))] : List V)[sh.toNat]? = some (.bl b2) := by
        have : sh.toNat < 7 := by omega
        match hs : sh.toNat, this with
        | 0, _ => exact ⟨_, rfl⟩
        | 1, _ => exact ⟨_, rfl⟩
        | 2, _ => exact ⟨_, rfl⟩
        | 3, _ => exact ⟨_, rfl⟩
        | 4, _ => exact ⟨_, rfl⟩
        | 5, _ => exact ⟨_, rfl⟩
        | 6, _ => exact ⟨_, rfl⟩
      obtain ⟨b2, hb2⟩ := bl7
      walk_at "go"
      refine v_ixL e16 (at_of (j := sh.toNat) (by omega) hb2) ?_
      have e16' := s16 _ _ e15
      have p16 := p15.same s16
      have k16 : Keep g.p H H16 := fun b o hb nb => s16 _ _ (k15' _ _ hb nb)
      refine ⟨_, rfl, ?_⟩
      clear e14 e15 p14 p15 k14 k15 k15' e16 s16 hmn hb2
      cases b2 with
      | false =>
        walk_at "go"
        exact ⟨_, _, _, gs, rfl, p16.mono (by omega), k16, e16', pin, by omega⟩
      | true =>
        walk_at "go"
        refine v_ixS (by omega) (at_getD (show i < ks.length by omega)) ?_
        walk_at "go"
        refine v_ixS (by omega) (at_getD hj') ?_
        walk_at "go"
        refine v_app e16' (by unfold strsV; rw [List.length_map]; omega) fun H17 k17 e17 => ?_
        refine ⟨_, _, _, gs ++ [[ks.getD i 0, ks.getD j 0]], rfl, (p16.keep k17 npa.symm npc).mono (by omega), fun b o hb nb => k17 _ _ (k16 _ _ hb nb) (ne_of_none hb hpa0), ?_, fun q hq => ?_, by rw [List.length_append, List.length_singleton]; omega⟩
        · rw [e17]
          unfold strsV
          rw [List.map_append]
          rfl
        · rcases List.mem_append.mp hq with z | z
          · exact pin q z
          · rw [List.mem_singleton.mp z]
            exact ⟨_, _, rfl, fun e => by have := getD_inj71 ksnd (show i < ks.length by omega) hj' e; omega, getD_mem (by omega), getD_mem hj'⟩
    · rintro σ H13 ⟨y11, y12, y13, gs, rfl, p14, k14, e14, pin, lgs⟩
      rw [Int.toNat_natCast] at p14 lgs
      exact ⟨_, _, _, _, _, gs, rfl, p14.mono (by omega), k14, e14, pin, by omega⟩
  rintro σ H11 ⟨x10, x11, x12, x13, x14, gs, rfl, p11, k11, e11, pin, lgs⟩
  rw [Int.toNat_natCast] at p11 lgs
  have fin : ∀ {H' : Hp}, True → True := fun _ => trivial
  walk_at "go"
  refine e_revL71 ?_
  walk_at "go"
  refine ⟨pa, _, rfl, SqL.of e11, fun r hr0 => ?_⟩
  have sr : Same H11 (upd H11 r (.lst (strsV gs).reverse)) := Same.new hr0
  have er : (upd H11 r (.lst (strsV gs).reverse)) r = some (.lst (strsV gs.reverse)) := by rw [upd_same, ← List.map_reverse]
  generalize upd H11 r (.lst (strsV gs).reverse) = H12 at sr er ⊢
  refine ⟨r, rfl, ⟨_, SqL.of er⟩, ?_⟩
  have gsm : ∀ q ∈ gs, q.length ≤ 1000 := fun q hq => by
    obtain ⟨a, b, rfl, _⟩ := pin q hq
    show 2 ≤ 1000
    decide
  refine lc_gen (n := gs.reverse.length) (b := fun _ => true) (it := fun k => V.str (tx (gs.reverse.getD k []))) (f := fun k => V.str (tx (gs.reverse.getD k []).reverse)) (walk_strL71 (K := K)) (fun H' s' => SqL.of (s' _ _ er)) (by rw [List.length_reverse]; omega) (fun k hk Ha sa R r' => ?_) (fun k hk _ Ha sa R r' => ?_) (fun D H13 hD s13 e13 => ?_)
  · walk_at "go"
    exact r' Ha (Same.refl _)
  · have ml : (gs.reverse.getD k []).length ≤ 1000 := by
      rw [List.getD_eq_getElem?_getD, List.getElem?_eq_getElem hk]
      exact gsm _ (List.mem_reverse.mp (List.getElem_mem hk))
    walk_at "go"
    exact r' Ha (Same.refl _)
  rw [filter_yes] at e13
  have e13 : H13 D = some (.lst (strsV (gs.reverse.map List.reverse))) := by
    rw [e13]
    congr 2
    refine List.ext_getElem (by simp) fun i h1 h2 => ?_
    rw [List.length_map, List.length_range] at h1
    rw [List.getElem_map, List.getElem_range, List.getElem_map, List.getElem_map, List.getD_eq_getElem?_getD, List.getElem?_eq_getElem h1]
    rfl
  have ok : ScOk ks gs := ⟨as, klt, by omega, pin, by omega⟩
  have s113 := sr.trans s13
  walk_at "go"
  refine ⟨ks.reverse, D, _, rfl, ⟨.inl e13, by rw [List.length_map, List.length_reverse]; omega, fun q hq => ?_, fun c hc => klt c (List.mem_reverse.mp hc), (List.reverse_perm ks).symm.nodup ksnd, by rw [List.length_reverse]; omega⟩, fun y H14 hy s14 py _ => ?_⟩
  · obtain ⟨q', hq', rfl⟩ := List.mem_map.mp hq
    obtain ⟨a, b, rfl, n1, ha, hb⟩ := pin q' (List.mem_reverse.mp hq')
    exact ⟨b, a, rfl, fun z => n1 z.symm, List.mem_reverse.mpr hb, List.mem_reverse.mpr ha⟩
  rw [prs_twin, ok.kinds.2] at py
  have s114 := s113.trans s14
  walk_at "go"
  intro p hp14
  have sp0 : Same H14 (upd H14 p (.dK [])) := Same.new hp14
  have ep0 : (upd H14 p (.dK [])) p = some (.dK []) := upd_same
  generalize upd H14 p (.dK []) = H14' at sp0 ep0 ⊢
  have s114' := s114.trans sp0
  walk_at "go"
  refine ⟨pa, _, rfl, .inl (SqL.of (s114' _ _ e11)), fun l hl => ?_⟩
  have s15 : Same H14' (upd H14' l (.lst (strsV gs))) := Same.new hl
  have e15 : (upd H14' l (.lst (strsV gs))) l = some (.lst (strsV gs)) := upd_same
  generalize upd H14' l (.lst (strsV gs)) = H15 at s15 e15 ⊢
  walk_at "go"
  refine ⟨ks, l, _, rfl, ⟨.inl e15, by omega, pin, klt, ksnd, by omega⟩, fun x H16 hx s16 px ox => ?_⟩
  rw [ok.kinds.1] at px
  have s1416 := (sp0.trans s15).trans s16
  have s116 := s114.trans s1416
  walk_at "go"
  have ep16 : H16 p = some (.dK []) := s16 _ _ (s15 _ _ ep0)
  refine ⟨ep16, [(Sum.inr "kinds", .str (tx ks)), (Sum.inr "pairs", .ref pa), (Sum.inr "plan", .ref x), (Sum.inr "twin", .ref y)], rfl, (by show 4 ≤ 15; decide), ?_⟩
  have em : mergeK [] [(Sum.inr ("kinds" : Str), V.str (tx ks)), (Sum.inr ("pairs" : Str), .ref pa), (Sum.inr ("plan" : Str), .ref x), (Sum.inr ("twin" : Str), .ref y)] = [(Sum.inr ("kinds" : Str), .str (tx ks)), (Sum.inr ("pairs" : Str), .ref pa), (Sum.inr ("plan" : Str), .ref x), (Sum.inr ("twin" : Str), .ref y)] := rfl
  rw [em]
  have nH : ∀ b o, H14 b = some o → b ≠ p := fun b o hb => ne_of_none hb hp14
  have kp := Keep.put (p := p) (H := H16) (o := .dK [(Sum.inr ("kinds" : Str), .str (tx ks)), (Sum.inr ("pairs" : Str), .ref pa), (Sum.inr ("plan" : Str), .ref x), (Sum.inr ("twin" : Str), .ref y)])
  have ep := upd_same (H := H16) (a := p) (o := .dK [(Sum.inr ("kinds" : Str), .str (tx ks)), (Sum.inr ("pairs" : Str), .ref pa), (Sum.inr ("plan" : Str), .ref x), (Sum.inr ("twin" : Str), .ref y)])
  have hpx := px.off (ox p _ (s15 _ _ ep0)) (ne_of_none (s15 _ _ ep0) hx).symm kp
  generalize upd H16 p (.dK [(Sum.inr ("kinds" : Str), .str (tx ks)), (Sum.inr ("pairs" : Str), .ref pa), (Sum.inr ("plan" : Str), .ref x), (Sum.inr ("twin" : Str), .ref y)]) = H17 at kp ep hpx ⊢
  have s17 : Same H14 H17 := fun b o hb => kp _ _ (s1416 _ _ hb) (nH b o hb)
  have hpH : H p = none := by
    cases z : H p with
    | none => rfl
    | some o =>
      by_cases e : p = g.p
      · have := p11.p_ne (Same.free s114 hp14)
        exact absurd e.symm this
      · have := s114 _ _ (k11 _ _ z e)
        rw [hp14] at this
        cases this
  exact k p ks gs x y H17 hpH ⟨⟨pa, ep, s17 _ _ (s114 _ _ e11)⟩, hpx, py.same s17⟩ ok (by omega) (by omega) ((p11.same (s114.trans s17)).mono (by omega)) fun b o hb nb => s17 _ _ (s114 _ _ (k11 _ _ hb nb))
end
end
section
open PySem PySem.Spec L2
section
variable {P : Program} {w : World} {K : PySem.W.Frag} {mg : Str → Option Value} {base : Heap}
end
end
section
open PySem PySem.Spec L2
structure TxtH (K : PySem.W.Frag) (mg : Str → Option Value) : Prop extends Txt K mg where
  range : mg "range" = none
section
variable {P : Program} {w : World} {K : PySem.W.Frag} {mg : Str → Option Value} {base : Heap}
end
end
section
open PySem PySem.Spec L2
structure TxtV (K : PySem.W.Frag) (mg : Str → Option Value) : Prop extends TxtH K mg where
  tuple : mg "tuple" = none
  min : mg "min" = none
  dict : mg "dict" = none
section
variable {P : Program} {w : World} {K : PySem.W.Frag} {mg : Str → Option Value} {base : Heap}
end
end
section
open PySem PySem.Spec L2
section
variable {P : Program} {w : World} {K : PySem.W.Frag} {mg : Str → Option Value} {base : Heap}
end
end
section
open PySem PySem.Spec L2
theorem joinC_mem {cr : Nat → List Nat} {c : Nat} : ∀ {way name : List Nat}, c ∈ joinC cr name way → c ∈ name ∨ c ∈ way
  | [], name, h => .inl h
  | k :: r, name, h => by
    rcases joinC_mem (way := r) (name := stepOf (cr k) name k) h with z | z
    · rcases stepOf_mem z with e | e
      · exact .inr (e ▸ List.mem_cons_self ..)
      · exact .inl e
    · exact .inr (List.mem_cons_of_mem _ z)
theorem joinC_len (cr : Nat → List Nat) : ∀ (way name : List Nat), (joinC cr name way).length ≤ name.length + way.length
  | [], name => Nat.le_refl _
  | k :: r, name => by
    show (joinC cr (stepOf (cr k) name k) r).length ≤ _
    have := joinC_len cr r (stepOf (cr k) name k)
    have := stepOf_len (cr k) name k
    rw [List.length_cons]
    omega
section
variable {P : Program} {w : World} {K : PySem.W.Frag} {mg : Str → Option Value} {base : Heap}
end
end
section
open PySem PySem.Spec L2
section
variable {P : Program} {w : World} {K : PySem.W.Frag} {mg : Str → Option Value} {base : Heap}
end
end
section
open PySem PySem.Spec L2
end
section
open PySem PySem.Spec L2
theorem pen_ne71 {g : Pen} {H : Hp} {n : Nat} {q : Addr} {kvs : List (Key × V)} (p : PenAt g H n) (h : H q = some (.dK kvs)) (hk : kvs.head?.map (·.1) ≠ some (Sum.inr ("cells" : Str))) : q ≠ g.p := fun z => by
  obtain ⟨a, b, h1, _⟩ := p.ex
  rw [z, h1] at h
  injection h with h
  injection h with h
  refine hk ?_
  rw [← h]
  rfl
theorem key_cells (c : Nat) : (Sum.inr (tx [c]) : Key) ≠ Sum.inr ("cells" : Str) := fun e => cells_ne e
theorem SceneAt.pen {C : Addr} {H H' : Hp} {q : Addr} {ks : List Nat} {gs : List (List Nat)} {x y : Addr} {g : Pen} {n : Nat} (h : SceneAt C H q ks gs x y) (p : PenAt g H n) (k : Keep g.p H H') : SceneAt C H' q ks gs x y := by
  obtain ⟨l, e1, e2⟩ := h.ex
  exact ⟨⟨l, k _ _ e1 (pen_ne71 p e1 fun z => by cases z), k _ _ e2 (p.lst_ne e2)⟩, h.px.pen p k, h.py.pen p k⟩
/-- tables of letters -/
structure DicT (H : Hp) (d : Addr) (keys : List Nat) (r : Nat → List Nat) : Prop where
  ex : ∃ a : Nat → Addr, H d = some (.dK (keys.map fun c => ((Sum.inr (tx [c]) : Key), V.ref (a c)))) ∧ ∀ c ∈ keys, H (a c) = some (.lst (numV (r c)))
theorem DicT.same {H H' : Hp} {d : Addr} {keys : List Nat} {r : Nat → List Nat} (h : DicT H d keys r) (s : Same H H') : DicT H' d keys r := by
  obtain ⟨a, e1, e2⟩ := h.ex
  exact ⟨a, s _ _ e1, fun c hc => s _ _ (e2 c hc)⟩
theorem DicT.pen {H H' : Hp} {d : Addr} {keys : List Nat} {r : Nat → List Nat} {g : Pen} {n : Nat} (h : DicT H d keys r) (p : PenAt g H n) (k : Keep g.p H H') : DicT H' d keys r := by
  obtain ⟨a, e1, e2⟩ := h.ex
  refine ⟨a, k _ _ e1 (pen_ne71 p e1 ?_), fun c hc => k _ _ (e2 c hc) (p.lst_ne (e2 c hc))⟩
  cases keys with
  | nil => exact fun z => by cases z
  | cons c l => exact fun z => key_cells c (Option.some.inj z)
def spCross71 (C : Addr) : Sp := fun vs H Q _ => ∃ (q x y : Addr) (ks : List Nat) (gs : List (List Nat)) (a b : Nat), vs = [.ref q, .str (tx [a]), .str (tx [b])] ∧ SceneAt C H q ks gs x y ∧ Q (.bl (crB gs a b)) H
def spRoom71 (C R : Addr) : Sp := fun vs H Q _ => ∃ (q x y : Addr) (ks : List Nat) (gs : List (List Nat)) (w : List Nat), vs = [.ref q, .str (tx w)] ∧ SceneAt C H q ks gs x y ∧ (∀ c ∈ w, c ∈ ks) ∧ w.length ≤ 2000 ∧ ∀ r H', H r = none → Same H H' → RoomAt R H' r y (joinOf ks (prsOf gs) [] w) → Q (.ref r) H'
section
variable {P : Program} {w : World} {K : PySem.W.Frag} {mg : Str → Option Value} {base : Heap} {C R O CL : Addr}
abbrev stcross : Stmt := (top 56)
abbrev Ncross : List Str := ["_law_scene_here", "_law_a", "_law_b"]
theorem sccross : FnScope Ncross ["_law_scene_here", "_law_a", "_law_b"] (defScope stcross) := ⟨rfl, rfl, rfl, by decide +kernel, rfl, by decide +kernel, by decide +kernel⟩

theorem ok_cross71 (F : FnAt K mg "_law_cross" stcross) : Def P w K mg base CX0 1 "_law_cross" ["_law_scene_here", "_law_a", "_law_b"] (spCross71 C) := by
  refine F.ok sccross (fun _ _ _ _ _ _ us hl => match us, hl with | [_, _, _], _ => rfl) (fun vs H Q E h => ?_) (fun f cdv A outer s H vs Q E hr h => ?_)
  · obtain ⟨q, x, y, ks, gs, a, b, rfl, _⟩ := h
    rfl
  obtain ⟨q, x, y, ks, gs, a, b, rfl, sc, k⟩ := h
  have hu := hu_of hr
  have nd := sccross.nd
  refine ⟨_, (pss_one (ps_ret (pe_or (pe_cmpR (op_inLK (K := K) rfl) (pe_op op_addS (pv 1) (pv 2)) (pe_dget hu (pv 0) pe_str (fun _ _ => rfl)) (by rfl)) (pe_one (pe_cmpR (op_inLK (K := K) rfl) (pe_op op_addS (pv 2) (pv 1)) (pe_dget hu (pv 0) pe_str (fun _ _ => rfl)) (by rfl)))))), ?_⟩
  refine s_start [some _, some _, some _] rfl ?_
  obtain ⟨l, e1, e2⟩ := sc.ex
  walk_at "go"
  refine v_dget (sc_pairs e1) ?_
  walk_at "go"
  have tb : ∀ {u v : Nat}, ([u] ++ [v] : List Nat) = [u, v] := rfl
  rw [tb]
  by_cases c1 : [a, b] ∈ gs
  · rw [decide_eq_true c1]
    have e : crB gs a b = true := by unfold crB; rw [decide_eq_true c1]; rfl
    rw [e] at k
    walk_at "go"
    exact k
  · rw [decide_eq_false c1]
    have e : crB gs a b = decide ([b, a] ∈ gs) := by unfold crB; rw [decide_eq_false c1]; rfl
    rw [e] at k
    walk_at "go"
    refine v_dget (sc_pairs e1) ?_
    walk_at "go"
    exact k
abbrev stroom71 : Stmt := (top 62)
abbrev Nroom71 : List Str := ["_law_scene_here", "_law_way"]
theorem scroom71 : FnScope Nroom71 ["_law_scene_here", "_law_way"] (defScope stroom71) := ⟨rfl, rfl, rfl, by decide +kernel, rfl, by decide +kernel, by decide +kernel⟩

theorem ok_room71 (F : FnAt K mg "_law_room" stroom71) (C_Room : CDef P w K mg base CX0 3 "Room" R (spRoom C R)) : Def P w K mg base CX0 5 "_law_room" ["_law_scene_here", "_law_way"] (spRoom71 C R) := by
  refine F.ok scroom71 (fun _ _ _ _ _ _ us hl => match us, hl with | [_, _], _ => rfl) (fun vs H Q E h => ?_) (fun f cdv A outer s H vs Q E hr h => ?_)
  · obtain ⟨q, x, y, ks, gs, wy, rfl, _⟩ := h
    rfl
  obtain ⟨q, x, y, ks, gs, wy, rfl, sc, hw, lw, k⟩ := h
  have hu := hu_of hr
  have nd := scroom71.nd
  refine ⟨_, (pss_one (ps_ret (pe_mk C_Room hr pass0 (pa_cons (pe_dget hu (pv 0) pe_str (fun _ _ => rfl)) (pa_cons (pv 1) pa_nil))))), ?_⟩
  refine s_start [some _, some _] rfl ?_
  obtain ⟨l, e1, e2⟩ := sc.ex
  walk_at "go"
  refine v_dget (sc_twin e1) ?_
  walk_at "go"
  exact ⟨y, ks, prsOf gs, wy, rfl, sc.py, hw, lw, fun r H1 hr1 s1 z => k r H1 hr1 s1 z⟩
end
end
section
open PySem PySem.Spec L2
/-- the rows of the kinds that cross a kind -/
def crossR (gs : List (List Nat)) (keys : List Nat) (r : Nat → List Nat) (k : Nat) : List (List Nat) := (keys.filter fun c => crB gs c k).map r
theorem dp_rows71 : ∀ {K : PySem.W.Frag} {H : Hp} {E : List (List Nat × Addr)}, (∀ e ∈ E, RowTu H e.2 e.1) → DpAll K H (refV E) ((E.map (·.1)).map rowD71) := fun h => dp_tab h
theorem v_neNilR71 {K : PySem.W.Frag} {H : Hp} {Q : VK} {p q : Addr} {TD : List (List Nat)} (h1 : RefsL RowTu H p TD) (h2 : H q = some (.lst [])) (k : Q (.bl (!TD.isEmpty)) H) : rNeD K (.ref p) (.ref q) H Q := by
  obtain ⟨E, e1, e2, e3⟩ := h1.ex
  subst e1
  refine ⟨.list ((E.map (·.1)).map rowD71), .list [], .lst (SqL.of e2) (dp_rows71 e3), .lst (SqL.of h2) .nil, ?_, rfl, ?_⟩
  · generalize E.map (·.1) = T0
    have h1 := tab71_dep T0
    have h2 : (PyData.list (T0.map rowD71)).depth ≤ 64 := by simp only [PyData.depth]; omega
    have h3 : (PyData.list (T0.map rowD71)).canLay0 = true := by simp only [PyData.canLay0]; exact tab71_lay _
    simp [SeqAt.shaped, h2, h3]
  · have e : PyData.eqv (.list ((E.map (·.1)).map rowD71)) (.list []) = (E.map (·.1)).isEmpty := by
      cases E with
      | nil => rfl
      | cons e E => rfl
    rw [e]
    exact k
theorem SceneAt.lock71 {C : Addr} {H H' : Hp} {q : Addr} {ks : List Nat} {gs : List (List Nat)} {x y d : Addr} {keys : List Nat} {a : Nat → Addr} (h : SceneAt C H q ks gs x y) (hd : H d = some (.dK (keys.map fun c => ((Sum.inr (tx [c]) : Key), V.ref (a c))))) (h0 : keys ≠ []) (k : Keep d H H') : SceneAt C H' q ks gs x y := by
  obtain ⟨l, e1, e2⟩ := h.ex
  have pk : ∀ {z : Addr}, PlanAt C H z ks (prsOf gs) → PlanAt C H' z ks (prsOf gs) := fun {z} p => by
    obtain ⟨dx, t, d', a1, a2, a3⟩ := p.ex
    refine ⟨dx, t, d', k _ _ a1 (ne_of a1 hd (by intro z; cases z)), k _ _ a2 (ne_of a2 hd (by intro z; cases z)), k _ _ a3 fun z => ?_⟩
    rw [z, hd] at a3
    injection a3 with a3
    injection a3 with a3
    cases keys with
    | nil => exact h0 rfl
    | cons c r =>
      unfold crossKV at a3
      cases ks with
      | nil => cases a3
      | cons e r' =>
        injection a3 with a3 _
        injection a3 with _ a3
        cases a3
  refine ⟨⟨l, k _ _ e1 fun z => ?_, k _ _ e2 (ne_of e2 hd (by intro z; cases z))⟩, pk h.px, pk h.py⟩
  rw [z, hd] at e1
  injection e1 with e1
  injection e1 with e1
  cases keys with
  | nil => exact h0 rfl
  | cons c r =>
    injection e1 with e1 _
    injection e1 with e1 _
    injection e1 with e1
    have := congrArg (fun s : Str => s.cps.size) e1
    simp at this
    revert this
    decide
def spFit71 (C : Addr) : Sp := fun vs H Q _ => ∃ (q d x y : Addr) (ks : List Nat) (gs : List (List Nat)) (keys : List Nat) (r : Nat → List Nat) (k n one two : Nat), vs = [.ref q, .ref d, .str (tx [k]), .int ((one : Nat) : Int), .int ((two : Nat) : Int)] ∧ SceneAt C H q ks gs x y ∧ DicT H d keys r ∧ keys.Nodup ∧ keys.length ≤ 8 ∧ (∀ c ∈ keys, (r c).length = n ∧ ∀ z ∈ r c, z < n) ∧ one < n ∧ two < n ∧ n ≤ 1000 ∧
  (∀ H', Same H H' → Q .non H') ∧ ∀ p l g H', H p = none → Same H H' → H' p = some (.dK (nKV l fun z => V.int ((g z : Nat) : Int))) → PInv n (crossR gs keys r k) l g → Q (.ref p) H'
section
variable {P : Program} {w : World} {K : PySem.W.Frag} {mg : Str → Option Value} {base : Heap} {C R O CL : Addr}
abbrev stfit : Stmt := (top 63)
abbrev Nfit : List Str := ["_law_scene_here", "_law_tables", "_law_door", "_law_one", "_law_two", "_law_pairs", "_law_todo", "_law_here", "_law_there", "_law_start", "_law_goal", "_law_other"]
theorem scfit : FnScope Nfit ["_law_scene_here", "_law_tables", "_law_door", "_law_one", "_law_two"] (defScope stfit) := ⟨rfl, rfl, rfl, by decide +kernel, rfl, by decide +kernel, by decide +kernel⟩

theorem ok_fit71 (F : FnAt K mg "_law_fit" stfit) (T : TxtSc K mg C R O CL) (D_cross : Def P w K mg base CX0 1 "_law_cross" ["_law_scene_here", "_law_a", "_law_b"] (spCross71 C)) : Def P w K mg base CX0 2 "_law_fit" ["_law_scene_here", "_law_tables", "_law_door", "_law_one", "_law_two"] (spFit71 C) := by
  refine F.ok scfit (fun _ _ _ _ _ _ us hl => match us, hl with | [_, _, _, _, _], _ => rfl) (fun vs H Q E h => ?_) (fun f cdv A outer s H vs Q E hr h => ?_)
  · obtain ⟨q, d, x, y, ks, gs, keys, r, k, n, one, two, rfl, _⟩ := h
    rfl
  obtain ⟨q, d, x, y, ks, gs, keys, r, k, n, one, two, rfl, sc, dt, kn, k8, hr0, h1, h2, ln, qn, qp⟩ := h
  have hu := hu_of hr
  have nd := scfit.nd
  refine ⟨_, (pss_cons (ps_par (i := 5) (j := 6) (by rfl) nd rfl rfl (by decide) rfl rfl (pa_cons pe_dnewK (pa_cons (pe_lst (pa_cons (pe_tup (pa_cons (pv 3) (pa_cons (pv 4) pa_nil))) pa_nil)) pa_nil)) (by rfl))
      (pss_cutS (ps_while PassesOwn.never (pt_cmpR (op_neDK (K := K) rfl hr.units) (pv 6) (pe_lst pa_nil) (nomark _))
      (pss_cons (ps_asg (pe_pop0K (K := K) rfl (pv 6)) (pg_tup rfl (pgs_cons (pg_name (i := 7) nd rfl (Or.inl rfl)) (pgs_cons (pg_name (i := 8) nd rfl (Or.inl rfl)) pgs_nil))))
        (pss_cons (ps_for PassesOwn.never rfl (pi_listK (K := K) rfl (pe_lst (pa_cons (pe_tup (pa_cons (pv 7) (pa_cons (pv 8) pa_nil))) (pa_cons (pe_tup (pa_cons (pv 8) (pa_cons (pv 7) pa_nil))) pa_nil)))) (pg_tup rfl (pgs_cons (pg_name (i := 9) nd rfl (Or.inl rfl)) (pgs_cons (pg_name (i := 10) nd rfl (Or.inl rfl)) pgs_nil)))
        (pss_one (ps_if (pt_cmpR op_ne (pe_get71 hu (pv 5) (pv 9) (pv 10)) (pv 10) (nomark _))
          (pss_one (ps_ret pe_non))
          pss_nil)))
        (pss_one (ps_if (pt_cmp (pc_dnotin hu (pv 7) (pv 5)))
        (pss_cons (ps_asg (pe_tup (pa_cons (pv 8) (pa_cons (pv 7) pa_nil))) (pg_tup rfl (pgs_cons (pg_sub (pv 5) (pv 7) (set_dict71 hu)) (pgs_cons (pg_sub (pv 5) (pv 8) (set_dict71 hu)) pgs_nil))))
          (pss_one (ps_lock (ps_for PassesOwn.never rfl (pi_keys (pv 1)) (pg_name (i := 11) nd rfl (Or.inl rfl))
          (pss_one (ps_if (pt_val (pe_cd D_cross hr pass0 (pa_cons (pv 0) (pa_cons (pv 11) (pa_cons (pv 2) pa_nil)))))
            (pss_one (ps_expr (pe_appK (K := K) rfl (pv 6) (pe_tup (pa_cons (pe_ix (ix_LK (K := K) rfl) (pe_dget hu (pv 1) (pv 11) (fun _ _ => rfl)) (pv 7) (fun _ _ => rfl)) (pa_cons (pe_ix (ix_LK (K := K) rfl) (pe_dget hu (pv 1) (pv 11) (fun _ _ => rfl)) (pv 8) (fun _ _ => rfl)) pa_nil))))))
            pss_nil))))))
        pss_nil)))))
      (pss_one (ps_ret (pv 5))))), ?_⟩
  refine s_start [some _, some _, some _, some _, some _, none, none, none, none, none, none, none] rfl ?_
  obtain ⟨a, d1, d2⟩ := dt.ex
  walk_at "go"
  intro pa H1 hpa s1 e1
  walk_at "go"
  intro t0 H2 ht0 s2 e2
  walk_at "go"
  intro td H3 htd s3 e3
  refine ⟨_, _, rfl, ?_⟩
  have hpaH : H pa = none := hpa
  have htdH : H td = none := Same.free s1 (Same.free s2 htd)
  have npt : pa ≠ td := ne_of_none (s2 _ _ e1) htd
  have rn : ∀ c ∈ keys, ∀ z, z < n → (r c).getD z 0 < n := fun c hc z hz => by
    obtain ⟨l1, l2⟩ := hr0 c hc
    rw [List.getD_eq_getElem?_getD, List.getElem?_eq_getElem (show z < (r c).length by omega)]
    exact l2 _ (List.getElem_mem _)
  have rsl : (crossR gs keys r k).length ≤ 8 := by
    unfold crossR
    rw [List.length_map]
    exact Nat.le_trans (List.length_filter_le _ _) k8
  have rsn : ∀ z ∈ crossR gs keys r k, ∀ u, u < n → z.getD u 0 < n := fun z hz u hu0 => by
    obtain ⟨c, hc, rfl⟩ := List.mem_map.mp hz
    exact rn c (List.mem_filter.mp hc).1 u hu0
  have s13 : Same H H3 := (s1.trans s2).trans s3
  have ndp : ∀ {H' : Hp}, Same H H' → d ≠ pa ∧ d ≠ td := fun _ => ⟨ne_of_none d1 hpaH, ne_of_none d1 htdH⟩
  have e13 : H3 pa = some (.dK (nKV [] fun z => V.int (((id : Nat → Nat) z : Nat) : Int))) := s3 _ _ (s2 _ _ e1)
  have td3 : RefsL RowTu H3 td [[one, two]] := ⟨[([one, two], t0)], rfl, e3, fun e he => by
    rw [List.mem_singleton.mp he]
    exact s3 _ _ e2⟩
  clear s1 s2 s3 e1 e2 e3 hpa ht0 htd
  refine s_cut (fun σ H' => ∃ l g x7 x8 x9 x10 x11, σ = [some (.ref q), some (.ref d), some (.str (tx [k])), some (.int ((one : Nat) : Int)), some (.int ((two : Nat) : Int)), some (.ref pa), some (.ref td), x7, x8, x9, x10, x11] ∧ Same H H' ∧ H' pa = some (.dK (nKV l fun z => V.int ((g z : Nat) : Int))) ∧ PInv n (crossR gs keys r k) l g) ?_ ?_
  · refine s_while (fun m σ H' => ∃ l g TD x7 x8 x9 x10 x11, σ = [some (.ref q), some (.ref d), some (.str (tx [k])), some (.int ((one : Nat) : Int)), some (.int ((two : Nat) : Int)), some (.ref pa), some (.ref td), x7, x8, x9, x10, x11] ∧ Same H H' ∧ H' pa = some (.dK (nKV l fun z => V.int ((g z : Nat) : Int))) ∧ RefsL RowTu H' td TD ∧ FitI n (crossR gs keys r k) l g TD ∧ TD.length + (n - l.length) * 9 ≤ 1 + n * 9 ∧ TD.length + (n - l.length) * 9 = m) (1 + n * 9) ⟨[], id, [[one, two]], _, _, _, _, _, rfl, s13, e13, td3, .init h1 h2, Nat.le_refl _, rfl⟩ ?_
    rintro m σ H4 ⟨l, g, TD, x7, x8, x9, x10, x11, rfl, s4, e4, td4, fi, em0, em⟩
    have l1000 : l.length ≤ 1000 := Nat.le_trans fi.len ln
    walk_at "go"
    intro nl H5 hnl s5 e5
    have td5 : RefsL RowTu H5 td TD := td4.same s5 fun p a e => s5 _ _ e
    refine v_neNilR71 td5 e5 ?_
    have s45 := s4.trans s5
    have e45 := s5 _ _ e4
    clear s4 s5 e4 e5 td4 hnl
    rcases List.eq_nil_or_concat TD with rfl | ⟨TD', p, rfl⟩
    · walk_at "go"
      refine if_bool (fun z => nomatch z) (fun _ => ?_)
      walk_at "go"
      exact ⟨l, g, _, _, _, _, _, rfl, s45, e45, fi.done⟩
    rw [List.concat_eq_append] at *
    obtain ⟨h, t, rfl, hn, tn⟩ := fi.td p (List.mem_append_right _ (List.mem_singleton.mpr rfl))
    have ne : (!(TD' ++ [[h, t]]).isEmpty) = true := by cases TD' <;> rfl
    rw [ne]
    refine ⟨_, rfl, ?_⟩
    rw [if_pos rfl]
    obtain ⟨m', em'⟩ : ∃ m', m = m' + 1 := ⟨m - 1, by rw [List.length_append, List.length_singleton] at em; omega⟩
    subst em'
    refine v_turn ?_
    obtain ⟨EE, b1, b2, b3⟩ := td5.ex
    rcases List.eq_nil_or_concat EE with rfl | ⟨E', e0, rfl⟩
    · exact absurd (congrArg List.length b1) (by simp)
    rw [List.concat_eq_append] at *
    rw [List.map_append] at b1
    obtain ⟨b1a, b1b⟩ := List.append_inj' b1 rfl
    have b1c : e0.1 = [h, t] := by
      have := b1b
      rw [List.map_cons, List.map_nil] at this
      exact (List.cons.inj this).1
    have b2' : H5 td = some (.lst (refV E' ++ [.ref e0.2])) := by rw [b2]; show some (HO.lst ((E' ++ [e0]).map _)) = _; rw [List.map_append]; rfl
    have et : H5 e0.2 = some (.tup [.int ((h : Nat) : Int), .int ((t : Nat) : Int)]) := by
      have := b3 e0 (List.mem_append_right _ (List.mem_singleton.mpr rfl))
      unfold RowTu at this
      rw [b1c] at this
      exact this
    walk_at "go"
    refine v_pop0 b2' fun H6 k6 e6 => ?_
    have et6 := k6 _ _ et (ne_of et b2 (by intro z; cases z))
    have e46 := k6 _ _ e45 npt
    have td6 : RefsL RowTu H6 td TD' := ⟨E', b1a, e6, fun e he => by
      have z := b3 e (List.mem_append_left _ he)
      exact k6 _ _ z (ne_of z b2 (by intro z; cases z))⟩
    have s46 : Same H H6 := fun b o hb => k6 _ _ (s45 _ _ hb) (ne_of_none hb htdH)
    refine v_gTup2 rfl et6 ?_
    clear b1 b1a b1b b1c b2 b2' b3 et et6 e45 e6 k6 td5 s45
    walk_at "go"
    intro a1 H7 ha1 s7 ea1
    walk_at "go"
    intro a2 H8 ha2 s8 ea2
    walk_at "go"
    intro lq H9 hlq s9 elq
    refine ⟨lq, rfl, ⟨_, SqL.of elq⟩, ?_⟩
    have ea1 := s9 _ _ (s8 _ _ ea1)
    have ea2 := s9 _ _ ea2
    have s69 := (s7.trans s8).trans s9
    have s4 : Same H H9 := s46.trans s69
    have e4 := s69 _ _ e46
    have td4 : RefsL RowTu H9 td TD' := td6.same s69 fun p a e => s69 _ _ e
    clear s46 e46 td6 s69 s7 s8 s9 ha1 ha2 hlq
    have getP : ∀ {H' : Hp} (u : Nat), H' pa = some (.dK (nKV l fun z => V.int ((g z : Nat) : Int))) → DGet H' pa (.int ((u : Nat) : Int)) (if u ∈ l then some (V.int ((g u : Nat) : Int)) else none) := fun u hp => by
      by_cases c : u ∈ l
      · rw [if_pos c]; exact num_get hp c
      · rw [if_neg c]; exact num_not hp c
    refine for_it (walk_list (K := K) (a := lq) (xs := [V.ref a1, V.ref a2])) (fun i σ H' => ∃ y9 y10, σ = [some (.ref q), some (.ref d), some (.str (tx [k])), some (.int ((one : Nat) : Int)), some (.int ((two : Nat) : Int)), some (.ref pa), some (.ref td), some (.int ((h : Nat) : Int)), some (.int ((t : Nat) : Int)), y9, y10, x11] ∧ H' = H9 ∧ (0 < i → h ∈ l → g h = t) ∧ (1 < i → t ∈ l → g t = h)) ⟨_, _, rfl, rfl, fun z => absurd z (by omega), fun z => absurd z (by omega)⟩ (fun _ _ _ _ ⟨_, _, _, e, _⟩ => by rw [e]; exact SqL.of elq) ?_ ?_
    · rintro i v σ H10 H11 hi ⟨y9, y10, rfl, rfl, c1, c2⟩ ⟨rfl, hv⟩
      have hi : i < 2 := hi
      obtain ⟨u, v', aa, rfl, eaa, huv⟩ : ∃ (u v' : Nat) (aa : Addr), v = .ref aa ∧ H11 aa = some (.tup [.int ((u : Nat) : Int), .int ((v' : Nat) : Int)]) ∧ ((i = 0 ∧ u = h ∧ v' = t) ∨ (i = 1 ∧ u = t ∧ v' = h)) := by
        match i, hi, hv with
        | 0, _, hv => exact ⟨h, t, a1, (Option.some.inj hv).symm, ea1, .inl ⟨rfl, rfl, rfl⟩⟩
        | 1, _, hv => exact ⟨t, h, a2, (Option.some.inj hv).symm, ea2, .inr ⟨rfl, rfl, rfl⟩⟩
      refine v_gTup2 rfl eaa ?_
      walk_at "go"
      refine e_get71 ?_
      walk_at "go"
      refine ⟨pa, rfl, isD_num e4, ?_⟩
      walk_at "go"
      refine ⟨_, getP u e4, ?_⟩
      have done1 : (u ∈ l → g u = v') → ∃ y9 y10, ([some (.ref q), some (.ref d), some (.str (tx [k])), some (.int ((one : Nat) : Int)), some (.int ((two : Nat) : Int)), some (.ref pa), some (.ref td), some (.int ((h : Nat) : Int)), some (.int ((t : Nat) : Int)), some (.int ((u : Nat) : Int)), some (.int ((v' : Nat) : Int)), x11] : L2.St) = [some (.ref q), some (.ref d), some (.str (tx [k])), some (.int ((one : Nat) : Int)), some (.int ((two : Nat) : Int)), some (.ref pa), some (.ref td), some (.int ((h : Nat) : Int)), some (.int ((t : Nat) : Int)), y9, y10, x11] ∧ H11 = H11 ∧ (0 < i + 1 → h ∈ l → g h = t) ∧ (1 < i + 1 → t ∈ l → g t = h) := fun hh => by
        refine ⟨_, _, rfl, rfl, fun _ => ?_, fun z => ?_⟩
        · rcases huv with ⟨rfl, rfl, rfl⟩ | ⟨rfl, rfl, rfl⟩
          · exact hh
          · exact c1 (by omega)
        · rcases huv with ⟨rfl, rfl, rfl⟩ | ⟨rfl, rfl, rfl⟩
          · exact absurd z (by omega)
          · exact hh
      by_cases c : u ∈ l
      · rw [if_pos c]
        by_cases c0 : g u = v'
        · rw [c0]
          simp only [Option.getD_some]
          walk_at "go"
          refine if_ndec (fun z => absurd rfl z) (fun _ => ?_)
          walk_at "go"
          exact done1 fun _ => c0
        · simp only [Option.getD_some]
          walk_at "go"
          refine if_ndec (fun z => ?_) (fun z => ?_)
          · walk_at "go"
            exact qn H11 s4
          · injection z with z
            exact absurd (Int.ofNat.inj z) c0
      · rw [if_neg c]
        simp only [Option.getD_none]
        walk_at "go"
        refine if_ndec (fun z => absurd rfl z) (fun _ => ?_)
        walk_at "go"
        exact done1 fun z => absurd z c
    rintro σ H10 ⟨y9, y10, rfl, rfl, c1, c2⟩
    have c1 := c1 (by show 0 < 2; decide)
    have c2 := c2 (by show 1 < 2; decide)
    walk_at "go"
    refine v_dnotin (getP h e4) ?_
    by_cases c : h ∈ l
    · rw [if_pos c]
      refine ⟨_, rfl, ?_⟩
      rw [if_neg (show ¬ (!(some (V.int ((g h : Nat) : Int))).isSome) = true from fun z => nomatch z)]
      walk_at "go"
      rw [List.length_append, List.length_singleton] at em em0
      exact ⟨_, by omega, l, g, TD', _, _, _, _, _, rfl, s4, e4, td4, fi.skip c (c1 c), by omega, rfl⟩
    rw [if_neg c]
    refine ⟨_, rfl, ?_⟩
    rw [if_pos (show (!(none : Option V).isSome) = true from rfl)]
    obtain ⟨fi2, lg⟩ := fi.add rsn c c2
    walk_at "go"
    intro tt H11 htt s11 e11
    refine ⟨tt, _, rfl, SqT.of e11, rfl, _, _, rfl, ?_⟩
    refine e_setD71 ?_
    walk_at "go"
    refine v_setD71 (num_put (s11 _ _ e4) c (by omega)) ?_
    refine ⟨_, _, rfl, ?_⟩
    refine e_setD71 ?_
    walk_at "go"
    refine v_setD71 (num_put2 upd_same (by rw [List.length_append, List.length_singleton]; omega)) ?_
    refine ⟨rfl, ?_⟩
    obtain ⟨H12, hH12⟩ : ∃ H12, H12 = upd (upd H11 pa (.dK (nKV (l ++ [h]) fun c => if c = h then V.int ((t : Nat) : Int) else V.int ((g c : Nat) : Int)))) pa (.dK (nKV (addK (l ++ [h]) t) fun c => if c = t then V.int ((h : Nat) : Int) else if c = h then V.int ((t : Nat) : Int) else V.int ((g c : Nat) : Int))) := ⟨_, rfl⟩
    have kp : Keep pa H10 H12 := fun b o hb nb => by
      rw [hH12, upd_ne nb, upd_ne nb]
      exact s11 _ _ hb
    have e12 : H12 pa = some (.dK (nKV (addK (l ++ [h]) t) fun z => V.int ((g2 g h t z : Nat) : Int))) := by
      rw [hH12, upd_same]
      congr 2
      refine nKV_congr fun z _ => ?_
      unfold g2
      split
      · rfl
      · split <;> rfl
    have td12 : RefsL RowTu H12 td TD' := by
      obtain ⟨G, g1, g3, g4⟩ := td4.ex
      exact ⟨G, g1, kp _ _ g3 npt.symm, fun e he => kp _ _ (g4 e he) (ne_of (g4 e he) e4 (by intro z; cases z))⟩
    have s12 : Same H H12 := fun b o hb => kp _ _ (s4 _ _ hb) (ne_of_none hb hpaH)
    show tLock _ _ _ _
    rw [← hH12]
    clear hH12 kp s11 e11 td4 e4 ea1 ea2 elq s4 htt
    have d12 := s12 _ _ d1
    obtain ⟨nd1, nd2⟩ := ndp s12
    refine e_lock d12 trivial fun od => ?_
    have fz : ∀ b o, b ≠ d → H12 b = some o → upd H12 d (.frz od (.dK (keys.map fun c => ((Sum.inr (tx [c]) : Key), V.ref (a c))))) b = some o := fun b o nb hb => by
      rw [upd_ne nb]
      exact hb
    walk_at "go"
    refine ⟨d, od, rfl, .inl ⟨_, upd_same, ?_⟩⟩
    refine for_it (walk_let (d := d) (o := od) (ls := keys) (g := fun c => V.ref (a c))) (fun i σ H' => ∃ y11 TD, σ = [some (.ref q), some (.ref d), some (.str (tx [k])), some (.int ((one : Nat) : Int)), some (.int ((two : Nat) : Int)), some (.ref pa), some (.ref td), some (.int ((h : Nat) : Int)), some (.int ((t : Nat) : Int)), y9, y10, y11] ∧ (∀ b o, H b = some o → b ≠ d → H' b = some o) ∧ H' d = some (.frz od (.dK (keys.map fun c => ((Sum.inr (tx [c]) : Key), V.ref (a c))))) ∧ H' pa = some (.dK (nKV (addK (l ++ [h]) t) fun z => V.int ((g2 g h t z : Nat) : Int))) ∧ RefsL RowTu H' td TD ∧ TD = TD' ++ ((keys.take i).filter fun c => crB gs c k).map fun c => [(r c).getD h 0, (r c).getD t 0]) ⟨_, TD', rfl, fun b o hb nb => fz b o nb (s12 _ _ hb), upd_same, fz _ _ nd1.symm e12, ?_, by simp⟩ (fun i σ H' _ z => ?_) ?_ ?_
    · obtain ⟨G, g1, g3, g4⟩ := td12.ex
      exact ⟨G, g1, fz _ _ nd2.symm g3, fun e he => fz _ _ (ne_of (g4 e he) d12 (by intro z; cases z)) (g4 e he)⟩
    · obtain ⟨_, _, _, _, e, _⟩ := z
      exact e
    · rintro i v σ H13 H14 hi ⟨y11, TD, rfl, k14, d14, p14, td14, etd⟩ ⟨rfl, hv⟩
      obtain rfl : v = V.str (tx [keys.getD i 0]) := hv
      have hc : keys.getD i 0 ∈ keys := getD_mem hi
      have htk : keys.take (i + 1) = keys.take i ++ [keys.getD i 0] := take_getD hi
      generalize keys.getD i 0 = c' at hc htk
      have sc14 := sc.lock71 d1 (fun z => by rw [z] at hc; cases hc) (H' := H14) k14
      walk_at "go"
      refine ⟨q, x, y, ks, gs, c', k, rfl, sc14, ?_⟩
      have er := k14 _ _ (d2 c' hc) (ne_of (d2 c' hc) d1 (by intro z; cases z))
      obtain ⟨lr, lr2⟩ := hr0 c' hc
      cases hcr : crB gs c' k with
      | false =>
        walk_at "go"
        refine ⟨_, TD, rfl, k14, d14, p14, td14, ?_⟩
        rw [etd, htk, List.filter_append, List.filter_cons, hcr]
        simp
      | true =>
        have gd : DGet H14 d (.str (tx [c'])) (some (.ref (a c'))) := .inl ⟨_, Sum.inr (tx [c']), .inr ⟨_, d14⟩, rfl, (letV_some (g := fun c => V.ref (a c)) hc).symm⟩
        obtain ⟨G, g1, g3, g4⟩ := td14.ex
        walk_at "go"
        refine v_ixL er (at_of (j := h) rfl (num_at (by omega))) ?_
        walk_at "go"
        refine v_ixL er (at_of (j := t) rfl (num_at (by omega))) ?_
        walk_at "go"
        intro tp H15 htp s15 etp
        have lG : G.length = TD.length := by rw [← g1, List.length_map]
        have lTD : TD.length ≤ 20000 := by
          rw [etd, List.length_append, List.length_map]
          have h1 : ((keys.take i).filter fun c => crB gs c k).length ≤ 8 := Nat.le_trans (List.length_filter_le _ _) (by rw [List.length_take]; omega)
          have h2 : TD'.length ≤ 10000 := by
            rw [List.length_append, List.length_singleton] at em0
            omega
          omega
        walk_at "go"
        refine v_app (s15 _ _ g3) (by rw [List.length_map]; omega) fun H16 k16 e16 => ?_
        refine ⟨_, TD ++ [[(r c').getD h 0, (r c').getD t 0]], rfl, fun b o hb nb => k16 _ _ (s15 _ _ (k14 b o hb nb)) (ne_of_none hb htdH), k16 _ _ (s15 _ _ d14) nd2, k16 _ _ (s15 _ _ p14) npt, ⟨G ++ [([(r c').getD h 0, (r c').getD t 0], tp)], by rw [List.map_append, g1]; rfl, by rw [e16]; unfold refV; rw [List.map_append]; rfl, fun e he => ?_⟩, ?_⟩
        · rcases List.mem_append.mp he with z | z
          · exact k16 _ _ (s15 _ _ (g4 e z)) (ne_of (g4 e z) g3 (by intro z; cases z))
          · rw [List.mem_singleton.mp z]
            exact k16 _ _ etp (ne_of etp (s15 _ _ g3) (by intro z; cases z))
        · rw [etd, htk, List.filter_append, List.filter_cons, hcr]
          simp
    · rintro σ H13 ⟨y11, TD, rfl, k13, d13, p13, td13, etd⟩
      refine ⟨d13, ?_⟩
      have fz2 : ∀ b o, b ≠ d → H13 b = some o → upd H13 d (.dK (keys.map fun c => ((Sum.inr (tx [c]) : Key), V.ref (a c)))) b = some o := fun b o nb hb => by
        rw [upd_ne nb]
        exact hb
      have etd2 : TD = TD' ++ (crossR gs keys r k).map fun z => [z.getD h 0, z.getD t 0] := by
        rw [etd, List.take_length]
        unfold crossR
        rw [List.map_map]
        rfl
      have lf := fi2.len
      have lt0 : TD.length + (n - (addK (l ++ [h]) t).length) * 9 < TD'.length + 1 + (n - l.length) * 9 := by
        rw [etd2, List.length_append, List.length_map]
        omega
      rw [List.length_append, List.length_singleton] at em em0
      refine ⟨_, by rw [← em]; exact lt0, addK (l ++ [h]) t, g2 g h t, TD, _, _, _, _, _, rfl, fun b o hb => ?_, fz2 _ _ nd1.symm p13, ?_, by rw [etd2]; exact fi2, by omega, rfl⟩
      · by_cases e : b = d
        · subst e
          rw [upd_same, ← d1]
          exact hb
        · exact fz2 _ _ e (k13 b o hb e)
      · obtain ⟨G, g1, g3, g4⟩ := td13.ex
        exact ⟨G, g1, fz2 _ _ nd2.symm g3, fun e he => fz2 _ _ (ne_of (g4 e he) d13 (by intro z; cases z)) (g4 e he)⟩
  rintro σ H4 ⟨l, g, x7, x8, x9, x10, x11, rfl, s4, e4, pi⟩
  walk_at "go"
  exact qp pa l g H4 hpaH s4 e4 pi
end
end
section
open PySem PySem.Spec L2
theorem v_eqNilN71 {K : PySem.W.Frag} {H : Hp} {Q : VK} {p q : Addr} {l : List Nat} (h1 : H p = some (.lst (numV l))) (h2 : H q = some (.lst [])) (k : Q (.bl l.isEmpty) H) : rEqD K (.ref p) (.ref q) H Q := by
  refine ⟨.list (l.map fun n => .int ((n : Nat) : Int)), .list [], .lst (SqL.of h1) (dp_nums l), .lst (SqL.of h2) .nil, ?_, rfl, ?_⟩
  · have h1 := row71_dep l
    have h2 : (PyData.list (l.map fun n => PyData.int ((n : Nat) : Int))).depth ≤ 64 := by simp only [PyData.depth]; omega
    have h3 : (PyData.list (l.map fun n => PyData.int ((n : Nat) : Int))).canLay0 = true := by simp only [PyData.canLay0]; exact row71_lay l
    simp [SeqAt.shaped, h2, h3]
  · have e : PyData.eqv (.list (l.map fun n => PyData.int ((n : Nat) : Int))) (.list []) = l.isEmpty := by
      cases l with
      | nil => rfl
      | cons e E => rfl
    rw [e]
    exact k
theorem crB_sym {gs : List (List Nat)} (a b : Nat) : crB gs a b = crB gs b a := by
  unfold crB
  exact Bool.or_comm _ _
theorem e_din71 {ty td : TE} {σ : L2.St} {H : Hp} {Q : VK} (q : ty σ H fun y H1 => td σ H1 fun x H2 => ∃ a o, x = .ref a ∧ DGet H2 a y o ∧ Q (.bl o.isSome) H2) : tDIn ty td σ H Q := q
theorem ty_dict71 {K : PySem.W.Frag} {H : Hp} {p : Addr} {kvs : List (Key × V)} (h : H p = some (.dK kvs)) : tyV K "dict" (.ref p) H := .inr (.inr (.inl ⟨rfl, .inl ⟨kvs, h⟩⟩))
def spDoors71 (C : Addr) : Sp := fun vs H Q _ => ∃ (g : Pen) (n : Nat) (q x y : Addr) (ks : List Nat) (gs : List (List Nat)) (m : Nat), vs = [.ref g.p, .ref q, .int ((m : Nat) : Int)] ∧ PenAt g H n ∧ n < 800000 ∧ SceneAt C H q ks gs x y ∧ ScOk ks gs ∧ 0 < m ∧ m ≤ 8 ∧
  ∀ d r H', H d = none → DicT H' d ks r → RowsOk m (crB gs) ks r → PenAt g H' (n + 300) → Keep g.p H H' → Q (.ref d) H'
section
variable {P : Program} {w : World} {K : PySem.W.Frag} {mg : Str → Option Value} {base : Heap} {C R O CL : Addr}
abbrev stdoors : Stmt := (top 64)
abbrev Ndoors : List Str := ["_law_pen", "_law_scene_here", "_law_many", "_law_tables", "_law_door", "_law_row", "_law_turn", "_law_pairs", "_law_place"]
theorem scdoors : FnScope Ndoors ["_law_pen", "_law_scene_here", "_law_many"] (defScope stdoors) := ⟨rfl, rfl, rfl, by decide +kernel, rfl, by decide +kernel, by decide +kernel⟩

theorem ok_doors71 (F : FnAt K mg "_law_doors" stdoors) (T : TxtSc K mg C R O CL) (D_draw : Def P w K mg base CX0 1 "_law_draw" ["_law_pen", "_law_span"] spDraw) (D_pick : Def P w K mg base CX0 2 "_law_pick" ["_law_pen", "_law_some"] spPick2) (D_fit : Def P w K mg base CX0 2 "_law_fit" ["_law_scene_here", "_law_tables", "_law_door", "_law_one", "_law_two"] (spFit71 C)) : Def P w K mg base CX0 3 "_law_doors" ["_law_pen", "_law_scene_here", "_law_many"] (spDoors71 C) := by
  refine F.ok scdoors (fun _ _ _ _ _ _ us hl => match us, hl with | [_, _, _], _ => rfl) (fun vs H Q E h => ?_) (fun f cdv A outer s H vs Q E hr h => ?_)
  · obtain ⟨g, n, q, x, y, ks, gs, m, rfl, _⟩ := h
    rfl
  obtain ⟨g, n, q, x, y, ks, gs, m, rfl, hp, hn, sc, ok, m0, m8, k⟩ := h
  have hu := hu_of hr
  have nd := scdoors.nd
  replace D_draw := D_draw.mono (show 1 ≤ 2 by decide)
  refine ⟨_, (pss_cons (ps_set (i := 3) nd rfl (Or.inl rfl) pe_dnewK)
      (pss_cons (ps_for PassesOwn.never rfl (pi_str (pe_dget hu (pv 1) pe_str (fun _ _ => rfl))) (pg_name (i := 4) nd rfl (Or.inl rfl))
      (pss_cons (ps_set (i := 5) nd rfl (Or.inr rfl) pe_dnewK)
        (pss_cons (ps_for PassesOwn.never rfl (pi_range1 (by rfl) T.range (pa_cons (pe_cd D_pick hr pass0 (pa_cons (pv 0) (pa_cons (pe_lst (pa_cons (pv 2) (pa_cons (pe_op op_mul pe_int (pv 2)) (pa_cons pe_int (pa_cons pe_int pa_nil))))) pa_nil))) pa_nil)) (pg_name (i := 6) nd rfl (Or.inl rfl))
        (pss_cons (ps_set (i := 7) nd rfl (Or.inl rfl) (pe_cd D_fit hr pass0 (pa_cons (pv 1) (pa_cons (pv 3) (pa_cons (pv 4) (pa_cons (pe_cd D_draw hr pass0 (pa_cons (pv 0) (pa_cons (pv 2) pa_nil))) (pa_cons (pe_cd D_draw hr pass0 (pa_cons (pv 0) (pa_cons (pv 2) pa_nil))) pa_nil)))))))
          (pss_one (ps_if (PW.pt (pw_and (pt_cmpR op_notN1 (pv 7) pe_non (nomark _)) (pw_and1 (pt_cmpR (op_eqDK (K := K) rfl hr.units) (pe_lock (pe_lc (own := [("_law_place", 8)]) (g := gName 8) (by rfl) nd (pi_keys (pv 7)) (blkOk_by (own := [("_law_place", 8)]) (N := Ndoors) (sc := defScope stdoors) (by decide +kernel)) (fun _ _ _ _ _ => (pg_name (i := 8) nd rfl (Or.inl rfl))) (fun _ _ _ _ _ => (pts_one (pt_cmp (pc_din hu (pv 8) (pv 5))))) (fun _ _ _ _ _ => (pv 8)))) (pe_lst pa_nil) (nomark _)))))
          (pss_one (ps_expr (pe_updK71 (K := K) rfl (pv 5) (pv 7))))
          pss_nil))))
        (pss_one (ps_dput hu (pv 3) (pv 4) (pe_lc (own := [("_law_place", 8)]) (g := gName 8) (by rfl) nd (pi_range1 (by rfl) T.range (pa_cons (pv 2) pa_nil)) (blkOk_by (own := [("_law_place", 8)]) (N := Ndoors) (sc := defScope stdoors) (by decide +kernel)) (fun _ _ _ _ _ => (pg_name (i := 8) nd rfl (Or.inl rfl))) (fun _ _ _ _ _ => pts_nil) (fun _ _ _ _ _ => (pe_get71 hu (pv 5) (pv 8) (pv 8)))) rfl)))))
      (pss_one (ps_ret (pv 3))))), ?_⟩
  refine s_start [some _, some _, some _, none, none, none, none, none, none] rfl ?_
  have knd := ok.nd
  have kl := ok.len
  walk_at "go"
  intro d H1 hd s1 e1
  have hdH : H d = none := hd
  have ndp : d ≠ g.p := (hp.p_ne hd).symm
  have ndc : g.cl ≠ d := hp.cl_ne hd
  obtain ⟨l0, a1, a2⟩ := sc.ex
  walk_at "go"
  refine v_dget (sc_kinds (s1 _ _ a1)) ?_
  walk_at "go"
  refine for_it (walk_tx ks) (fun i σ H' => ∃ r x4 x5 x6 x7, σ = [some (.ref g.p), some (.ref q), some (.int ((m : Nat) : Int)), some (.ref d), x4, x5, x6, x7, none] ∧ PenAt g H' (n + i * 33) ∧ Keep g.p H H' ∧ DicT H' d (ks.take i) r ∧ RowsOk m (crB gs) (ks.take i) r) ⟨fun _ => [], _, _, _, _, rfl, (hp.same s1).mono (by omega), fun b o hb _ => s1 _ _ hb, ⟨fun _ => 0, e1, fun _ z => nomatch z⟩, ⟨fun _ z => (nomatch z), fun _ z => (nomatch z), fun _ z => (nomatch z)⟩⟩ (fun _ _ _ _ _ => trivial) ?_ ?_
  · rintro i v σ H2 H3 hi ⟨r, x4, x5, x6, x7, rfl, p3, k3, dt3, ro⟩ ⟨rfl, hv⟩
    obtain rfl : v = V.str (tx [ks.getD i 0]) := hv
    have hc : ks.getD i 0 ∈ ks := getD_mem hi
    have htk : ks.take (i + 1) = ks.take i ++ [ks.getD i 0] := take_getD hi
    have hnk : ¬ ks.getD i 0 ∈ ks.take i := take_notin knd hi
    have tnd : (ks.take i).Nodup := (List.take_sublist i ks).nodup knd
    have tl : (ks.take i).length ≤ 8 := by rw [List.length_take]; omega
    generalize ks.getD i 0 = c at hc htk hnk
    generalize ks.take i = keys at dt3 ro htk hnk tnd tl
    walk_at "go"
    intro rw' H4 hrw s4 erw
    walk_at "go"
    intro ml H5 hml s5 eml
    have p5 := (p3.same s4).same s5
    have s35 := s4.trans s5
    refine ⟨g, _, .ref ml, _, rfl, .inl ⟨ml, rfl, eml⟩, by simp, by simp, p5, by omega, fun u H6 hu6 p6 k6 => ?_⟩
    obtain ⟨tn, htn, rfl⟩ : ∃ tn : Nat, tn ≤ 16 ∧ u = V.int (tn : Nat) := by
      simp only [List.mem_cons, List.not_mem_nil, or_false] at hu6
      rcases hu6 with rfl | rfl | rfl | rfl
      · exact ⟨m, by omega, rfl⟩
      · exact ⟨2 * m, by omega, by rw [Int.natCast_mul]; rfl⟩
      · exact ⟨1, by omega, rfl⟩
      · exact ⟨0, by omega, rfl⟩
    have nrp : rw' ≠ g.p := (p3.p_ne hrw).symm
    have nrc : g.cl ≠ rw' := p3.cl_ne hrw
    have hrwH : H rw' = none := by
      cases z : H rw' with
      | none => rfl
      | some o =>
        have := k3 _ _ z nrp
        rw [hrw] at this
        cases this
    have k6' : Keep g.p H H6 := fun b o hb nb => k6 _ _ (s35 _ _ (k3 _ _ hb nb)) nb
    have dt6 := (dt3.same s35).pen p5 k6
    have e6 := k6 _ _ (s5 _ _ erw) nrp
    have hd3 := dt3.ex
    have ndr : d ≠ rw' := by
      obtain ⟨a, z1, _⟩ := dt3.ex
      exact ne_of_none z1 hrw
    clear hd3 p3 k3 dt3 hrw s4 erw hml s5 eml p5 s35 hu6 k6
    walk_at "go"
    rw [Int.toNat_natCast]
    refine for_it (walk_rI (fun i => ((i : Nat) : Int)) (fun k => Int.zero_add _)) (fun j σ H' => ∃ x6 x7 l gg, σ = [some (.ref g.p), some (.ref q), some (.int ((m : Nat) : Int)), some (.ref d), some (.str (tx [c])), some (.ref rw'), x6, x7, none] ∧ PenAt g H' (n + i * 33 + 1 + 2 * j) ∧ Keep g.p H H' ∧ DicT H' d keys r ∧ H' rw' = some (.dK (nKV l fun z => V.int ((gg z : Nat) : Int))) ∧ PInv m (crossR gs keys r c) l gg) ⟨_, _, [], id, rfl, p6, k6', dt6, e6, .nil⟩ (fun _ _ _ _ _ => trivial) ?_ ?_
    · rintro j v σ H7 H8 hj ⟨x6, x7, l, gg, rfl, p8, k8, dt8, e8, pi⟩ ⟨rfl, rfl⟩
      walk_at "go"
      refine ⟨g, _, _, rfl, by omega, by omega, p8, by omega, fun z H9 z0 z1 p9 k9 => ?_⟩
      obtain ⟨one, rfl⟩ : ∃ one : Nat, z = (one : Int) := ⟨z.toNat, by omega⟩
      walk_at "go"
      refine ⟨g, _, _, rfl, by omega, by omega, p9, by omega, fun z H10 y0 y1 p10 k10 => ?_⟩
      obtain ⟨two, rfl⟩ : ∃ two : Nat, z = (two : Int) := ⟨z.toNat, by omega⟩
      have k10' : Keep g.p H H10 := fun b o hb nb => k10 _ _ (k9 _ _ (k8 _ _ hb nb) nb) nb
      have dt10 := (dt8.pen p8 k9).pen p9 k10
      have e10 := k10 _ _ (k9 _ _ e8 nrp) nrp
      have sc10 := sc.pen hp k10'
      clear k9 k10 p9 p8 k8 dt8 e8
      walk_at "go"
      refine ⟨q, d, x, y, ks, gs, keys, r, c, m, one, two, rfl, sc10, dt10, tnd, tl, ro.len, by omega, by omega, by omega, fun H11 s11 => ?_, fun pp l' g' H11 hpp s11 epp pi' => ?_⟩
      · walk_at "go"
        refine v_notN0 ?_
        refine ⟨_, rfl, ?_⟩
        rw [decide_eq_true (show V.non = V.non from rfl)]
        rw [if_neg (by decide)]
        walk_at "go"
        exact ⟨_, _, l, gg, rfl, (p10.same s11).mono (by omega), fun b o hb nb => s11 _ _ (k10' _ _ hb nb), dt10.same s11, s11 _ _ e10, pi⟩
      · walk_at "go"
        refine v_notN0 ?_
        refine ⟨_, rfl, ?_⟩
        rw [decide_eq_false (show ¬ V.ref pp = V.non from fun z => nomatch z)]
        rw [if_pos (by decide)]
        have nrpp : rw' ≠ pp := ne_of_none e10 hpp
        have e11 := s11 _ _ e10
        walk_at "go"
        refine v_lockLcN (b := fun z => decide (z ∈ l)) (f := fun z => .int ((z : Nat) : Int)) epp (Nat.le_trans (FdOk.mk pi'.nd pi'.lt).len (by omega)) (fun H12 R r' => ?_) (fun z hz H12 lk R r' => ?_) (fun z hz _ H12 lk R r' => ?_) (fun D H12 hD s12 e12 => ?_)
        · walk_at "go"
          exact r'
        · walk_at "go"
          refine e_din71 ?_
          walk_at "go"
          have e12 := lk.oth _ _ e11 nrpp
          by_cases cl : z ∈ l
          · refine ⟨rw', _, rfl, num_get e12 cl, _, rfl, ?_⟩
            rw [decide_eq_true cl] at r'
            exact r' H12 (Same.refl _)
          · refine ⟨rw', _, rfl, num_not e12 cl, _, rfl, ?_⟩
            rw [decide_eq_false cl] at r'
            exact r' H12 (Same.refl _)
        · walk_at "go"
          exact r' H12 (Same.refl _)
        walk_at "go"
        intro nl H13 hnl s13 e13
        have s1113 := s12.trans s13
        refine v_eqNilN71 (l := l'.filter fun z => decide (z ∈ l)) (s13 _ _ e12) e13 ?_
        refine ⟨_, rfl, ?_⟩
        have p13 := p10.same (s11.trans s1113)
        have k13 : Keep g.p H H13 := fun b o hb nb => s1113 _ _ (s11 _ _ (k10' _ _ hb nb))
        have dt13 := dt10.same (s11.trans s1113)
        have e13r := s1113 _ _ e11
        have epp13 := s1113 _ _ epp
        clear e12 e13 s12 s13 hnl hD dt10 e10 e11 epp p10 k10' s1113 sc10
        refine if_bool (fun hem => ?_) (fun _ => ?_)
        · have dj : ∀ z ∈ l', ¬ z ∈ l := fun z hz hl => by
            have := List.isEmpty_iff.mp hem
            have m' : z ∈ l'.filter fun z => decide (z ∈ l) := List.mem_filter.mpr ⟨hz, decide_eq_true hl⟩
            rw [this] at m'
            cases m'
          have len1 := (FdOk.mk pi.nd pi.lt).len
          have len2 := (FdOk.mk pi'.nd pi'.lt).len
          walk_at "go"
          refine ⟨ty_dict71 e13r, ?_⟩
          walk_at "go"
          refine ⟨rw', pp, _, _, rfl, rfl, nrpp, e13r, epp13, by unfold nKV; rw [List.length_map, List.length_map]; omega, ?_⟩
          rw [merge_num pi'.nd dj]
          have kk : Keep rw' H13 (upd H13 rw' (.dK (nKV (l ++ l') fun x => if x ∈ l' then V.int ((g' x : Nat) : Int) else V.int ((gg x : Nat) : Int)))) := Keep.put
          refine ⟨_, _, l ++ l', fun x => if x ∈ l' then g' x else gg x, rfl, (p13.keep kk nrp.symm nrc).mono (by omega), fun b o hb nb => kk _ _ (k13 _ _ hb nb) (ne_of_none hb hrwH), ?_, ?_, pi.cat pi' dj⟩
          · obtain ⟨a, z1, z2⟩ := dt13.ex
            exact ⟨a, kk _ _ z1 ndr, fun c' hc' => kk _ _ (z2 c' hc') (ne_of (z2 c' hc') e13r (by intro z; cases z))⟩
          · rw [upd_same]
            congr 2
            refine nKV_congr fun z _ => ?_
            show (if z ∈ l' then V.int ((g' z : Nat) : Int) else V.int ((gg z : Nat) : Int)) = V.int (((if z ∈ l' then g' z else gg z) : Nat) : Int)
            split <;> rfl
        · walk_at "go"
          exact ⟨_, _, l, gg, rfl, p13.mono (by omega), k13, dt13, e13r, pi⟩
    · rintro σ H7 ⟨x6, x7, l, gg, rfl, p7, k7, dt7, e7, pi⟩
      walk_at "go"
      rw [Int.toNat_natCast]
      refine lc_gen (n := m) (b := fun _ => true) (it := fun k => .int ((k : Nat) : Int)) (f := fun k => .int (((if k ∈ l then gg k else k) : Nat) : Int)) (walk_rI (fun k => ((k : Nat) : Int)) (fun k => Int.zero_add _)) (fun _ _ => trivial) (by omega) (fun k' hk' Ha sa R r' => ?_) (fun k' hk' _ Ha sa R r' => ?_) (fun D H8 hD s8 e8 => ?_)
      · walk_at "go"
        exact r' Ha (Same.refl _)
      · walk_at "go"
        refine e_get71 ?_
        walk_at "go"
        refine ⟨rw', rfl, isD_num (sa _ _ e7), ?_⟩
        walk_at "go"
        by_cases cl : k' ∈ l
        · refine ⟨_, num_get (sa _ _ e7) cl, ?_⟩
          simp only [Option.getD_some]
          rw [if_pos cl] at r'
          exact r' Ha (Same.refl _)
        · refine ⟨_, num_not (sa _ _ e7) cl, ?_⟩
          simp only [Option.getD_none]
          rw [if_neg cl] at r'
          exact r' Ha (Same.refl _)
      rw [filter_yes] at e8
      have e8 : H8 D = some (.lst (numV (rowP m l gg))) := by
        rw [e8]
        unfold numV rowP
        rw [List.map_map]
        rfl
      have dt8 := dt7.same s8
      obtain ⟨a, z1, z2⟩ := dt8.ex
      walk_at "go"
      refine v_put (let_new71 z1 hnk (by omega)) fun H9 k9 e9 => ?_
      have nDd : D ≠ d := ne_of e8 z1 (by intro z; cases z)
      refine ⟨fun c' => if c' = c then rowP m l gg else r c', _, _, _, _, rfl, ((p7.same s8).keep k9 ndp.symm ndc).mono (by omega), fun b o hb nb => k9 _ _ (s8 _ _ (k7 _ _ hb nb)) (ne_of_none hb hdH), ?_, ?_⟩
      · rw [htk]
        refine ⟨fun c' => if c' = c then D else a c', ?_, fun c' hc' => ?_⟩
        · rw [e9]
          congr 2
          refine List.map_congr_left fun c' _ => ?_
          by_cases e : c' = c
          · simp only [if_pos e]
          · simp only [if_neg e]
        · by_cases e : c' = c
          · simp only [if_pos e]
            exact k9 _ _ e8 nDd
          · simp only [if_neg e]
            have m' : c' ∈ keys := (List.mem_append.mp hc').resolve_right fun z => e (List.mem_singleton.mp z)
            exact k9 _ _ (z2 c' m') (ne_of (z2 c' m') z1 (by intro z; cases z))
      · rw [htk]
        exact ro.snoc crB_sym hnk pi
  · rintro σ H2 ⟨r, x4, x5, x6, x7, rfl, p3, k3, dt3, ro⟩
    rw [List.take_length] at dt3 ro
    walk_at "go"
    exact k d r H2 hdH dt3 ro (p3.mono (by omega)) k3
end
end
section
open PySem PySem.Spec L2
theorem inV_num71 {c : Nat} : ∀ {l : List Nat}, inV (.int ((c : Nat) : Int)) (numV l) = decide (c ∈ l)
  | [] => by simp [inV, numV]
  | a :: r => by
    have ih := inV_num71 (c := c) (l := r)
    unfold inV at ih ⊢
    show ((V.int ((a : Nat) : Int) :: numV r).any _) = _
    rw [List.any_cons, ih]
    by_cases e : a = c
    · subst e
      simp [eqV]
    · have e2 : ¬ ((a : Nat) : Int) = ((c : Nat) : Int) := fun z => e (Int.ofNat.inj z)
      have e3 : ¬ c = a := fun z => e z.symm
      simp [eqV, e2, e3]
theorem flat_num71 (l : List Nat) : (numV l).all flatV = true := by
  unfold numV
  rw [List.all_map]
  exact List.all_eq_true.mpr fun _ _ => rfl
theorem v_notInN71 {K : PySem.W.Frag} {H : Hp} {Q : VK} {p : Addr} {l : List Nat} {c : Nat} (h : H p = some (.lst (numV l))) (q : Q (.bl (!decide (c ∈ l))) H) : rIn K true (.int ((c : Nat) : Int)) (.ref p) H Q :=
  ⟨p, _, rfl, .inl (SqL.of h), rfl, flat_num71 l, by rw [inV_num71]; exact q⟩
def spNumL71 (C : Addr) : Sp := fun vs H Q _ => ∃ (q d x y : Addr) (ks : List Nat) (gs : List (List Nat)) (keys : List Nat) (r : Nat → List Nat) (n first : Nat), vs = [.ref q, .ref d, .int ((first : Nat) : Int)] ∧ SceneAt C H q ks gs x y ∧ DicT H d keys r ∧ (∀ c ∈ ks, c ∈ keys) ∧ OkT n (ks.map r) ∧ ks.length ≤ 8 ∧ first < n ∧ n ≤ 1000 ∧
  ∀ t f u H', H t = none → H f = none → Same H H' → H' t = some (.tup [.ref f, .ref u]) → H' f = some (.lst (numV (bfs (ks.map r) n first))) → TabT H' u (numT (ks.map r) (bfs (ks.map r) n first)) → Q (.ref t) H'
section
variable {P : Program} {w : World} {K : PySem.W.Frag} {mg : Str → Option Value} {base : Heap} {C R O CL : Addr}
abbrev stnumbered71 : Stmt := (top 65)
abbrev Nnumbered71 : List Str := ["_law_scene_here", "_law_tables", "_law_first", "_law_found", "_law_at", "_law_door", "_law_rows", "_law_place"]
theorem scnumbered71 : FnScope Nnumbered71 ["_law_scene_here", "_law_tables", "_law_first"] (defScope stnumbered71) := ⟨rfl, rfl, rfl, by decide +kernel, rfl, by decide +kernel, by decide +kernel⟩

theorem ok_numbered71 (F : FnAt K mg "_law_numbered" stnumbered71) (T : TxtSc K mg C R O CL) : Def P w K mg base CX0 1 "_law_numbered" ["_law_scene_here", "_law_tables", "_law_first"] (spNumL71 C) := by
  refine F.ok scnumbered71 (fun _ _ _ _ _ _ us hl => match us, hl with | [_, _, _], _ => rfl) (fun vs H Q E h => ?_) (fun f cdv A outer s H vs Q E hr h => ?_)
  · obtain ⟨q, d, x, y, ks, gs, keys, r, n, first, rfl, _⟩ := h
    rfl
  obtain ⟨q, d, x, y, ks, gs, keys, r, n, first, rfl, sc, dt, hk, okT, k8, lf, ln, k⟩ := h
  have hu := hu_of hr
  have nd := scnumbered71.nd
  refine ⟨_, (pss_cons (ps_asg (pe_tup (pa_cons (pe_lst (pa_cons (pv 2) pa_nil)) (pa_cons pe_int pa_nil))) (pg_tup rfl (pgs_cons (pg_name (i := 3) nd rfl (Or.inr rfl)) (pgs_cons (pg_name (i := 4) nd rfl (Or.inl rfl)) pgs_nil))))
      (pss_cutS (ps_while PassesOwn.never (pt_cmpR op_lt (pv 4) (pe_callB (c_lenK (K := K) rfl) (by rfl) T.len PySem.boot_len (pa_cons (pv 3) pa_nil)) (nomark _))
      (pss_cons (ps_for PassesOwn.never rfl (pi_str (pe_dget hu (pv 0) pe_str (fun _ _ => rfl))) (pg_name (i := 5) nd rfl (Or.inr rfl))
        (pss_one (ps_if (pt_cmpR (op_notInLK (K := K) rfl) (pe_ix (ix_LK (K := K) rfl) (pe_dget hu (pv 1) (pv 5) (fun _ _ => rfl)) (pe_ix (ix_LK (K := K) rfl) (pv 3) (pv 4) (fun _ _ => rfl)) (fun _ _ => rfl)) (pv 3) (by rfl))
          (pss_one (ps_expr (pe_appK (K := K) rfl (pv 3) (pe_ix (ix_LK (K := K) rfl) (pe_dget hu (pv 1) (pv 5) (fun _ _ => rfl)) (pe_ix (ix_LK (K := K) rfl) (pv 3) (pv 4) (fun _ _ => rfl)) (fun _ _ => rfl)))))
          pss_nil)))
        (pss_one (ps_aug (i := 4) nd rfl (Or.inl rfl) pe_int ip_add))))
      (pss_cons (ps_set (i := 6) nd rfl (Or.inl rfl) (pe_lst pa_nil))
      (pss_cons (ps_for PassesOwn.never rfl (pi_str (pe_dget hu (pv 0) pe_str (fun _ _ => rfl))) (pg_name (i := 5) nd rfl (Or.inr rfl))
      (pss_one (ps_expr (pe_appK (K := K) rfl (pv 6) (pe_callTy (c_tupleK (K := K) rfl) (by rfl) T.tuple (by decide +kernel) (pa_cons (pe_lc (own := [("_law_place", 7)]) (g := gName 7) (by rfl) nd (pi_listK (K := K) rfl (pv 3)) (blkOk_by (own := [("_law_place", 7)]) (N := Nnumbered71) (sc := defScope stnumbered71) (by decide +kernel)) (fun _ _ _ _ _ => (pg_name (i := 7) nd rfl (Or.inl rfl))) (fun _ _ _ _ _ => pts_nil) (fun _ _ _ _ _ => (pe_indexK71 (K := K) rfl (pv 3) (pe_ix (ix_LK (K := K) rfl) (pe_dget hu (pv 1) (pv 5) (fun _ _ => rfl)) (pv 7) (fun _ _ => rfl))))) pa_nil))))))
      (pss_one (ps_ret (pe_tup (pa_cons (pv 3) (pa_cons (pe_callTy (c_tupleK (K := K) rfl) (by rfl) T.tuple (by decide +kernel) (pa_cons (pv 6) pa_nil)) pa_nil))))))))), ?_⟩
  refine s_start [some _, some _, some _, none, none, none, none, none] rfl ?_
  obtain ⟨l0, a1, a2⟩ := sc.ex
  obtain ⟨a, d1, d2⟩ := dt.ex
  have rT : ∀ c ∈ ks, r c ∈ ks.map r := fun c hc => List.mem_map.mpr ⟨c, hc, rfl⟩
  walk_at "go"
  intro fo H1 hfo s1 efo
  walk_at "go"
  intro tp H2 htp s2 etp
  refine v_gTup2 rfl etp ?_
  have s12 := s1.trans s2
  have efo := s2 _ _ efo
  clear etp s1 s2 htp
  walk_at "go"
  refine s_cut (fun σ H' => ∃ x4 x5 x6, σ = [some (.ref q), some (.ref d), some (.int ((first : Nat) : Int)), some (.ref fo), x4, x5, x6, none] ∧ Same H H' ∧ H' fo = some (.lst (numV (bfs (ks.map r) n first)))) ?_ ?_
  · refine s_while (fun m σ H' => ∃ i fd x5 x6, m + i = n + 1 ∧ σ = [some (.ref q), some (.ref d), some (.int ((first : Nat) : Int)), some (.ref fo), some (.int ((i : Nat) : Int)), x5, x6, none] ∧ FdOk n fd ∧ i ≤ fd.length ∧ fp (ks.map r) m i fd = bfs (ks.map r) n first ∧ H' fo = some (.lst (numV fd)) ∧ Same H H') (n + 1) ⟨0, [first], _, _, rfl, rfl, .one lf, Nat.zero_le _, rfl, efo, s12⟩ ?_
    rintro m σ H3 ⟨i, fd, x5, x6, hm, rfl, fok, li, efp, e3, s3⟩
    have lfd := fok.len
    walk_at "go"
    have lnm : (numV fd).length = fd.length := List.length_map _
    refine if_dec (fun c => ?_) (fun c => ?_)
    · have ci : i < fd.length := by omega
      obtain ⟨m', rfl⟩ : ∃ m', m = m' + 1 := ⟨m - 1, by omega⟩
      have hx : fd.getD i 0 < n := fok.lt _ (getD_mem ci)
      have efp2 : fp (ks.map r) m' (i + 1) (addT (ks.map r) (fd.getD i 0) fd) = bfs (ks.map r) n first := by
        rw [← efp]
        show _ = if i < fd.length then _ else _
        rw [if_pos ci]
      refine v_turn ?_
      generalize hxd : fd.getD i 0 = z at hx efp2
      walk_at "go"
      refine v_dget (sc_kinds (s3 _ _ a1)) ?_
      walk_at "go"
      refine for_it (walk_tx ks) (fun j σ H' => ∃ x5, σ = [some (.ref q), some (.ref d), some (.int ((first : Nat) : Int)), some (.ref fo), some (.int ((i : Nat) : Int)), x5, x6, none] ∧ FdOk n (addT ((ks.take j).map r) z fd) ∧ H' fo = some (.lst (numV (addT ((ks.take j).map r) z fd))) ∧ Same H H') ⟨_, rfl, fok, e3, s3⟩ (fun _ _ _ _ _ => trivial) ?_ ?_
      · rintro j v σ H4 H5 hj ⟨x5, rfl, fok4, e4, s4⟩ ⟨rfl, hv⟩
        obtain rfl : v = V.str (tx [ks.getD j 0]) := hv
        have hc : ks.getD j 0 ∈ ks := getD_mem hj
        have htk : ks.take (j + 1) = ks.take j ++ [ks.getD j 0] := take_getD hj
        generalize ks.getD j 0 = c' at hc htk
        have nx : addT ((ks.take (j + 1)).map r) z fd = if (r c').getD z 0 ∈ addT ((ks.take j).map r) z fd then addT ((ks.take j).map r) z fd else addT ((ks.take j).map r) z fd ++ [(r c').getD z 0] := by rw [htk, List.map_append, List.map_cons, List.map_nil, addT_snoc]
        obtain ⟨qq, hqq⟩ := addT_pre ((ks.take j).map r) z fd
        have gi : (addT ((ks.take j).map r) z fd).getD i 0 = z := by
          rw [hqq, List.getD_eq_getElem?_getD, List.getElem?_append_left ci, ← List.getD_eq_getElem?_getD, hxd]
        have li2 : i < (addT ((ks.take j).map r) z fd).length := by rw [hqq, List.length_append]; omega
        have lfd4 := fok4.len
        have er := s4 _ _ (d2 c' (hk c' hc))
        have gd : DGet H5 d (.str (tx [c'])) (some (.ref (a c'))) := dget_let (g := fun c => V.ref (a c)) (s4 _ _ d1) (hk c' hc)
        have lr := (okT _ (rT c' hc)).1
        generalize addT ((ks.take j).map r) z fd = fd4 at fok4 e4 nx gi li2 lfd4
        have gz : (numV fd4)[i]? = some (.int ((z : Nat) : Int)) := by rw [num_at li2, gi]
        have gp : (numV (r c'))[z]? = some (.int (((r c').getD z 0 : Nat) : Int)) := num_at (by omega)
        have hp : (r c').getD z 0 < n := okT.get (rT c' hc) hx
        generalize (r c').getD z 0 = pz at nx gp hp
        walk_at "go"
        refine v_ixL e4 (at_of (j := i) rfl gz) ?_
        refine v_ixL er (at_of (j := z) rfl gp) ?_
        walk_at "go"
        refine v_notInN71 e4 ?_
        by_cases c4 : pz ∈ fd4
        · rw [decide_eq_true c4]
          rw [if_pos c4] at nx
          refine ⟨_, rfl, ?_⟩
          rw [if_neg (by decide)]
          walk_at "go"
          exact ⟨_, rfl, by rw [nx]; exact fok4, by rw [nx]; exact e4, s4⟩
        · rw [decide_eq_false c4]
          rw [if_neg c4] at nx
          refine ⟨_, rfl, ?_⟩
          rw [if_pos (by decide)]
          walk_at "go"
          refine v_ixL e4 (at_of (j := i) rfl gz) ?_
          refine v_ixL er (at_of (j := z) rfl gp) ?_
          walk_at "go"
          refine v_app e4 (by unfold numV; rw [List.length_map]; omega) fun H7 k7 e7 => ?_
          refine ⟨_, rfl, by rw [nx]; exact fok4.snoc hp c4, ?_, fun b o hb => k7 _ _ (s4 _ _ hb) (ne_of_none hb hfo)⟩
          rw [nx, e7]
          unfold numV
          rw [List.map_append]
          rfl
      · rintro σ H4 ⟨x5, rfl, fok4, e4, s4⟩
        rw [List.take_length] at fok4 e4
        refine ⟨_, rfl, _, _, rfl, rfl, ?_⟩
        obtain ⟨qq, hqq⟩ := addT_pre (ks.map r) z fd
        exact ⟨m', Nat.lt_succ_self _, i + 1, addT (ks.map r) z fd, _, _, by omega, rfl, fok4, by rw [hqq, List.length_append]; omega, efp2, e4, s4⟩
    · walk_at "go"
      refine ⟨_, _, _, rfl, s3, ?_⟩
      have : i = fd.length := by omega
      have e : fp (ks.map r) m i fd = fd := by
        cases m with
        | zero => rfl
        | succ m =>
          show (if i < fd.length then _ else fd) = fd
          rw [if_neg (by omega)]
      rw [← efp, e]
      exact e3
  rintro σ H3 ⟨x4, x5, x6, rfl, s3, e3⟩
  walk_at "go"
  intro ro H4 hro s4 ero
  have s34 := s3.trans s4
  have e4 := s4 _ _ e3
  have hroH : H ro = none := Same.free s3 hro
  have nfr : fo ≠ ro := ne_of_none e3 hro
  have fok := bfs_ok okT lf
  have fcl := bfs_closed okT lf
  have lfd := fok.len
  clear e3 s3 s4 hro
  generalize bfs (ks.map r) n first = fd at *
  walk_at "go"
  refine v_dget (sc_kinds (s34 _ _ a1)) ?_
  walk_at "go"
  refine for_it (walk_tx ks) (fun j σ H' => ∃ x5, σ = [some (.ref q), some (.ref d), some (.int ((first : Nat) : Int)), some (.ref fo), x4, x5, some (.ref ro), none] ∧ H' fo = some (.lst (numV fd)) ∧ RefsL RowTu H' ro (((ks.take j).map r).map (rowN fd)) ∧ Same H H') ⟨_, rfl, e4, ⟨[], rfl, ero, fun _ z => nomatch z⟩, s34⟩ (fun _ _ _ _ _ => trivial) ?_ ?_
  · rintro j v σ H5 H6 hj ⟨x5, rfl, e6, rl, s6⟩ ⟨rfl, hv⟩
    obtain rfl : v = V.str (tx [ks.getD j 0]) := hv
    have hc : ks.getD j 0 ∈ ks := getD_mem hj
    have htk : ks.take (j + 1) = ks.take j ++ [ks.getD j 0] := take_getD hj
    have ltk : (ks.take j).length ≤ 8 := by rw [List.length_take]; omega
    generalize ks.getD j 0 = c' at hc htk
    generalize ks.take j = kt at rl htk ltk
    have er := s6 _ _ (d2 c' (hk c' hc))
    have gd : DGet H6 d (.str (tx [c'])) (some (.ref (a c'))) := dget_let (g := fun c => V.ref (a c)) (s6 _ _ d1) (hk c' hc)
    have lr := (okT _ (rT c' hc)).1
    obtain ⟨G, g1, g2, g3⟩ := rl.ex
    have lG : G.length = kt.length := by
      have := congrArg List.length g1
      rw [List.length_map, List.length_map, List.length_map] at this
      exact this
    walk_at "go"
    refine lc_gen (n := fd.length) (b := fun _ => true) (it := fun j => .int ((fd.getD j 0 : Nat) : Int)) (f := fun j => .int ((ixOf fd ((r c').getD (fd.getD j 0) 0) : Nat) : Int)) walk_numL (fun H' s' => SqL.of (s' _ _ e6)) (by omega) (fun j hj H7 s7 R' rr => ?_) (fun j hj _ H7 s7 R' rr => ?_) (fun D H7 hD s7 e7 => ?_)
    · walk_at "go"
      exact rr _ (Same.refl _)
    · have mj := getD_mem hj
      walk_at "go"
      refine v_dget (dget_let (g := fun c => V.ref (a c)) (s7 _ _ (s6 _ _ d1)) (hk c' hc)) ?_
      walk_at "go"
      refine v_ixL (s7 _ _ er) (at_of (j := fd.getD j 0) rfl (num_at (by rw [lr]; exact fok.lt _ mj))) ?_
      walk_at "go"
      refine v_indexL71 (s7 _ _ e6) (fcl _ mj _ (rT c' hc)) ?_
      exact rr _ (Same.refl _)
    rw [range_num fd fun p => ixOf fd ((r c').getD p 0)] at e7
    walk_at "go"
    refine v_tuple e7 fun q1 H8 hq1 s8 e8 => ?_
    have s68 := s7.trans s8
    walk_at "go"
    refine v_app (s68 _ _ g2) (by rw [List.length_map]; omega) fun H9 k9 e9 => ?_
    refine ⟨_, rfl, k9 _ _ (s68 _ _ e6) nfr, ⟨G ++ [(rowN fd (r c'), q1)], ?_, ?_, fun e he => ?_⟩, fun b o hb => k9 _ _ (s68 _ _ (s6 _ _ hb)) (ne_of_none hb hroH)⟩
    · rw [List.map_append, g1, htk, List.map_append, List.map_append]
      rfl
    · rw [e9]
      unfold refV
      rw [List.map_append]
      rfl
    · rcases List.mem_append.mp he with z | z
      · exact k9 _ _ (s68 _ _ (g3 e z)) (ne_of (g3 e z) g2 (by intro z; cases z))
      · rw [List.mem_singleton.mp z]
        exact k9 _ _ e8 (ne_of e8 (s68 _ _ g2) (by intro z; cases z))
  rintro σ H5 ⟨x5, rfl, e5, rl, s5⟩
  rw [List.take_length] at rl
  obtain ⟨G, g1, g2, g3⟩ := rl.ex
  walk_at "go"
  refine v_tuple g2 fun u H6 hu6 s6 eu => ?_
  walk_at "go"
  intro t H7 ht s7 et
  have s67 := s6.trans s7
  exact k t fo u H7 (Same.free (s5.trans s6) ht) hfo (s5.trans s67) et (s67 _ _ e5) ⟨G, g1, s7 _ _ eu, fun e he => s67 _ _ (g3 e he)⟩
end
end
section
open PySem PySem.Spec L2
def spLists71 (C : Addr) : Sp := fun vs H Q _ => ∃ (q d x y : Addr) (ks : List Nat) (gs : List (List Nat)) (keys : List Nat) (r : Nat → List Nat), vs = [.ref q, .ref d] ∧ SceneAt C H q ks gs x y ∧ DicT H d keys r ∧ (∀ c ∈ ks, c ∈ keys) ∧ ks.length ≤ 8 ∧
  ∀ p E H', H p = none → Same H H' → E.map (·.1) = ks.map r → H' p = some (.lst (refV E)) → (∀ e ∈ E, H' e.2 = some (.lst (numV e.1)) ∧ H e.2 = none) → Q (.ref p) H'
/-- an order of the kinds that keeps which of them cross -/
structure Pres (gs : List (List Nat)) (ks w : List Nat) : Prop where
  pm : w.Perm ks
  cr : ∀ i j, i < ks.length → j < i → crB gs (ks.getD i 0) (ks.getD j 0) = crB gs (w.getD i 0) (w.getD j 0)
section
variable {P : Program} {w : World} {K : PySem.W.Frag} {mg : Str → Option Value} {base : Heap} {C R O CL : Addr}
abbrev stlists71 : Stmt := (top 66)
abbrev Nlists71 : List Str := ["_law_scene_here", "_law_tables", "_law_door"]
theorem sclists71 : FnScope Nlists71 ["_law_scene_here", "_law_tables"] (defScope stlists71) := ⟨rfl, rfl, rfl, by decide +kernel, rfl, by decide +kernel, by decide +kernel⟩

theorem ok_lists71 (F : FnAt K mg "_law_lists" stlists71) (T : TxtSc K mg C R O CL) : Def P w K mg base CX0 1 "_law_lists" ["_law_scene_here", "_law_tables"] (spLists71 C) := by
  refine F.ok sclists71 (fun _ _ _ _ _ _ us hl => match us, hl with | [_, _], _ => rfl) (fun vs H Q E h => ?_) (fun f cdv A outer s H vs Q E hr h => ?_)
  · obtain ⟨q, d, x, y, ks, gs, keys, r, rfl, _⟩ := h
    rfl
  obtain ⟨q, d, x, y, ks, gs, keys, r, rfl, sc, dt, hk, k8, k⟩ := h
  have hu := hu_of hr
  have nd := sclists71.nd
  refine ⟨_, (pss_one (ps_ret (pe_lc (own := [("_law_door", 2)]) (g := gName 2) (by rfl) nd (pi_str (pe_dget hu (pv 0) pe_str (fun _ _ => rfl))) (blkOk_by (own := [("_law_door", 2)]) (N := Nlists71) (sc := defScope stlists71) (by decide +kernel)) (fun _ _ _ _ _ => (pg_name (i := 2) nd rfl (Or.inl rfl))) (fun _ _ _ _ _ => pts_nil) (fun _ _ _ _ _ => (pe_callTy (c_listK (K := K) rfl) (by rfl) T.list (by decide +kernel) (pa_cons (pe_dget hu (pv 1) (pv 2) (fun _ _ => rfl)) pa_nil)))))), ?_⟩
  refine s_start [some _, some _, none] rfl ?_
  obtain ⟨l0, a1, a2⟩ := sc.ex
  obtain ⟨a, d1, d2⟩ := dt.ex
  walk_at "go"
  refine v_dget (sc_kinds a1) ?_
  walk_at "go"
  refine lc_newL (n := ks.length) (it := fun j => V.str (tx [ks.getD j 0])) (f := fun j => numV (r (ks.getD j 0))) (walk_tx ks) (fun _ _ => trivial) (by omega) (fun j hj H1 s1 R rr => ?_) (fun j hj H1 s1 R rr => ?_) (fun D H1 vs hD s1 eD lv rv => ?_)
  · walk_at "go"
    exact rr H1 (Same.refl _)
  · have hc : ks.getD j 0 ∈ ks := getD_mem hj
    walk_at "go"
    refine v_dget (dget_let (g := fun c => V.ref (a c)) (s1 _ _ d1) (hk _ hc)) ?_
    walk_at "go"
    refine v_list (SqL.of (s1 _ _ (d2 _ (hk _ hc)))) fun p H2 hp s2 e2 => ?_
    exact rr p H2 hp s2 e2
  walk_at "go"
  obtain ⟨E, e1, rfl, e3⟩ := refs_of (R := fun H' p r' => H' p = some (.lst (numV r')) ∧ H p = none) (H := H1) (vs := vs) (D := ks.map r) (by rw [lv, List.length_map]) fun j v r' h1 h2 => by
    rw [List.getElem?_map] at h2
    obtain ⟨c, hc, rfl⟩ := Option.map_eq_some_iff.mp h2
    obtain ⟨p, rfl, h0, hp⟩ := rv j v h1
    have e : ks.getD j 0 = c := by rw [List.getD_eq_getElem?_getD, hc]; rfl
    rw [e] at hp
    exact ⟨p, rfl, hp, h0⟩
  exact k D E H1 hD s1 e1 eD e3
end
end
section
open PySem PySem.Spec L2
theorem rowK_map {ks : List Nat} {r : Nat → List Nat} {c : Nat} (h : c ∈ ks) : rowK ks (ks.map r) c = r c := by
  obtain ⟨h1, h2⟩ := ixOf_get h
  unfold rowK
  rw [List.getD_eq_getElem?_getD, List.getElem?_map, List.getElem?_eq_getElem h1]
  show r ks[ixOf ks c] = r c
  rw [List.getD_eq_getElem?_getD, List.getElem?_eq_getElem h1] at h2
  exact congrArg r h2
section
variable {n : Nat} {ks w : List Nat} {gs : List (List Nat)} {r : Nat → List Nat}
theorem ScOk.mem_cr (ok : ScOk ks gs) {a b : Nat} (h : crB gs a b = true) : a ∈ ks ∧ b ∈ ks ∧ a ≠ b := by
  unfold crB at h
  rcases Bool.or_eq_true_iff.mp h with z | z
  · obtain ⟨u, v, e, n, hu, hv⟩ := ok.prs _ (of_decide_eq_true z)
    obtain ⟨rfl, rfl⟩ := pair_inj e
    exact ⟨hu, hv, n⟩
  · obtain ⟨u, v, e, n, hu, hv⟩ := ok.prs _ (of_decide_eq_true z)
    obtain ⟨rfl, rfl⟩ := pair_inj e
    exact ⟨hv, hu, fun e => n e.symm⟩
theorem ScOk.cross (ok : ScOk ks gs) {a b : Nat} : b ∈ crossOf ks (prsOf gs) a ↔ crB gs a b = true := by
  unfold crossOf
  rw [List.mem_filter, Bool.or_eq_true_iff, decide_eq_true_iff, decide_eq_true_iff, prs_crB ok, prs_crB ok, crB_sym b a]
  constructor
  · rintro ⟨_, z | z⟩
    · exact z.2
    · exact z.2
  · intro h
    obtain ⟨h1, h2, h3⟩ := ok.mem_cr h
    exact ⟨h2, (Nat.lt_or_gt_of_ne h3).imp (fun z => ⟨z, h⟩) fun z => ⟨z, h⟩⟩
theorem ScOk.few' (gs : List (List Nat)) : (prsOf gs).length ≤ 1000 := Nat.le_trans (pairsOf_len _) (by decide)
theorem ScOk.small (gs : List (List Nat)) : PsOk (prsOf gs) := pairsOf_small _
theorem RowsOk.good (ok : ScOk ks gs) (h : RowsOk n (crB gs) ks r) (n0 : 0 < n) (ln : n ≤ 1000) : Good n ks (prsOf gs) (ks.map r) := by
  refine ⟨List.length_map _, by have := ok.len; omega, ScOk.few' gs, fun s hs => ?_, n0, ln, fun s hs p hp => ?_, fun p hp => ?_⟩
  · obtain ⟨c, hc, rfl⟩ := List.mem_map.mp hs
    exact h.len c hc
  · obtain ⟨c, hc, rfl⟩ := List.mem_map.mp hs
    exact h.back c hc p hp
  · obtain ⟨a, b, rfl, _⟩ := pairsOf_mem.mp hp
    obtain ⟨_, cr⟩ := (prs_crB ok).mp hp
    obtain ⟨ha, hb, _⟩ := ok.mem_cr cr
    refine ⟨a, b, rfl, ha, hb, fun x hx => ?_⟩
    rw [rowK_map ha, rowK_map hb]
    exact h.com b hb a ha (by rw [crB_sym]; exact cr) x hx
/-! ### renamings -/
theorem Pres.len (p : Pres gs ks w) : w.length = ks.length := p.pm.length_eq
theorem Pres.all (p : Pres gs ks w) (ok : ScOk ks gs) {i j : Nat} (hi : i < ks.length) (hj : j < ks.length) : crB gs (ks.getD i 0) (ks.getD j 0) = crB gs (w.getD i 0) (w.getD j 0) := by
  rcases Nat.lt_trichotomy i j with l | l | l
  · rw [crB_sym, p.cr j i hj l, crB_sym]
  · subst l
    have f : ∀ a, crB gs a a = false := fun a => by
      cases e : crB gs a a with
      | false => rfl
      | true => exact absurd rfl (ok.mem_cr e).2.2
    rw [f, f]
  · exact p.cr i j hi l
theorem Pres.mem (p : Pres gs ks w) {c : Nat} (hc : c ∈ ks) : ks.getD (ixOf w c) 0 ∈ ks ∧ ixOf w c < ks.length ∧ w.getD (ixOf w c) 0 = c := by
  obtain ⟨h1, h2⟩ := ixOf_get (p.pm.mem_iff.mpr hc)
  have := p.len
  exact ⟨getD_mem (by omega), by omega, h2⟩
/-! ### ways -/
end
end
section
open PySem PySem.Spec L2
theorem ScOk.crok {ks : List Nat} {gs : List (List Nat)} (ok : ScOk ks gs) : CrOk (crossOf ks (prsOf gs)) := by
  refine ⟨fun a b h => ?_, fun a h => ?_⟩
  · rw [ok.cross] at h ⊢
    rw [crB_sym]
    exact h
  · exact (ok.mem_cr (ok.cross.mp h)).2.2 rfl
def spHome74 (C : Addr) : Sp := fun vs H Q _ => ∃ (q x y : Addr) (ks : List Nat) (gs : List (List Nat)), vs = [.ref q] ∧ SceneAt C H q ks gs x y ∧ ks.length ≤ 8 ∧ ∀ p H', H p = none → Same H H' → H' p = some (.tup (vecV ks fun _ => 1)) → Q (.ref p) H'
def spGo74 (C : Addr) : Sp := fun vs H Q _ => ∃ (q x y s : Addr) (ks : List Nat) (gs : List (List Nat)) (c : Nat) (v : Nat → Int), vs = [.ref q, .ref s, .str (tx [c])] ∧ SceneAt C H q ks gs x y ∧ ScOk ks gs ∧ c ∈ ks ∧ H s = some (.tup (vecV ks v)) ∧ ∀ p H', H p = none → Same H H' → H' p = some (.tup (vecV ks (thr (crossOf ks (prsOf gs)) c v))) → Q (.ref p) H'
def spLed74 (C : Addr) : Sp := fun vs H Q _ => ∃ (q x y s : Addr) (ks : List Nat) (gs : List (List Nat)) (w : List Nat) (v : Nat → Int), vs = [.ref q, .ref s, .str (tx w)] ∧ SceneAt C H q ks gs x y ∧ ScOk ks gs ∧ (∀ c ∈ w, c ∈ ks) ∧ H s = some (.tup (vecV ks v)) ∧ ∀ p H', Same H H' → H' p = some (.tup (vecV ks (act (crossOf ks (prsOf gs)) w.reverse v))) → Q (.ref p) H'
def spNear74 (C : Addr) : Sp := fun vs H Q _ => ∃ (q x y s : Addr) (ks : List Nat) (gs : List (List Nat)) (v : Nat → Int), vs = [.ref q, .ref s] ∧ SceneAt C H q ks gs x y ∧ ks.length ≤ 8 ∧ H s = some (.tup (vecV ks v)) ∧ ∀ H', Same H H' → Q (.str (tx (ks.filter fun k => decide (v k < 0)))) H'
section
variable {P : Program} {w : World} {K : PySem.W.Frag} {mg : Str → Option Value} {base : Heap} {C R O CL : Addr}
abbrev sthome74 : Stmt := (top 57)
abbrev Nhome74 : List Str := ["_law_scene_here", "_law_kind"]
theorem schome74 : FnScope Nhome74 ["_law_scene_here"] (defScope sthome74) := ⟨rfl, rfl, rfl, by decide +kernel, rfl, by decide +kernel, by decide +kernel⟩

theorem ok_home74 (F : FnAt K mg "_law_home" sthome74) (T : TxtSc K mg C R O CL) : Def P w K mg base CX0 1 "_law_home" ["_law_scene_here"] (spHome74 C) := by
  refine F.ok schome74 (fun _ _ _ _ _ _ us hl => match us, hl with | [_], _ => rfl) (fun vs H Q E h => ?_) (fun f cdv A outer s H vs Q E hr h => ?_)
  · obtain ⟨q, x, y, ks, gs, rfl, _⟩ := h
    rfl
  obtain ⟨q, x, y, ks, gs, rfl, sc, k8, k⟩ := h
  have hu := hu_of hr
  have nd := schome74.nd
  refine ⟨_, (pss_one (ps_ret (pe_callTy (c_tupleK (K := K) rfl) (by rfl) T.tuple (by decide +kernel) (pa_cons (pe_lc (own := [("_law_kind", 1)]) (g := gName 1) (by rfl) nd (pi_str (pe_dget hu (pv 0) pe_str (fun _ _ => rfl))) (blkOk_by (own := [("_law_kind", 1)]) (N := Nhome74) (sc := defScope sthome74) (by decide +kernel)) (fun _ _ _ _ _ => (pg_name (i := 1) nd rfl (Or.inl rfl))) (fun _ _ _ _ _ => pts_nil) (fun _ _ _ _ _ => pe_int)) pa_nil)))), ?_⟩
  refine s_start [some _, none] rfl ?_
  obtain ⟨l0, a1, a2⟩ := sc.ex
  walk_at "go"
  refine v_dget (sc_kinds a1) ?_
  walk_at "go"
  refine lc_gen (n := ks.length) (b := fun _ => true) (it := fun j => V.str (tx [ks.getD j 0])) (f := fun _ => .int 1) (walk_tx ks) (fun _ _ => trivial) (by omega) (fun j hj Ha sa R rr => ?_) (fun j hj _ Ha sa R rr => ?_) (fun D H1 hD s1 e1 => ?_)
  · walk_at "go"
    exact rr _ (Same.refl _)
  · walk_at "go"
    exact rr _ (Same.refl _)
  rw [filter_yes] at e1
  walk_at "go"
  refine v_tuple e1 fun l H2 hl s2 el => ?_
  refine k l H2 (Same.free s1 hl) (s1.trans s2) ?_
  rw [el]
  unfold vecV
  refine congrArg (fun z => some (HO.tup z)) (List.ext_getElem (by simp) fun i h1 h2 => ?_)
  rw [List.getElem_map, List.getElem_map]
abbrev stgo74 : Stmt := (top 58)
abbrev Ngo74 : List Str := ["_law_scene_here", "_law_spot", "_law_door", "_law_kinds", "_law_found", "_law_amount", "_law_k"]
theorem scgo74 : FnScope Ngo74 ["_law_scene_here", "_law_spot", "_law_door"] (defScope stgo74) := ⟨rfl, rfl, rfl, by decide +kernel, rfl, by decide +kernel, by decide +kernel⟩

theorem ok_go74 (F : FnAt K mg "_law_go" stgo74) (T : TxtSc K mg C R O CL) (D_cross : Def P w K mg base CX0 1 "_law_cross" ["_law_scene_here", "_law_a", "_law_b"] (spCross71 C)) : Def P w K mg base CX0 2 "_law_go" ["_law_scene_here", "_law_spot", "_law_door"] (spGo74 C) := by
  refine F.ok scgo74 (fun _ _ _ _ _ _ us hl => match us, hl with | [_, _, _], _ => rfl) (fun vs H Q E h => ?_) (fun f cdv A outer s H vs Q E hr h => ?_)
  · obtain ⟨q, x, y, sp, ks, gs, c, v, rfl, _⟩ := h
    rfl
  obtain ⟨q, x, y, sp, ks, gs, c, v, rfl, sc, ok, hc, hv, k⟩ := h
  have hu := hu_of hr
  have nd := scgo74.nd
  refine ⟨_, (pss_cons (ps_par (i := 3) (j := 4) (by rfl) nd rfl rfl (by decide) rfl rfl (pa_cons (pe_dget hu (pv 0) pe_str (fun _ _ => rfl)) (pa_cons (pe_lst pa_nil) pa_nil)) (by rfl))
      (pss_cons (ps_set (i := 5) nd rfl (Or.inl rfl) (pe_ix (ix_TK (K := K) rfl) (pv 1) (pe_index (pv 3) (pv 2)) (fun _ _ => rfl)))
      (pss_cons (ps_for PassesOwn.never rfl (pi_range1 (by rfl) T.range (pa_cons (pe_callB c_lenS (by rfl) T.len PySem.boot_len (pa_cons (pv 3) pa_nil)) pa_nil)) (pg_name (i := 6) nd rfl (Or.inl rfl))
      (pss_one (ps_if (pt_cmpR op_eq (pe_ix ix_str (pv 3) (pv 6) (fun _ _ => rfl)) (pv 2) (nomark _))
        (pss_one (ps_expr (pe_appK (K := K) rfl (pv 4) (pe_un un_neg (pv 5)))))
        (pss_one (ps_expr (pe_appK (K := K) rfl (pv 4) (pe_ifExp (pt_val (pe_cd D_cross hr pass0 (pa_cons (pv 0) (pa_cons (pe_ix ix_str (pv 3) (pv 6) (fun _ _ => rfl)) (pa_cons (pv 2) pa_nil))))) (pe_ix (ix_TK (K := K) rfl) (pv 1) (pv 6) (fun _ _ => rfl)) (pe_op op_add (pe_ix (ix_TK (K := K) rfl) (pv 1) (pv 6) (fun _ _ => rfl)) (pe_op op_mul pe_int (pv 5))))))))))
      (pss_one (ps_ret (pe_callTy (c_tupleK (K := K) rfl) (by rfl) T.tuple (by decide +kernel) (pa_cons (pv 4) pa_nil))))))), ?_⟩
  refine s_start [some _, some _, some _, none, none, none, none] rfl ?_
  obtain ⟨l0, a1, a2⟩ := sc.ex
  have kl := ok.len
  have lv : (vecV ks v).length = ks.length := List.length_map _
  have gv : ∀ j, j < ks.length → (vecV ks v)[j]? = some (.int (v (ks.getD j 0))) := fun j hj => by
    unfold vecV
    rw [List.getElem?_map, List.getD_eq_getElem?_getD, List.getElem?_eq_getElem hj]
    rfl
  walk_at "go"
  refine v_dget (sc_kinds a1) ?_
  walk_at "go"
  intro fo H1 hfo s1 efo
  walk_at "go"
  have hv1 := s1 _ _ hv
  have sc1 := sc.same s1
  have nfs : sp ≠ fo := ne_of_none hv hfo
  obtain ⟨h1, h2⟩ := ixOf_get hc
  refine v_index hc ?_
  refine v_ixT hv1 (at_of (j := ixOf ks c) rfl (gv _ h1)) ?_
  rw [h2]
  walk_at "go"
  refine for_it (walk_rI (fun i => ((i : Nat) : Int)) (fun k => Int.zero_add _)) (fun i σ H' => ∃ z6, σ = [some (.ref q), some (.ref sp), some (.str (tx [c])), some (.str (tx ks)), some (.ref fo), some (.int (v c)), z6] ∧ Same H H' ∧ H' fo = some (.lst ((ks.take i).map fun e => V.int (thr (crossOf ks (prsOf gs)) c v e)))) ⟨_, rfl, s1, efo⟩ (fun _ _ _ _ _ => trivial) ?_ ?_
  · rintro i u σ H2 H3 hi ⟨z6, rfl, s2, e2⟩ ⟨rfl, rfl⟩
    rw [Int.toNat_natCast] at hi
    have htk := take_getD hi
    have gi := gv i hi
    have ltk : ((ks.take i).map fun e => V.int (thr (crossOf ks (prsOf gs)) c v e)).length ≤ 8 := by rw [List.length_map, List.length_take]; omega
    have fin : ∀ (H4 : Hp) (z : Int), thr (crossOf ks (prsOf gs)) c v (ks.getD i 0) = z → Keep fo H3 H4 → H4 fo = some (.lst (((ks.take i).map fun e => V.int (thr (crossOf ks (prsOf gs)) c v e)) ++ [.int z])) → Same H H4 ∧ H4 fo = some (.lst ((ks.take (i + 1)).map fun e => V.int (thr (crossOf ks (prsOf gs)) c v e))) := fun H4 z ez k4 e4 => ⟨fun b o hb => k4 _ _ (s2 _ _ hb) (ne_of_none hb hfo), by rw [e4, htk, List.map_append, ← ez]; rfl⟩
    have sc3 := sc.same s2
    have hv3 := s2 _ _ hv
    generalize hd : ks.getD i 0 = d at gi fin
    walk_at "go"
    refine v_ixS (by omega) (show atI ks ((i : Nat) : Int) = some d by rw [← hd]; exact at_getD hi) ?_
    walk_at "go"
    refine if_dec (fun cd => ?_) (fun cd => ?_)
    · have ed : d = c := by
        have := tx_inj.mp (V.str.inj cd)
        injection this
      walk_at "go"
      refine ⟨_, rfl, ?_⟩
      walk_at "go"
      refine v_app e2 (by omega) fun H4 k4 e4 => ?_
      obtain ⟨f1, f2⟩ := fin H4 (-v c) (by rw [ed]; exact thr_self) k4 e4
      exact ⟨_, rfl, f1, f2⟩
    · have nd' : d ≠ c := fun z => cd (by rw [z])
      walk_at "go"
      refine v_ixS (by omega) (show atI ks ((i : Nat) : Int) = some d by rw [← hd]; exact at_getD hi) ?_
      walk_at "go"
      refine ⟨q, x, y, ks, gs, d, c, rfl, sc3, ?_⟩
      by_cases cr : crB gs d c = true
      · rw [cr]
        walk_at "go"
        refine v_ixT hv3 (at_of (j := i) rfl gi) ?_
        walk_at "go"
        refine v_app e2 (by omega) fun H4 k4 e4 => ?_
        obtain ⟨f1, f2⟩ := fin H4 (v d) (thr_cr ok.crok (ok.cross.mpr (by rw [crB_sym]; exact cr))) k4 e4
        exact ⟨_, rfl, f1, f2⟩
      · rw [show crB gs d c = false by cases h : crB gs d c with | true => exact absurd h cr | false => rfl]
        walk_at "go"
        refine v_ixT hv3 (at_of (j := i) rfl gi) ?_
        walk_at "go"
        refine v_app e2 (by omega) fun H4 k4 e4 => ?_
        obtain ⟨f1, f2⟩ := fin H4 (v d + 2 * v c) (thr_not nd' fun z => cr (by rw [crB_sym]; exact ok.cross.mp z)) k4 e4
        exact ⟨_, rfl, f1, f2⟩
  · rintro σ H2 ⟨z6, rfl, s2, e2⟩
    rw [Int.toNat_natCast, List.take_length] at e2
    walk_at "go"
    refine v_tuple e2 fun l H3 hl s3 el => ?_
    exact k l H3 (Same.free s2 hl) (s2.trans s3) el
abbrev stled74 : Stmt := (top 59)
abbrev Nled74 : List Str := ["_law_scene_here", "_law_spot", "_law_way", "_law_door"]
theorem scled74 : FnScope Nled74 ["_law_scene_here", "_law_spot", "_law_way"] (defScope stled74) := ⟨rfl, rfl, rfl, by decide +kernel, rfl, by decide +kernel, by decide +kernel⟩

theorem ok_led74 (F : FnAt K mg "_law_led" stled74) (T : TxtSc K mg C R O CL) (D_go : Def P w K mg base CX0 2 "_law_go" ["_law_scene_here", "_law_spot", "_law_door"] (spGo74 C)) : Def P w K mg base CX0 3 "_law_led" ["_law_scene_here", "_law_spot", "_law_way"] (spLed74 C) := by
  refine F.ok scled74 (fun _ _ _ _ _ _ us hl => match us, hl with | [_, _, _], _ => rfl) (fun vs H Q E h => ?_) (fun f cdv A outer s H vs Q E hr h => ?_)
  · obtain ⟨q, x, y, sp, ks, gs, w, v, rfl, _⟩ := h
    rfl
  obtain ⟨q, x, y, sp, ks, gs, wy, v, rfl, sc, ok, hw, hv, k⟩ := h
  have hu := hu_of hr
  have nd := scled74.nd
  refine ⟨_, (pss_cons (ps_for PassesOwn.never rfl (pi_str (pv 2)) (pg_name (i := 3) nd rfl (Or.inl rfl))
      (pss_one (ps_set (i := 1) nd rfl (Or.inl rfl) (pe_cd D_go hr pass0 (pa_cons (pv 0) (pa_cons (pv 1) (pa_cons (pv 3) pa_nil)))))))
      (pss_one (ps_ret (pv 1)))), ?_⟩
  refine s_start [some _, some _, some _, none] rfl ?_
  walk_at "go"
  refine for_it (walk_tx wy) (fun i σ H' => ∃ p z3, σ = [some (.ref q), some (.ref p), some (.str (tx wy)), z3] ∧ Same H H' ∧ H' p = some (.tup (vecV ks (act (crossOf ks (prsOf gs)) (wy.take i).reverse v)))) ⟨sp, _, rfl, Same.refl _, hv⟩ (fun _ _ _ _ _ => trivial) ?_ ?_
  · rintro i u σ H2 H3 hi ⟨p, z3, rfl, s2, e2⟩ ⟨rfl, hu'⟩
    obtain rfl : u = V.str (tx [wy.getD i 0]) := hu'
    walk_at "go"
    refine ⟨q, x, y, p, ks, gs, wy.getD i 0, _, rfl, sc.same s2, ok, hw _ (getD_mem hi), e2, fun p' H4 hp s4 e4 => ?_⟩
    refine ⟨p', _, rfl, s2.trans s4, ?_⟩
    rw [e4, take_getD hi, List.reverse_append]
    rfl
  · rintro σ H2 ⟨p, z3, rfl, s2, e2⟩
    rw [List.take_length] at e2
    walk_at "go"
    exact k p H2 s2 e2
abbrev stnear74 : Stmt := (top 60)
abbrev Nnear74 : List Str := ["_law_scene_here", "_law_spot", "_law_k"]
theorem scnear74 : FnScope Nnear74 ["_law_scene_here", "_law_spot"] (defScope stnear74) := ⟨rfl, rfl, rfl, by decide +kernel, rfl, by decide +kernel, by decide +kernel⟩

theorem ok_near74 (F : FnAt K mg "_law_near" stnear74) (T : TxtSc K mg C R O CL) : Def P w K mg base CX0 1 "_law_near" ["_law_scene_here", "_law_spot"] (spNear74 C) := by
  refine F.ok scnear74 (fun _ _ _ _ _ _ us hl => match us, hl with | [_, _], _ => rfl) (fun vs H Q E h => ?_) (fun f cdv A outer s H vs Q E hr h => ?_)
  · obtain ⟨q, x, y, sp, ks, gs, v, rfl, _⟩ := h
    rfl
  obtain ⟨q, x, y, sp, ks, gs, v, rfl, sc, k8, hv, k⟩ := h
  have hu := hu_of hr
  have nd := scnear74.nd
  refine ⟨_, (pss_one (ps_ret (pe_joinK (K := K) rfl (pe_tx [] (by decide +kernel)) (pe_lc (own := [("_law_k", 2)]) (g := gName 2) (by rfl) nd (pi_range1 (by rfl) T.range (pa_cons (pe_callB (c_lenK (K := K) rfl) (by rfl) T.len PySem.boot_len (pa_cons (pv 1) pa_nil)) pa_nil)) (blkOk_by (own := [("_law_k", 2)]) (N := Nnear74) (sc := defScope stnear74) (by decide +kernel)) (fun _ _ _ _ _ => (pg_name (i := 2) nd rfl (Or.inl rfl))) (fun _ _ _ _ _ => (pts_one (pt_cmpR op_lt (pe_ix (ix_TK (K := K) rfl) (pv 1) (pv 2) (fun _ _ => rfl)) pe_int (nomark _)))) (fun _ _ _ _ _ => (pe_ix ix_str (pe_dget hu (pv 0) pe_str (fun _ _ => rfl)) (pv 2) (fun _ _ => rfl))))))), ?_⟩
  refine s_start [some _, some _, none] rfl ?_
  obtain ⟨l0, a1, a2⟩ := sc.ex
  have lv : (vecV ks v).length = ks.length := List.length_map _
  have gv : ∀ j, j < ks.length → (vecV ks v)[j]? = some (.int (v (ks.getD j 0))) := fun j hj => by
    unfold vecV
    rw [List.getElem?_map, List.getD_eq_getElem?_getD, List.getElem?_eq_getElem hj]
    rfl
  walk_at "go"
  refine v_lenT hv ?_
  walk_at "go"
  rw [lv, Int.toNat_natCast]
  refine lc_gen (n := ks.length) (b := fun j => decide (v (ks.getD j 0) < 0)) (it := fun j => .int ((j : Nat) : Int)) (f := fun j => V.str (tx [ks.getD j 0])) (walk_rI (fun k => ((k : Nat) : Int)) (fun k => Int.zero_add _)) (fun _ _ => trivial) (by omega) (fun j hj Ha sa R rr => ?_) (fun j hj _ Ha sa R rr => ?_) (fun D H1 hD s1 e1 => ?_)
  · walk_at "go"
    refine v_ixT (sa _ _ hv) (at_of (j := j) rfl (gv j hj)) ?_
    walk_at "go"
    exact rr _ (Same.refl _)
  · walk_at "go"
    refine v_dget (sc_kinds (sa _ _ a1)) ?_
    walk_at "go"
    refine v_ixS (by omega) (at_getD hj) ?_
    exact rr _ (Same.refl _)
  have e1 : H1 D = some (.lst (((ks.filter fun k => decide (v k < 0)).map fun c => [c]).map fun l => V.str (tx l))) := by
    rw [e1]
    refine congrArg (fun z => some (HO.lst z)) ?_
    have e : ks = (List.range ks.length).map fun j => ks.getD j 0 := by
      refine List.ext_getElem (by simp) fun i h1 h2 => ?_
      rw [List.getElem_map, List.getElem_range, List.getD_eq_getElem?_getD, List.getElem?_eq_getElem h1]
      rfl
    conv => rhs; rw [e]
    rw [List.filter_map, List.map_map, List.map_map]
    rfl
  walk_at "go"
  refine v_join e1 (by rw [flat_ones]; exact Nat.le_trans (List.length_filter_le _ _) (by omega)) ?_
  rw [flat_ones]
  exact k _ s1
end
end
section
open PySem PySem.Spec L2
theorem at_last74 (nm : List Nat) (c : Nat) : atI (nm ++ [c]) (-1) = some c := by
  unfold atI ixN
  have l : (nm ++ [c]).length = nm.length + 1 := by rw [List.length_append]; rfl
  rw [if_neg (by omega), if_pos (by omega)]
  show (nm ++ [c])[((-1 : Int) + ((nm ++ [c]).length : Int)).toNat]? = some c
  rw [show ((-1 : Int) + ((nm ++ [c]).length : Int)).toNat = nm.length by omega, List.getElem?_append_right (Nat.le_refl _), Nat.sub_self]
  rfl
def spName74 (C : Addr) : Sp := fun vs H Q _ => ∃ (q x y : Addr) (ks : List Nat) (gs : List (List Nat)) (w : List Nat), vs = [.ref q, .str (tx w)] ∧ SceneAt C H q ks gs x y ∧ ScOk ks gs ∧ (∀ c ∈ w, c ∈ ks) ∧ w.length ≤ 1000 ∧ ∀ H', Same H H' → Q (.str (tx (joinOf ks (prsOf gs) [] w))) H'
section
variable {P : Program} {w : World} {K : PySem.W.Frag} {mg : Str → Option Value} {base : Heap} {C R O CL : Addr}
abbrev stname74 : Stmt := (top 61)
abbrev Nname74 : List Str := ["_law_scene_here", "_law_way", "_law_spot", "_law_found"]
theorem scname74 : FnScope Nname74 ["_law_scene_here", "_law_way"] (defScope stname74) := ⟨rfl, rfl, rfl, by decide +kernel, rfl, by decide +kernel, by decide +kernel⟩

theorem ok_name74 (F : FnAt K mg "_law_name" stname74) (T : TxtSc K mg C R O CL) (D_home : Def P w K mg base CX0 1 "_law_home" ["_law_scene_here"] (spHome74 C)) (D_go : Def P w K mg base CX0 2 "_law_go" ["_law_scene_here", "_law_spot", "_law_door"] (spGo74 C)) (D_led : Def P w K mg base CX0 3 "_law_led" ["_law_scene_here", "_law_spot", "_law_way"] (spLed74 C)) (D_near : Def P w K mg base CX0 1 "_law_near" ["_law_scene_here", "_law_spot"] (spNear74 C)) : Def P w K mg base CX0 4 "_law_name" ["_law_scene_here", "_law_way"] (spName74 C) := by
  refine F.ok scname74 (fun _ _ _ _ _ _ us hl => match us, hl with | [_, _], _ => rfl) (fun vs H Q E h => ?_) (fun f cdv A outer s H vs Q E hr h => ?_)
  · obtain ⟨q, x, y, ks, gs, w, rfl, _⟩ := h
    rfl
  obtain ⟨q, x, y, ks, gs, wy, rfl, sc, ok, hw, lw, k⟩ := h
  have hu := hu_of hr
  have nd := scname74.nd
  replace D_home := D_home.mono (show 1 ≤ 3 by decide)
  replace D_go := D_go.mono (show 2 ≤ 3 by decide)
  replace D_near := D_near.mono (show 1 ≤ 3 by decide)
  refine ⟨_, (pss_cons (ps_par (i := 2) (j := 3) (by rfl) nd rfl rfl (by decide) rfl rfl (pa_cons (pe_cd D_led hr pass0 (pa_cons (pv 0) (pa_cons (pe_cd D_home hr pass0 (pa_cons (pv 0) pa_nil)) (pa_cons (pe_revS (pv 1)) pa_nil)))) (pa_cons (pe_tx [] (by decide +kernel)) pa_nil)) (by rfl))
      (pss_cutS (ps_while PassesOwn.never (pt_cmpR op_ne (pe_cd D_near hr pass0 (pa_cons (pv 0) (pa_cons (pv 2) pa_nil))) (pe_tx [] (by decide +kernel)) (nomark _))
      (pss_cons (ps_set (i := 3) nd rfl (Or.inl rfl) (pe_op op_addS (pv 3) (pe_ix ix_str (pe_cd D_near hr pass0 (pa_cons (pv 0) (pa_cons (pv 2) pa_nil))) pe_int (fun _ _ => rfl))))
        (pss_one (ps_set (i := 2) nd rfl (Or.inl rfl) (pe_cd D_go hr pass0 (pa_cons (pv 0) (pa_cons (pv 2) (pa_cons (pe_ix ix_str (pv 3) (pe_un un_neg pe_int) (fun _ _ => rfl)) pa_nil))))))))
      (pss_one (ps_ret (pv 3))))), ?_⟩
  refine s_start [some _, some _, none, none] rfl ?_
  have crok := ok.crok
  have kl := ok.len
  have e0 : act (crossOf ks (prsOf gs)) wy (fun _ => 1) = act (crossOf ks (prsOf gs)) (joinC (crossOf ks (prsOf gs)) [] wy) (fun _ => 1) := (act_join crok wy [] _).symm
  have nf0 : NF (crossOf ks (prsOf gs)) (joinC (crossOf ks (prsOf gs)) [] wy) := NF_join crok NF_nil
  have m0 : ∀ c ∈ joinC (crossOf ks (prsOf gs)) [] wy, c ∈ ks := fun c hc => (joinC_mem hc).elim (fun z => nomatch z) (hw c)
  have l0 := joinC_len (crossOf ks (prsOf gs)) wy []
  rw [joinOf_C] at k
  generalize joinC (crossOf ks (prsOf gs)) [] wy = u0 at *
  generalize hf : crossOf ks (prsOf gs) = f at *
  walk_at "go"
  refine ⟨q, x, y, ks, gs, rfl, sc, kl, fun p1 H1 hp1 s1 e1 => ?_⟩
  walk_at "go"
  refine ⟨q, x, y, p1, ks, gs, wy.reverse, _, rfl, sc.same s1, ok, fun c hc => hw c (List.mem_reverse.mp hc), e1, fun p2 H2 s2 e2 => ?_⟩
  rw [List.reverse_reverse, hf, e0] at e2
  walk_at "go"
  refine s_cut (fun σ H' => ∃ p, σ = [some (.ref q), some (.str (tx wy)), some (.ref p), some (.str (tx u0))] ∧ Same H H') ?_ ?_
  · refine s_while (fun m σ H' => ∃ p nm u, m = u.length ∧ σ = [some (.ref q), some (.str (tx wy)), some (.ref p), some (.str (tx nm))] ∧ nm ++ u = u0 ∧ NF f u ∧ (∀ c ∈ u, c ∈ ks) ∧ Same H H' ∧ H' p = some (.tup (vecV ks (act f u fun _ => 1)))) u0.length ⟨p2, [], u0, rfl, rfl, rfl, nf0, m0, s1.trans s2, e2⟩ ?_
    clear e1 e2 s1 s2 hp1 p1 p2
    rintro m σ H3 ⟨p, nm, u, rfl, rfl, eu, nfu, mu, s3, e3⟩
    have leu : nm.length + u.length ≤ 1000 := by
      rw [← List.length_append, eu]
      have : ([] : List Nat).length = 0 := rfl
      omega
    walk_at "go"
    refine ⟨q, x, y, p, ks, gs, _, rfl, sc.same s3, kl, e3, fun H4 s4 => ?_⟩
    walk_at "go"
    cases u with
    | nil =>
      rw [one_nil]
      walk_at "go"
      rw [List.append_nil] at eu
      rw [eu]
      exact ⟨_, rfl, s3.trans s4⟩
    | cons c r =>
      obtain ⟨t, ht⟩ := one_cons crok ok.asc nfu mu
      have ne : ¬ (V.str (tx (c :: t)) = V.str (tx [])) := fun z => by
        have := tx_inj.mp (V.str.inj z)
        cases this
      rw [ht]
      walk_at "go"
      refine if_ndec (fun _ => ?_) (fun z => absurd z ne)
      refine v_turn ?_
      walk_at "go"
      refine ⟨q, x, y, p, ks, gs, _, rfl, sc.same (s3.trans s4), kl, s4 _ _ e3, fun H5 s5 => ?_⟩
      rw [ht]
      have lt8 : (c :: t).length ≤ 8 := by rw [← ht]; exact Nat.le_trans (List.length_filter_le _ _) kl
      walk_at "go"
      refine v_ixS (by omega) (show atI (c :: t) 0 = some c from atI_nat (j := 0) rfl) ?_
      have lnm : nm.length + [c].length ≤ 1000000 := by rw [List.length_singleton]; omega
      walk_at "go"
      refine ⟨_, rfl, ?_⟩
      refine v_ixS (l := nm ++ [c]) (by rw [List.length_append]; omega) (at_last74 nm c) ?_
      walk_at "go"
      have s35 := (s3.trans s4).trans s5
      refine ⟨q, x, y, p, ks, gs, c, _, rfl, sc.same s35, ok, mu c (List.mem_cons_self ..), s5 _ _ (s4 _ _ e3), fun p' H6 hp6 s6 e6 => ?_⟩
      refine ⟨r.length, by simp, p', nm ++ [c], r, rfl, rfl, by rw [← eu]; simp, nfu.tail, fun e he => mu e (List.mem_cons_of_mem _ he), s35.trans s6, ?_⟩
      rw [e6, hf]
      show some (HO.tup (vecV ks (thr f c (thr f c (act f r fun _ => 1))))) = _
      rw [thr_thr crok]
  rintro σ H3 ⟨p, rfl, s3⟩
  walk_at "go"
  exact k H3 s3
end
end
section
open PySem PySem.Spec L2
/-- a closed floor's tables, numbered as they are found -/
structure Flo (ks : List Nat) (ps T : List (List Nat)) (m : Nat) : Prop where
  good : Good m ks ps T
  can : bfs T m 0 = List.range m
/-- ways of kinds -/
def Wd (ks w : List Nat) : Prop := ∀ c ∈ w, c ∈ ks
/-- two ways lead to one place -/
def ker (ks : List Nat) (T : List (List Nat)) (u v : List Nat) : Prop := walkT ks T 0 u = walkT ks T 0 v
section
variable {ks : List Nat} {ps T T' S : List (List Nat)} {n m m' x : Nat} {fd : List Nat}
theorem canon_of (g : Good n ks ps S) : Flo ks ps (numT S (bfs S n 0)) (bfs S n 0).length := by
  refine ⟨g.bfs g.n0, ?_⟩
  have cl := Cl.of_bfs g.ok g.n0
  obtain ⟨a1, a2⟩ := bfs_num (p := 0) g.ok cl (fun r hr => hr) (bfs_pos _ _ _)
  rw [bfs_first71] at a1
  have e : (List.range (bfs S n 0).length).map (fun j => (bfs S n 0).getD j 0) = bfs S n 0 := by
    refine List.ext_getElem (by simp) fun i h1 h2 => ?_
    rw [List.getElem_map, List.getElem_range, List.getD_eq_getElem?_getD, List.getElem?_eq_getElem h2]
    rfl
  generalize hb : bfs (numT S (bfs S n 0)) (bfs S n 0).length 0 = b at a1 a2
  generalize bfs S n 0 = fd at *
  have l1 : b.length = fd.length := by rw [← a1, List.length_map]
  refine List.ext_getElem (by rw [l1, List.length_range]) fun i h1 h2 => ?_
  have hi : i < fd.length := by omega
  have e1 : (b.map fun j => fd.getD j 0)[i]'(by rw [List.length_map]; exact h1) = fd[i] := by simp only [a1]
  rw [List.getElem_map] at e1
  rw [List.getElem_range]
  refine getD_inj71 cl.nd (a2 _ (List.getElem_mem h1)) hi ?_
  rw [e1, List.getD_eq_getElem?_getD, List.getElem?_eq_getElem hi]
  rfl
theorem Flo.num (f : Flo ks ps T m) : numT T (bfs T m 0) = T := by
  rw [f.can]
  have hr : ∀ r ∈ T, rowN (List.range m) r = r := fun r hr => by
    have lr := (f.good.ok r hr).1
    show (List.range m).map _ = r
    refine List.ext_getElem (by rw [List.length_map, List.length_range, lr]) fun i h1 h2 => ?_
    have hi : i < m := by omega
    rw [List.getElem_map, List.getElem_range]
    have lt : r.getD i 0 < m := f.good.ok.get hr hi
    have e : (List.range m).getD (r.getD i 0) 0 = r.getD i 0 := by
      rw [List.getD_eq_getElem?_getD, List.getElem?_range lt]
      rfl
    have := ixOf_getD (fd := List.range m) (j := r.getD i 0) List.nodup_range (by rw [List.length_range]; exact lt)
    rw [e] at this
    rw [this, List.getD_eq_getElem?_getD, List.getElem?_eq_getElem h2]
    rfl
  show T.map (rowN (List.range m)) = T
  conv => rhs; rw [← List.map_id T]
  exact List.map_congr_left fun r h => hr r h
theorem walkT_snoc' {p c : Nat} {w : List Nat} : walkT ks T p (w ++ [c]) = (rowK ks T c).getD (walkT ks T p w) 0 := walkT_snoc
theorem row_kind (knd : ks.Nodup) (l : T.length = ks.length) {r : List Nat} (hr : r ∈ T) : ∃ c ∈ ks, rowK ks T c = r := by
  obtain ⟨i, hi, er⟩ := List.getElem_of_mem hr
  have hik : i < ks.length := by omega
  refine ⟨ks[i], List.getElem_mem hik, ?_⟩
  have e : ixOf ks ks[i] = i := by
    have := ixOf_getD knd hik
    rw [List.getD_eq_getElem?_getD, List.getElem?_eq_getElem hik] at this
    exact this
  unfold rowK
  rw [e, List.getD_eq_getElem?_getD, List.getElem?_eq_getElem hi]
  exact er
/-- a way to each place that is found -/
theorem reach (knd : ks.Nodup) (g : Good n ks ps T) : ∀ y ∈ bfs T n x, ∃ w, Wd ks w ∧ walkT ks T x w = y := by
  have key : ∀ (Sr : List (List Nat)), (∀ r ∈ Sr, r ∈ T) → ∀ (z : Nat) {l : List Nat}, (∃ w, Wd ks w ∧ walkT ks T x w = z) → (∀ y ∈ l, ∃ w, Wd ks w ∧ walkT ks T x w = y) → ∀ y ∈ addT Sr z l, ∃ w, Wd ks w ∧ walkT ks T x w = y := by
    intro Sr
    induction Sr with
    | nil => exact fun _ _ _ _ hl => hl
    | cons r Sr ih =>
      intro hS z l hz hl
      have hr := hS r (List.mem_cons_self ..)
      show ∀ y ∈ addT Sr z (if r.getD z 0 ∈ l then l else l ++ [r.getD z 0]), _
      refine ih (fun s hs => hS s (List.mem_cons_of_mem _ hs)) z hz ?_
      split
      · exact hl
      · intro y hy
        rcases List.mem_append.mp hy with q | q
        · exact hl y q
        · rw [List.mem_singleton.mp q]
          obtain ⟨w, hw, e⟩ := hz
          obtain ⟨c, hc, er⟩ := row_kind knd g.lT hr
          refine ⟨w ++ [c], fun d hd => ?_, by rw [walkT_snoc', e, er]⟩
          rcases List.mem_append.mp hd with q | q
          · exact hw d q
          · rw [List.mem_singleton.mp q]
            exact hc
  have key2 : ∀ (k i : Nat) {l : List Nat}, (∀ y ∈ l, ∃ w, Wd ks w ∧ walkT ks T x w = y) → ∀ y ∈ fp T k i l, ∃ w, Wd ks w ∧ walkT ks T x w = y := by
    intro k
    induction k with
    | zero => exact fun _ _ hl => hl
    | succ k ih =>
      intro i l hl
      show ∀ y ∈ (if i < l.length then fp T k (i + 1) (addT T (l.getD i 0) l) else l), _
      split
      · rename_i c
        exact ih _ (key T (fun _ h => h) _ (hl _ (getD_mem c)) hl)
      · exact hl
  exact key2 _ _ fun y hy => ⟨[], (fun _ z => nomatch z), (List.mem_singleton.mp hy).symm⟩
theorem Flo.way (knd : ks.Nodup) (f : Flo ks ps T m) {p : Nat} (hp : p < m) : ∃ w, Wd ks w ∧ walkT ks T 0 w = p := reach knd f.good p (by rw [f.can]; exact List.mem_range.mpr hp)
theorem Flo.lt (f : Flo ks ps T m) {w : List Nat} (hw : Wd ks w) : walkT ks T 0 w < m := walkT_lt f.good.ok f.good.lT f.good.n0 hw
/-- the place of another floor that ways to a place lead to -/
theorem Flo.map (knd : ks.Nodup) (f : Flo ks ps T m) (f' : Flo ks ps T' m') (h : ∀ u v, Wd ks u → Wd ks v → ker ks T u v → ker ks T' u v) : ∃ φ : Nat → Nat, (∀ p, p < m → φ p < m') ∧ ∀ w, Wd ks w → φ (walkT ks T 0 w) = walkT ks T' 0 w := by
  classical
  refine ⟨fun p => if hp : p < m then walkT ks T' 0 (Classical.choose (f.way knd hp)) else 0, fun p hp => ?_, fun w hw => ?_⟩
  · simp only [dif_pos hp]
    exact f'.lt (Classical.choose_spec (f.way knd hp)).1
  · have hp := f.lt hw
    simp only [dif_pos hp]
    obtain ⟨h1, h2⟩ := Classical.choose_spec (f.way knd hp)
    exact h _ _ h1 hw h2
end
end
section
open PySem PySem.Spec L2
abbrev FwS := List Nat × (Nat → List Nat)
/-- one door at the place p -/
def stW (p : Nat) (st : FwS) (kr : Nat × List Nat) : FwS := if kr.2.getD p 0 ∈ st.1 then st else (st.1 ++ [kr.2.getD p 0], fun x => if x = kr.2.getD p 0 then st.2 p ++ [kr.1] else st.2 x)
/-- all doors of the place p -/
def plW (L : List (Nat × List Nat)) (p : Nat) (st : FwS) : FwS := L.foldl (stW p) st
/-- behind i places -/
def fwW (L : List (Nat × List Nat)) (i : Nat) : FwS := (List.range i).foldl (fun st p => plW L p st) ([0], fun _ => [])
theorem fwW_succ {L : List (Nat × List Nat)} {i : Nat} : fwW L (i + 1) = plW L i (fwW L i) := by
  unfold fwW
  rw [List.range_succ, List.foldl_append]
  rfl
theorem plW_snoc {L : List (Nat × List Nat)} {p : Nat} {st : FwS} {kr : Nat × List Nat} : plW (L ++ [kr]) p st = stW p (plW L p st) kr := by
  unfold plW
  rw [List.foldl_append]
  rfl
theorem plW_fst {p : Nat} : ∀ {L : List (Nat × List Nat)} {st : FwS}, (plW L p st).1 = addT (L.map (·.2)) p st.1
  | [], _ => rfl
  | kr :: L, st => by
    show (plW L p (stW p st kr)).1 = addT (L.map (·.2)) p (if kr.2.getD p 0 ∈ st.1 then st.1 else st.1 ++ [kr.2.getD p 0])
    rw [plW_fst]
    unfold stW
    split <;> rfl
theorem fp_pre74 (T : List (List Nat)) : ∀ (m i : Nat) (fd : List Nat), ∃ q, fp T m i fd = fd ++ q
  | 0, _, fd => ⟨[], (List.append_nil _).symm⟩
  | m + 1, i, fd => by
    show ∃ q, (if i < fd.length then fp T m (i + 1) (addT T (fd.getD i 0) fd) else fd) = fd ++ q
    split
    · obtain ⟨q1, h1⟩ := addT_pre T (fd.getD i 0) fd
      obtain ⟨q2, h2⟩ := fp_pre74 T m (i + 1) (addT T (fd.getD i 0) fd)
      exact ⟨q1 ++ q2, by rw [h2, h1, List.append_assoc]⟩
    · exact ⟨[], (List.append_nil _).symm⟩
section
variable {ks : List Nat} {ps T : List (List Nat)} {m : Nat}
/-- what is known of the ways so far -/
structure FwG (ks : List Nat) (T : List (List Nat)) (st : FwS) : Prop where
  wd : ∀ x ∈ st.1, Wd ks (st.2 x)
  wk : ∀ x ∈ st.1, walkT ks T 0 (st.2 x) = x
  ln : ∀ x ∈ st.1, (st.2 x).length + 1 ≤ st.1.length
theorem FwG.step {st : FwS} {p k : Nat} {r : List Nat} (h : FwG ks T st) (hp : p ∈ st.1) (hk : k ∈ ks) (hr : rowK ks T k = r) : FwG ks T (stW p st (k, r)) ∧ p ∈ (stW p st (k, r)).1 := by
  unfold stW
  by_cases c : r.getD p 0 ∈ st.1
  · rw [if_pos c]
    exact ⟨h, hp⟩
  · rw [if_neg c]
    have ne : ∀ x ∈ st.1, ¬ x = r.getD p 0 := fun x hx e => c (e ▸ hx)
    refine ⟨⟨fun x hx => ?_, fun x hx => ?_, fun x hx => ?_⟩, List.mem_append_left _ hp⟩
    · show Wd ks (if x = r.getD p 0 then st.2 p ++ [k] else st.2 x)
      rcases List.mem_append.mp hx with z | z
      · rw [if_neg (ne x z)]
        exact h.wd x z
      · rw [if_pos (List.mem_singleton.mp z)]
        intro d hd
        rcases List.mem_append.mp hd with q | q
        · exact h.wd p hp d q
        · rw [List.mem_singleton.mp q]
          exact hk
    · show walkT ks T 0 (if x = r.getD p 0 then st.2 p ++ [k] else st.2 x) = x
      rcases List.mem_append.mp hx with z | z
      · rw [if_neg (ne x z)]
        exact h.wk x z
      · have e := List.mem_singleton.mp z
        have e : x = r.getD p 0 := e
        rw [if_pos e, walkT_snoc, h.wk p hp, hr, e]
    · show (if x = r.getD p 0 then st.2 p ++ [k] else st.2 x).length + 1 ≤ (st.1 ++ [r.getD p 0]).length
      rw [List.length_append, List.length_singleton]
      rcases List.mem_append.mp hx with z | z
      · rw [if_neg (ne x z)]
        exact Nat.le_succ_of_le (h.ln x z)
      · rw [if_pos (List.mem_singleton.mp z), List.length_append, List.length_singleton]
        have := h.ln p hp
        omega
theorem FwG.doors {p : Nat} : ∀ {L : List (Nat × List Nat)} {st : FwS}, (∀ kr ∈ L, kr.1 ∈ ks ∧ rowK ks T kr.1 = kr.2) → FwG ks T st → p ∈ st.1 → FwG ks T (plW L p st) ∧ p ∈ (plW L p st).1
  | [], _, _, h, hp => ⟨h, hp⟩
  | kr :: L, st, hL, h, hp => by
    obtain ⟨a, b⟩ := hL kr (List.mem_cons_self ..)
    obtain ⟨h1, h2⟩ := h.step hp a b
    exact FwG.doors (L := L) (st := stW p st kr) (fun q hq => hL q (List.mem_cons_of_mem _ hq)) h1 h2
/-- kinds with their rows -/
theorem zip_rows (knd : ks.Nodup) (l : T.length = ks.length) : (∀ kr ∈ List.zip ks T, kr.1 ∈ ks ∧ rowK ks T kr.1 = kr.2) ∧ (List.zip ks T).map (·.2) = T := by
  refine ⟨fun kr h => ?_, List.map_snd_zip (by omega)⟩
  obtain ⟨i, hi, e⟩ := List.getElem_of_mem h
  rw [List.getElem_zip] at e
  rw [List.length_zip] at hi
  have h1 : i < ks.length := by omega
  have h2 : i < T.length := by omega
  subst e
  refine ⟨List.getElem_mem h1, ?_⟩
  have e2 : ixOf ks ks[i] = i := by
    have := ixOf_getD knd h1
    rw [List.getD_eq_getElem?_getD, List.getElem?_eq_getElem h1] at this
    exact this
  unfold rowK
  rw [e2, List.getD_eq_getElem?_getD, List.getElem?_eq_getElem h2]
  rfl
structure FwI (ks : List Nat) (T : List (List Nat)) (m i : Nat) (st : FwS) : Prop extends FwG ks T st where
  fp : Cw.fp T (m + 1 - i) i st.1 = List.range m
theorem FwI.pre {i : Nat} {st : FwS} (h : FwI ks T m i st) : st.1 = List.range st.1.length ∧ st.1.length ≤ m := by
  obtain ⟨q, hq⟩ := fp_pre74 T (m + 1 - i) i st.1
  rw [h.fp] at hq
  have hl : st.1.length ≤ m := by
    have := congrArg List.length hq
    rw [List.length_range, List.length_append] at this
    omega
  refine ⟨?_, hl⟩
  have e := congrArg (List.take st.1.length) hq
  rw [List.take_left, List.take_range, Nat.min_eq_left hl] at e
  exact e.symm
theorem FwI.more {i : Nat} {st : FwS} (h : FwI ks T m i st) (hi : i < m) : i < st.1.length := by
  refine Classical.byContradiction fun c => ?_
  have e := h.fp
  rw [show m + 1 - i = (m - i) + 1 by omega] at e
  have e2 : Cw.fp T ((m - i) + 1) i st.1 = st.1 := if_neg c
  rw [e2] at e
  have := congrArg List.length e
  rw [List.length_range] at this
  omega
theorem FwI.has {i : Nat} {st : FwS} (h : FwI ks T m i st) (hi : i < m) : i ∈ st.1 := by
  rw [h.pre.1]
  exact List.mem_range.mpr (h.more hi)
theorem fw_inv (knd : ks.Nodup) (f : Flo ks ps T m) : ∀ i, i ≤ m → FwI ks T m i (fwW (List.zip ks T) i)
  | 0, _ => ⟨⟨fun x hx => fun d hd => (nomatch hd), fun x hx => (List.mem_singleton.mp hx).symm, fun x hx => Nat.le_refl _⟩, f.can⟩
  | i + 1, hi => by
    have h := fw_inv knd f i (by omega)
    obtain ⟨z1, z2⟩ := zip_rows knd f.good.lT
    rw [fwW_succ]
    refine ⟨(h.toFwG.doors z1 (h.has (by omega))).1, ?_⟩
    rw [plW_fst, z2]
    have e := h.fp
    have hm := h.more (by omega)
    have g : (fwW (List.zip ks T) i).1.getD i 0 = i := by
      rw [h.pre.1, List.getD_eq_getElem?_getD, List.getElem?_range hm]
      rfl
    rw [show m + 1 - i = (m - i) + 1 by omega] at e
    have e2 : Cw.fp T ((m - i) + 1) i (fwW (List.zip ks T) i).1 = Cw.fp T (m - i) (i + 1) (addT T ((fwW (List.zip ks T) i).1.getD i 0) (fwW (List.zip ks T) i).1) := if_pos hm
    rw [e2, g] at e
    rw [show m + 1 - (i + 1) = m - i by omega]
    exact e
/-- the first way to each place -/
def fw (ks : List Nat) (T : List (List Nat)) (m p : Nat) : List Nat := (fwW (List.zip ks T) m).2 p
theorem fw_all (knd : ks.Nodup) (f : Flo ks ps T m) : (fwW (List.zip ks T) m).1 = List.range m := by
  have h := fw_inv knd f m (Nat.le_refl _)
  obtain ⟨h1, h2⟩ := h.pre
  have e := h.fp
  rw [show m + 1 - m = 0 + 1 by omega] at e
  have e2 : Cw.fp T (0 + 1) m (fwW (List.zip ks T) m).1 = (fwW (List.zip ks T) m).1 := if_neg (by omega)
  rw [e2] at e
  exact e
theorem fw_is (knd : ks.Nodup) (f : Flo ks ps T m) {p : Nat} (hp : p < m) : Wd ks (fw ks T m p) ∧ walkT ks T 0 (fw ks T m p) = p ∧ (fw ks T m p).length < m := by
  have h := fw_inv knd f m (Nat.le_refl _)
  have e := fw_all knd f
  have hm : p ∈ (fwW (List.zip ks T) m).1 := by rw [e]; exact List.mem_range.mpr hp
  refine ⟨h.wd p hm, h.wk p hm, ?_⟩
  have := h.ln p hm
  rw [e, List.length_range] at this
  show ((fwW (List.zip ks T) m).2 p).length < m
  omega
end
end
section
open PySem PySem.Spec L2
abbrev fwKV (st : FwS) : List (Key × V) := nKV st.1 fun x => .str (tx (st.2 x))
theorem setd_upd74 {d : Addr} {H : Hp} {l : List Nat} {g : Nat → V} {k : Nat} {v : V} (c : ¬ k ∈ l) : upd H d (.dK (putK (nKV l g) (Sum.inl ((k : Nat) : Int)) v)) d = some (.dK (nKV (l ++ [k]) fun c => if c = k then v else g c)) := by
  rw [upd_same]
  refine congrArg (fun z => some (HO.dK z)) ?_
  unfold putK
  rw [if_neg (by rw [valV_any, nKV_none c]; exact Bool.false_ne_true)]
  unfold nKV
  rw [List.map_append]
  have e3 : (l.map fun (c : Nat) => ((Sum.inl ((c : Nat) : Int) : Key), if c = k then v else g c)) = l.map fun (c : Nat) => ((Sum.inl ((c : Nat) : Int) : Key), g c) := List.map_congr_left fun c' hc => by
    have ne : ¬ c' = k := fun z => c (by rw [← z]; exact hc)
    rw [if_neg ne]
  show _ = _ ++ [((Sum.inl ((k : Nat) : Int) : Key), if k = k then v else g k)]
  rw [if_pos rfl, e3]
def spFirstW74 (C CL : Addr) : Sp := fun vs H Q _ => ∃ (c x : Addr) (ks : List Nat) (ps T : List (List Nat)) (m : Nat), vs = [.ref c] ∧ ClosedAt CL H c x T m ∧ PlanAt C H x ks ps ∧ Flo ks ps T m ∧ ks.Nodup ∧ ks.length ≤ 8 ∧ m ≤ 100 ∧
  ∀ l H', H l = none → Same H H' → H' l = some (.lst (strsV ((List.range m).map (fw ks T m)))) → Q (.ref l) H'
section
variable {P : Program} {w : World} {K : PySem.W.Frag} {mg : Str → Option Value} {base : Heap} {C R O CL : Addr}
abbrev stfirstW74 : Stmt := (inClass (top 44) 14)
abbrev NfirstW74 : List Str := ["self", "found", "place", "kind", "row"]
theorem scfirstW74 : FnScope NfirstW74 ["self"] (defScope stfirstW74) := ⟨rfl, rfl, rfl, by decide +kernel, rfl, by decide +kernel, by decide +kernel⟩

theorem ok_firstW74 (F : MAt K CL "first_ways" "Closed.first_ways" stfirstW74) (T : TxtSc K mg C R O CL) (M_Closed_len : MDef P w K mg base CX0 1 CL "__len__" ["self"] (spClLen CL)) : MDef P w K mg base CX0 3 CL "first_ways" ["self"] (spFirstW74 C CL) := by
  refine F.ok scfirstW74 (fun _ _ _ _ _ _ us hl => match us, hl with | [_], _ => rfl) (fun vs H Q E h => ?_) (fun f cdv A outer s H vs Q E hr h => ?_)
  · obtain ⟨c, x, ks, ps, TT, m, rfl, _⟩ := h
    rfl
  obtain ⟨c, x, ks, ps, TT, m, rfl, hc, pl, fl, knd, k8, m100, k⟩ := h
  have hu := hu_of hr
  have nd := scfirstW74.nd
  refine ⟨_, (pss_cons (ps_set (i := 1) nd rfl (Or.inr rfl) (pe_disp (pps_cons pe_int (pe_tx [] (by decide +kernel)) pps_nil) (by rfl) (by rfl) (fun z => by cases z) (by decide)))
      (pss_cons (ps_for PassesOwn.never rfl (pi_range1 (by rfl) T.range (pa_cons (pe_callB (c_lenM M_Closed_len hr pass0) (by rfl) T.len PySem.boot_len (pa_cons (pv 0) pa_nil)) pa_nil)) (pg_name (i := 2) nd rfl (Or.inl rfl))
      (pss_one (ps_for PassesOwn.never rfl (pi_zipS (by rfl) T.zip (pa_cons (pe_flK (K := K) rfl (pe_flK (K := K) rfl (pv 0) rfl) rfl) (pa_cons (pe_flK (K := K) rfl (pv 0) rfl) pa_nil))) (pg_tup rfl (pgs_cons (pg_name (i := 3) nd rfl (Or.inl rfl)) (pgs_cons (pg_name (i := 4) nd rfl (Or.inl rfl)) pgs_nil)))
        (pss_one (ps_expr (pe_setd77 (pv 1) (pe_ix (ix_TK (K := K) rfl) (pv 4) (pv 2) (fun _ _ => rfl)) (pe_op op_addS (pe_dget hu (pv 1) (pv 2) (fun _ _ => rfl)) (pv 3))))))))
      (pss_one (ps_ret (pe_lc (own := [("place", 2)]) (g := gName 2) (by rfl) nd (pi_range1 (by rfl) T.range (pa_cons (pe_callB (c_lenM M_Closed_len hr pass0) (by rfl) T.len PySem.boot_len (pa_cons (pv 0) pa_nil)) pa_nil)) (blkOk_by (own := [("place", 2)]) (N := NfirstW74) (sc := defScope stfirstW74) (by decide +kernel)) (fun _ _ _ _ _ => (pg_name (i := 2) nd rfl (Or.inl rfl))) (fun _ _ _ _ _ => pts_nil) (fun _ _ _ _ _ => (pe_dget hu (pv 1) (pv 2) (fun _ _ => rfl)))))))), ?_⟩
  refine s_start [some _, none, none, none, none] rfl ?_
  obtain ⟨dx, fs, t, q0, e1, e2, e3, e4, e5, e6⟩ := hc.ex
  obtain ⟨dp, tp, dq, a1, a2, a3⟩ := pl.ex
  obtain ⟨E, b1, b2, b3⟩ := e5.ex
  have lE : E.length = TT.length := by rw [← b1, List.length_map]
  have lT := fl.good.lT
  walk_at "go2"
  intro d hd
  walk_at "go2"
  refine ⟨upd_same, [(Sum.inl 0, .str (tx []))], rfl, by decide, ?_⟩
  have em : mergeK [] [((Sum.inl 0 : Key), V.str (tx []))] = fwKV ([0], fun _ => []) := rfl
  rw [em]
  have s1 : Same H (upd (upd H d (.dK [])) d (.dK (fwKV ([0], fun _ => [])))) := fun b o hb => by
    rw [upd_ne (ne_of_none hb hd), upd_ne (ne_of_none hb hd)]
    exact hb
  have ed : upd (upd H d (.dK [])) d (.dK (fwKV ([0], fun _ => []))) d = some (.dK (fwKV ([0], fun _ => []))) := upd_same
  generalize upd (upd H d (.dK [])) d (.dK (fwKV ([0], fun _ => []))) = H1 at s1 ed ⊢
  clear em
  obtain ⟨z1, z2⟩ := zip_rows knd lT
  have fwi := fw_inv knd fl
  walk_at "go2"
  refine ⟨c, _, _, rfl, s1 _ _ e1, ⟨c, x, TT, m, rfl, hc.same s1, ⟨m, rfl, by omega, ?_⟩⟩⟩
  walk_at "go2"
  rw [Int.toNat_natCast]
  refine for_it (walk_rI (fun i => ((i : Nat) : Int)) (fun k => Int.zero_add _)) (fun i σ H' => ∃ z2 z3 z4, σ = [some (.ref c), some (.ref d), z2, z3, z4] ∧ Same H H' ∧ H' d = some (.dK (fwKV (fwW (List.zip ks TT) i)))) ⟨_, _, _, rfl, s1, ed⟩ (fun _ _ _ _ _ => trivial) ?_ ?_
  · rintro i v σ H2 H3 hi ⟨y2, y3, y4, rfl, s3, e3d⟩ ⟨rfl, rfl⟩
    have hi : i < m := hi
    have fi := fwi i (by omega)
    have hin := fi.has hi
    walk_at "go2"
    refine e_iZipS ?_
    walk_at "go2"
    refine v_fld (s3 _ _ e1) T.Closed.cl T.nQp e2 ?_
    walk_at "go2"
    refine v_fld (s3 _ _ a1) T.Plan.cl T.nK planF_k ?_
    walk_at "go2"
    refine v_fld (s3 _ _ e1) T.Closed.cl T.nQt e3 ?_
    walk_at "go2"
    have lr : (refV E).length = E.length := List.length_map _
    refine ⟨tx ks, t, refV E, rfl, SqT.of (s3 _ _ b2), by rw [lr, lE, lT]; simp, ?_⟩
    refine for_it (walk_zipS (K := K) (a := t) (ks := ks) (xs := refV E)) (fun j σ H' => ∃ z3 z4, σ = [some (.ref c), some (.ref d), some (.int ((i : Nat) : Int)), z3, z4] ∧ Same H H' ∧ H' d = some (.dK (fwKV (plW ((List.zip ks TT).take j) i (fwW (List.zip ks TT) i))))) ⟨_, _, rfl, s3, e3d⟩ (fun _ _ _ _ ⟨_, _, _, sH, _⟩ => sH _ _ b2) ?_ ?_
    · rintro j v σ H4 H5 hj ⟨y3, y4, rfl, s4, e4d⟩ ⟨T0, c0, y, rfl, hT0, rfl, hcj, hy⟩
      rw [lr] at hj
      have he : E[j]? = some E[j] := List.getElem?_eq_getElem hj
      have hy0 : y = .ref E[j].2 := by
        rw [List.getElem?_map, he] at hy
        exact (Option.some.inj hy).symm
      subst hy0
      have em : E[j] ∈ E := List.getElem_mem hj
      have eT : TT[j]? = some E[j].1 := by rw [← b1, List.getElem?_map, he]; rfl
      generalize E[j] = e at em eT
      have hz : (List.zip ks TT)[j]? = some (c0, e.1) := by rw [List.getElem?_zip_eq_some]; exact ⟨hcj, eT⟩
      have ztk : (List.zip ks TT).take (j + 1) = (List.zip ks TT).take j ++ [(c0, e.1)] := by rw [List.take_succ, hz]; rfl
      have gd := FwG.doors (L := (List.zip ks TT).take j) (fun kr h => z1 kr (List.mem_of_mem_take h)) fi.toFwG hin
      obtain ⟨k1, k2⟩ := z1 _ (List.mem_of_getElem? hz)
      have er := (fl.good.ok _ (List.mem_of_getElem? eT)).1
      refine v_gTup2 rfl upd_same ?_
      have s5 : Same H4 (upd H4 T0 (.tup [.str (tx [c0]), .ref e.2])) := Same.new hT0
      generalize upd H4 T0 (.tup [.str (tx [c0]), .ref e.2]) = H5 at s5
      have s45 := s4.trans s5
      have e5d := s5 _ _ e4d
      have erow := s45 _ _ (b3 e em)
      have lst : (plW ((List.zip ks TT).take j) i (fwW (List.zip ks TT) i)).1.length ≤ 1000 := by
        rw [plW_fst]
        have fok : FdOk m (fwW (List.zip ks TT) i).1 := by
          obtain ⟨q1, q2⟩ := fi.pre
          rw [q1]
          exact ⟨List.nodup_range, fun z hz => Nat.lt_of_lt_of_le (List.mem_range.mp hz) q2⟩
        have sub : OkT m (((List.zip ks TT).take j).map (·.2)) := fun r hr => by
          obtain ⟨kr, hkr, rfl⟩ := List.mem_map.mp hr
          exact fl.good.ok _ (by rw [← z2]; exact List.mem_map.mpr ⟨kr, List.mem_of_mem_take hkr, rfl⟩)
        have := (FdOk.add sub fok hi).len
        omega
      have nx : fwKV (plW ((List.zip ks TT).take (j + 1)) i (fwW (List.zip ks TT) i)) = fwKV (stW i (plW ((List.zip ks TT).take j) i (fwW (List.zip ks TT) i)) (c0, e.1)) := by rw [ztk, plW_snoc]
      generalize plW ((List.zip ks TT).take j) i (fwW (List.zip ks TT) i) = st at gd e5d nx lst
      walk_at "go2"
      refine e_setd77 ?_
      walk_at "go2"
      refine ⟨d, rfl, isD_num e5d, ?_⟩
      walk_at "go2"
      refine v_ixT erow (at_of (j := i) rfl (num_at (by rw [er]; exact hi))) ?_
      walk_at "go2"
      refine v_dget (num_get e5d gd.2) ?_
      have lw := gd.1.ln i gd.2
      have ls1 : (st.2 i).length + [c0].length ≤ 1000000 := by rw [List.length_singleton]; omega
      walk_at "go2"
      have lkv : (fwKV st).length = st.1.length := List.length_map _
      refine ⟨_, Sum.inl ((e.1.getD i 0 : Nat) : Int), e5d, rfl, szlt (by rw [lkv]; omega), fun u hu' => ?_, fun hn => ?_⟩
      · have cc : e.1.getD i 0 ∈ st.1 := by
          by_cases cc : e.1.getD i 0 ∈ st.1
          · exact cc
          · rw [nKV_none cc] at hu'
            cases hu'
        refine ⟨_, _, rfl, s45, ?_⟩
        rw [nx]
        unfold stW
        rw [if_pos cc]
        exact e5d
      · have cc : ¬ e.1.getD i 0 ∈ st.1 := fun cc => by rw [nKV_some cc] at hn; cases hn
        refine ⟨_, _, rfl, fun b o hb => ?_, ?_⟩
        · rw [upd_ne (ne_of_none hb hd)]
          exact s45 _ _ hb
        · rw [setd_upd74 cc, nx]
          unfold stW
          rw [if_neg cc]
          refine congrArg (fun z => some (HO.dK z)) ?_
          refine congrArg (nKV (st.1 ++ [e.1.getD i 0])) (funext fun y => ?_)
          show (if y = e.1.getD i 0 then _ else _) = V.str (tx (if y = e.1.getD i 0 then _ else _))
          split <;> rfl
    · rintro σ H4 ⟨y3, y4, rfl, s4, e4d⟩
      walk_at "go2"
      refine ⟨_, _, _, rfl, s4, ?_⟩
      rw [e4d, lr, fwW_succ, List.take_of_length_le (by rw [List.length_zip]; omega)]
  · rintro σ H2 ⟨y2, y3, y4, rfl, s2, e2d⟩
    have e2d' : H2 d = some (.dK (nKV (List.range m) fun z => .str (tx (fw ks TT m z)))) := by
      rw [e2d]
      show some (HO.dK (nKV (fwW (List.zip ks TT) m).1 _)) = _
      rw [fw_all knd fl]
      rfl
    walk_at "go2"
    refine ⟨c, _, _, rfl, s2 _ _ e1, ⟨c, x, TT, m, rfl, hc.same s2, ⟨m, rfl, by omega, ?_⟩⟩⟩
    walk_at "go2"
    rw [Int.toNat_natCast]
    refine lc_gen (n := m) (b := fun _ => true) (it := fun j => .int ((j : Nat) : Int)) (f := fun j => V.str (tx (fw ks TT m j))) (walk_rI (fun k => ((k : Nat) : Int)) (fun k => Int.zero_add _)) (fun _ _ => trivial) (by omega) (fun j hj Ha sa R rr => ?_) (fun j hj _ Ha sa R rr => ?_) (fun D H3 hD s3 e3 => ?_)
    · walk_at "go2"
      exact rr _ (Same.refl _)
    · walk_at "go2"
      refine v_dget (num_get (sa _ _ e2d') (List.mem_range.mpr hj)) ?_
      exact rr _ (Same.refl _)
    rw [filter_yes] at e3
    refine k D H3 (Same.free s2 hD) (s2.trans s3) ?_
    rw [e3]
    unfold strsV
    rw [List.map_map]
    rfl
end
end
section
open PySem PySem.Spec L2
def spLFirst74 (C : Addr) : Sp := fun vs H Q _ => ∃ (q u x y : Addr) (ks : List Nat) (gs T : List (List Nat)) (m : Nat), vs = [.ref q, .ref u] ∧ SceneAt C H q ks gs x y ∧ TabT H u T ∧ Flo ks (prsOf gs) T m ∧ ks.Nodup ∧ ks.length ≤ 8 ∧ m ≤ 100 ∧
  ∀ d H', H d = none → Same H H' → H' d = some (.dK (nKV (List.range m) fun z => .str (tx (fw ks T m z)))) → Q (.ref d) H'
section
variable {P : Program} {w : World} {K : PySem.W.Frag} {mg : Str → Option Value} {base : Heap} {C R O CL : Addr}
abbrev stlfirst74 : Stmt := (top 67)
abbrev Nlfirst74 : List Str := ["_law_scene_here", "_law_rows", "_law_found", "_law_at", "_law_k"]
theorem sclfirst74 : FnScope Nlfirst74 ["_law_scene_here", "_law_rows"] (defScope stlfirst74) := ⟨rfl, rfl, rfl, by decide +kernel, rfl, by decide +kernel, by decide +kernel⟩

theorem ok_lfirst74 (F : FnAt K mg "_law_first_ways" stlfirst74) (T : TxtSc K mg C R O CL) : Def P w K mg base CX0 1 "_law_first_ways" ["_law_scene_here", "_law_rows"] (spLFirst74 C) := by
  refine F.ok sclfirst74 (fun _ _ _ _ _ _ us hl => match us, hl with | [_, _], _ => rfl) (fun vs H Q E h => ?_) (fun f cdv A outer s H vs Q E hr h => ?_)
  · obtain ⟨q, u, x, y, ks, gs, TT, m, rfl, _⟩ := h
    rfl
  obtain ⟨q, u, x, y, ks, gs, TT, m, rfl, sc, tu, fl, knd, k8, m100, k⟩ := h
  have hu := hu_of hr
  have nd := sclfirst74.nd
  refine ⟨_, (pss_cons (ps_par (i := 2) (j := 3) (by rfl) nd rfl rfl (by decide) rfl rfl (pa_cons (pe_disp (pps_cons pe_int (pe_tx [] (by decide +kernel)) pps_nil) (by rfl) (by rfl) (fun z => by cases z) (by decide)) (pa_cons pe_int pa_nil)) (by rfl))
      (pss_cutS (ps_while PassesOwn.never (pt_cmpR op_lt (pv 3) (pe_callB c_lenD (by rfl) T.len PySem.boot_len (pa_cons (pv 2) pa_nil)) (nomark _))
      (pss_cons (ps_for PassesOwn.never rfl (pi_range1 (by rfl) T.range (pa_cons (pe_callB (c_lenK (K := K) rfl) (by rfl) T.len PySem.boot_len (pa_cons (pv 1) pa_nil)) pa_nil)) (pg_name (i := 4) nd rfl (Or.inl rfl))
        (pss_one (ps_expr (pe_setd77 (pv 2) (pe_ix (ix_TK (K := K) rfl) (pe_ix (ix_TK (K := K) rfl) (pv 1) (pv 4) (fun _ _ => rfl)) (pv 3) (fun _ _ => rfl)) (pe_op op_addS (pe_dget hu (pv 2) (pv 3) (fun _ _ => rfl)) (pe_ix ix_str (pe_dget hu (pv 0) pe_str (fun _ _ => rfl)) (pv 4) (fun _ _ => rfl)))))))
        (pss_one (ps_aug (i := 3) nd rfl (Or.inl rfl) pe_int ip_add))))
      (pss_one (ps_ret (pv 2))))), ?_⟩
  refine s_start [some _, some _, none, none, none] rfl ?_
  obtain ⟨l0, a1, a2⟩ := sc.ex
  obtain ⟨E, b1, b2, b3⟩ := tu.ex
  have lE : E.length = TT.length := by rw [← b1, List.length_map]
  have lT := fl.good.lT
  have lr : (refV E).length = E.length := List.length_map _
  walk_at "go2"
  intro d hd
  walk_at "go2"
  refine ⟨upd_same, [(Sum.inl 0, .str (tx []))], rfl, by decide, ?_⟩
  have em : mergeK [] [((Sum.inl 0 : Key), V.str (tx []))] = fwKV ([0], fun _ => []) := rfl
  rw [em]
  have s1 : Same H (upd (upd H d (.dK [])) d (.dK (fwKV ([0], fun _ => [])))) := fun b o hb => by
    rw [upd_ne (ne_of_none hb hd), upd_ne (ne_of_none hb hd)]
    exact hb
  have ed : upd (upd H d (.dK [])) d (.dK (fwKV ([0], fun _ => []))) d = some (.dK (fwKV ([0], fun _ => []))) := upd_same
  generalize upd (upd H d (.dK [])) d (.dK (fwKV ([0], fun _ => []))) = H1 at s1 ed ⊢
  clear em
  obtain ⟨z1, z2⟩ := zip_rows knd lT
  have fwi := fw_inv knd fl
  walk_at "go2"
  refine s_cut (fun σ H' => ∃ x3 x4, σ = [some (.ref q), some (.ref u), some (.ref d), x3, x4] ∧ Same H H' ∧ H' d = some (.dK (nKV (List.range m) fun z => .str (tx (fw ks TT m z))))) ?_ ?_
  · refine s_while (fun M σ H' => ∃ i x4, M + i = m ∧ σ = [some (.ref q), some (.ref u), some (.ref d), some (.int ((i : Nat) : Int)), x4] ∧ Same H H' ∧ H' d = some (.dK (fwKV (fwW (List.zip ks TT) i)))) m ⟨0, _, rfl, rfl, s1, ed⟩ ?_
    rintro M σ H2 ⟨i, x4, hM, rfl, s2, e2d⟩
    have fi := fwi i (by omega)
    have lkv : (fwKV (fwW (List.zip ks TT) i)).length = (fwW (List.zip ks TT) i).1.length := List.length_map _
    walk_at "go2"
    refine v_lenD e2d ?_
    walk_at "go2"
    rw [lkv]
    refine if_dec (fun cc => ?_) (fun cc => ?_)
    · have him : i < m := by
        have := fi.pre.2
        omega
      obtain ⟨M', rfl⟩ : ∃ M', M = M' + 1 := ⟨M - 1, by omega⟩
      have hin := fi.has him
      refine v_turn ?_
      walk_at "go2"
      refine v_lenT (s2 _ _ b2) ?_
      walk_at "go2"
      rw [lr, Int.toNat_natCast]
      refine for_it (walk_rI (fun i => ((i : Nat) : Int)) (fun k => Int.zero_add _)) (fun j σ H' => ∃ x4, σ = [some (.ref q), some (.ref u), some (.ref d), some (.int ((i : Nat) : Int)), x4] ∧ Same H H' ∧ H' d = some (.dK (fwKV (plW ((List.zip ks TT).take j) i (fwW (List.zip ks TT) i))))) ⟨_, rfl, s2, e2d⟩ (fun _ _ _ _ _ => trivial) ?_ ?_
      · rintro j v σ H4 H5 hj ⟨x4, rfl, s5, e5d⟩ ⟨rfl, rfl⟩
        have hj : j < E.length := hj
        have he : E[j]? = some E[j] := List.getElem?_eq_getElem hj
        have hk : j < ks.length := by omega
        have hcj : ks[j]? = some (ks.getD j 0) := by rw [List.getD_eq_getElem?_getD, List.getElem?_eq_getElem hk]; rfl
        have em : E[j] ∈ E := List.getElem_mem hj
        have eT : TT[j]? = some E[j].1 := by rw [← b1, List.getElem?_map, he]; rfl
        have ge : (refV E)[j]? = some (.ref E[j].2) := by unfold refV; rw [List.getElem?_map, he]; rfl
        have gk : atI ks ((j : Nat) : Int) = some (ks.getD j 0) := at_getD hk
        generalize E[j] = e at em eT ge
        generalize ks.getD j 0 = c0 at hcj gk
        have hz : (List.zip ks TT)[j]? = some (c0, e.1) := by rw [List.getElem?_zip_eq_some]; exact ⟨hcj, eT⟩
        have ztk : (List.zip ks TT).take (j + 1) = (List.zip ks TT).take j ++ [(c0, e.1)] := by rw [List.take_succ, hz]; rfl
        have gd := FwG.doors (L := (List.zip ks TT).take j) (fun kr h => z1 kr (List.mem_of_mem_take h)) fi.toFwG hin
        have er := (fl.good.ok _ (List.mem_of_getElem? eT)).1
        have erow := s5 _ _ (b3 e em)
        have b25 := s5 _ _ b2
        have a15 := s5 _ _ a1
        have lst : (plW ((List.zip ks TT).take j) i (fwW (List.zip ks TT) i)).1.length ≤ 1000 := by
          rw [plW_fst]
          have fok : FdOk m (fwW (List.zip ks TT) i).1 := by
            obtain ⟨q1, q2⟩ := fi.pre
            rw [q1]
            exact ⟨List.nodup_range, fun z hz => Nat.lt_of_lt_of_le (List.mem_range.mp hz) q2⟩
          have sub : OkT m (((List.zip ks TT).take j).map (·.2)) := fun r hr => by
            obtain ⟨kr, hkr, rfl⟩ := List.mem_map.mp hr
            exact fl.good.ok _ (by rw [← z2]; exact List.mem_map.mpr ⟨kr, List.mem_of_mem_take hkr, rfl⟩)
          have := (FdOk.add sub fok him).len
          omega
        have nx : fwKV (plW ((List.zip ks TT).take (j + 1)) i (fwW (List.zip ks TT) i)) = fwKV (stW i (plW ((List.zip ks TT).take j) i (fwW (List.zip ks TT) i)) (c0, e.1)) := by rw [ztk, plW_snoc]
        generalize plW ((List.zip ks TT).take j) i (fwW (List.zip ks TT) i) = st at gd e5d nx lst
        walk_at "go2"
        refine e_setd77 ?_
        walk_at "go2"
        refine ⟨d, rfl, isD_num e5d, ?_⟩
        walk_at "go2"
        refine v_ixT b25 (at_of (j := j) rfl ge) ?_
        walk_at "go2"
        refine v_ixT erow (at_of (j := i) rfl (num_at (by rw [er]; exact him))) ?_
        walk_at "go2"
        refine v_dget (num_get e5d gd.2) ?_
        walk_at "go2"
        refine v_dget (sc_kinds a15) ?_
        walk_at "go2"
        refine v_ixS (by omega) gk ?_
        have lw := gd.1.ln i gd.2
        have ls1 : (st.2 i).length + [c0].length ≤ 1000000 := by rw [List.length_singleton]; omega
        walk_at "go2"
        have lkv : (fwKV st).length = st.1.length := List.length_map _
        refine ⟨_, Sum.inl ((e.1.getD i 0 : Nat) : Int), e5d, rfl, szlt (by rw [lkv]; omega), fun u hu' => ?_, fun hn => ?_⟩
        · have cc : e.1.getD i 0 ∈ st.1 := by
            by_cases cc : e.1.getD i 0 ∈ st.1
            · exact cc
            · rw [nKV_none cc] at hu'
              cases hu'
          refine ⟨_, rfl, s5, ?_⟩
          rw [nx]
          unfold stW
          rw [if_pos cc]
          exact e5d
        · have cc : ¬ e.1.getD i 0 ∈ st.1 := fun cc => by rw [nKV_some cc] at hn; cases hn
          refine ⟨_, rfl, fun b o hb => ?_, ?_⟩
          · rw [upd_ne (ne_of_none hb hd)]
            exact s5 _ _ hb
          · rw [setd_upd74 cc, nx]
            unfold stW
            rw [if_neg cc]
            refine congrArg (fun z => some (HO.dK z)) ?_
            refine congrArg (nKV (st.1 ++ [e.1.getD i 0])) (funext fun y => ?_)
            show (if y = e.1.getD i 0 then _ else _) = V.str (tx (if y = e.1.getD i 0 then _ else _))
            split <;> rfl
      · rintro σ H4 ⟨x4, rfl, s4, e4d⟩
        refine ⟨_, rfl, _, _, rfl, rfl, ?_⟩
        refine ⟨M', Nat.lt_succ_self _, i + 1, _, by omega, rfl, s4, ?_⟩
        rw [e4d, fwW_succ, List.take_of_length_le (by rw [List.length_zip]; omega)]
    · walk_at "go2"
      have him : i = m := by
        refine Classical.byContradiction fun z => ?_
        exact cc (by have := fi.more (by omega); omega)
      subst him
      refine ⟨_, _, rfl, s2, ?_⟩
      rw [e2d]
      show some (HO.dK (nKV (fwW (List.zip ks TT) i).1 _)) = _
      rw [fw_all knd fl]
      rfl
  rintro σ H2 ⟨x3, x4, rfl, s2, e2d⟩
  walk_at "go2"
  exact k d H2 hd s2 e2d
end
end
section
open PySem PySem.Spec L2
theorem dec_int74 {a b : Nat} : decide (V.int ((a : Nat) : Int) = V.int ((b : Nat) : Int)) = decide (a = b) := by
  refine decide_eq_decide.mpr ⟨fun h => ?_, fun h => by rw [h]⟩
  injection h with h
  omega
theorem strsV_len74 (ps : List (List Nat)) : (strsV ps).length = ps.length := by unfold strsV; rw [List.length_map]
theorem getD_memL {ls : List (List Nat)} {k : Nat} (h : k < ls.length) : ls.getD k [] ∈ ls := by
  rw [List.getD_eq_getElem?_getD, List.getElem?_eq_getElem h]
  exact List.getElem_mem h
structure Txt74 (K : PySem.W.Frag) (mg : Str → Option Value) (C R O CL : Addr) : Prop extends TxtSc K mg C R O CL where
  max : mg "max" = none
theorem un74 {A : Around} {k : Nat} (hr : L2.Room k A) : A.units + 65 < cLine := by have := hr.un; omega
theorem fil_range74 {α : Type} (ls : List (List Nat)) (p : List Nat → Bool) (g : List Nat → α) : ((List.range ls.length).filter fun k => p (ls.getD k [])).map (fun k => g (ls.getD k [])) = (ls.filter p).map g := by
  have e : (List.range ls.length).map (fun k => ls.getD k []) = ls := by
    refine List.ext_getElem (by simp) fun i h1 h2 => ?_
    rw [List.getElem_map, List.getElem_range, List.getD_eq_getElem?_getD, List.getElem?_eq_getElem h2]
    rfl
  have key : (((List.range ls.length).map fun k => ls.getD k []).filter p).map g = (ls.filter p).map g := by rw [e]
  rw [← key, List.filter_map, List.map_map]
  rfl
theorem foldmax74 : ∀ (ns : List Int) (i : Int), i ≤ ns.foldl max i ∧ (∀ n ∈ ns, n ≤ ns.foldl max i) ∧ (∀ B, i ≤ B → (∀ n ∈ ns, n ≤ B) → ns.foldl max i ≤ B)
  | [], i => ⟨Int.le_refl _, fun _ h => (List.not_mem_nil h).elim, fun B h _ => h⟩
  | n :: r, i => by
    obtain ⟨h1, h2, h3⟩ := foldmax74 r (max i n)
    have a1 : i ≤ max i n := Int.le_max_left ..
    have a2 : n ≤ max i n := Int.le_max_right ..
    refine ⟨Int.le_trans a1 h1, fun m hm => ?_, fun B hi hn => h3 B (Int.max_le.mpr ⟨hi, hn n (List.mem_cons_self ..)⟩) fun m hm => hn m (List.mem_cons_of_mem _ hm)⟩
    rcases List.mem_cons.mp hm with rfl | hm
    · exact Int.le_trans a2 h1
    · exact h2 m hm
theorem most74 {ls : List (List Nat)} {B : Nat} (h : ∀ l ∈ ls, l.length ≤ B) : ∃ M : Nat, maxOr 0 (ls.map fun l => ((l.length : Nat) : Int)) = ((M : Nat) : Int) ∧ M ≤ B ∧ ∀ l ∈ ls, l.length ≤ M := by
  cases ls with
  | nil => exact ⟨0, rfl, Nat.zero_le _, fun l hl => (List.not_mem_nil hl).elim⟩
  | cons a r =>
    obtain ⟨h1, h2, h3⟩ := foldmax74 (r.map fun l => ((l.length : Nat) : Int)) ((a.length : Nat) : Int)
    have e : maxOr 0 ((a :: r).map fun l => ((l.length : Nat) : Int)) = (r.map fun l => ((l.length : Nat) : Int)).foldl max ((a.length : Nat) : Int) := rfl
    have hB : (r.map fun l => ((l.length : Nat) : Int)).foldl max ((a.length : Nat) : Int) ≤ ((B : Nat) : Int) := h3 _ (by have := h a (List.mem_cons_self ..); omega) fun n hn => by
      obtain ⟨l, hl, rfl⟩ := List.mem_map.mp hn
      have := h l (List.mem_cons_of_mem _ hl)
      omega
    refine ⟨((r.map fun l => ((l.length : Nat) : Int)).foldl max ((a.length : Nat) : Int)).toNat, by rw [e]; omega, by omega, fun l hl => ?_⟩
    rcases List.mem_cons.mp hl with rfl | hl
    · omega
    · have := h2 _ (List.mem_map.mpr ⟨l, hl, rfl⟩)
      omega
/-- the texts of less than j letters, in order -/
structure Short74 (ls : List (List Nat)) (j : Nat) (F : List (List Nat)) : Prop where
  pm : F.Perm (ls.filter fun l => decide (l.length < j))
  pw : F.Pairwise shortLe
theorem Short74.step {ls F ws : List (List Nat)} {j : Nat} (h : Short74 ls j F) (p : ws.Perm (ls.filter fun l => decide (l.length = j))) (w : ws.Pairwise fun a b => ¬ b < a) : Short74 ls (j + 1) (F ++ ws) := by
  have lw : ∀ x ∈ ws, x.length = j := fun x hx => of_decide_eq_true (List.mem_filter.mp (p.subset hx)).2
  refine ⟨?_, List.pairwise_append.mpr ⟨h.pw, ?_, fun a ha b hb => .inl ?_⟩⟩
  · refine (h.pm.append p).trans ?_
    have z := List.filter_append_perm (fun l : List Nat => decide (l.length < j)) (ls.filter fun l => decide (l.length < j + 1))
    rw [List.filter_filter, List.filter_filter] at z
    have e1 : (ls.filter fun l => decide (l.length < j)) = ls.filter fun a => decide (a.length < j) && decide (a.length < j + 1) := by
      refine List.filter_congr fun x _ => ?_
      by_cases c : x.length < j
      · rw [decide_eq_true c, decide_eq_true (show x.length < j + 1 by omega)]; rfl
      · rw [decide_eq_false c]; rfl
    have e2 : (ls.filter fun l => decide (l.length = j)) = ls.filter fun a => (!decide (a.length < j)) && decide (a.length < j + 1) := by
      refine List.filter_congr fun x _ => ?_
      by_cases c : x.length = j
      · rw [decide_eq_true c, decide_eq_false (show ¬ x.length < j by omega), decide_eq_true (show x.length < j + 1 by omega)]; rfl
      · rw [decide_eq_false c]
        by_cases d : x.length < j
        · rw [decide_eq_true d]; rfl
        · rw [decide_eq_false (show ¬ x.length < j + 1 by omega), Bool.and_false]
    rw [e1, e2]
    exact z
  · refine w.imp_of_mem fun {a b} ha hb z => .inr ⟨by rw [lw a ha, lw b hb], z⟩
  · rw [lw b hb]
    exact of_decide_eq_true (List.mem_filter.mp (h.pm.subset ha)).2
theorem Short74.all {ls F : List (List Nat)} {M : Nat} (h : Short74 ls (M + 1) F) (m : ∀ l ∈ ls, l.length ≤ M) : F.Perm ls ∧ F.Pairwise shortLe := by
  refine ⟨h.pm.trans (List.Perm.of_eq (List.filter_eq_self.mpr fun x hx => ?_)), h.pw⟩
  have := m x hx
  exact decide_eq_true (by omega)
/-- such lists are one -/
theorem short_uniq74 : ∀ {a b : List (List Nat)}, a.Perm b → a.Pairwise shortLe → b.Pairwise shortLe → a = b := by
  have anti : ∀ {x y : List Nat}, shortLe x y → shortLe y x → x = y := fun {x y} h1 h2 => by
    rcases h1 with h1 | ⟨h1, h3⟩ <;> rcases h2 with h2 | ⟨h2, h4⟩
    · omega
    · omega
    · omega
    · exact List.le_antisymm (List.not_lt.mp h3) (List.not_lt.mp h4)
  intro a b p ha hb
  exact p.eq_of_pairwise (fun x y _ _ => anti) ha hb
def spShort74 : Sp := fun vs H Q _ => ∃ (a : Addr) (ls : List (List Nat)), vs = [.ref a] ∧ H a = some (.lst (strsV ls)) ∧ ls.length ≤ 4000 ∧ (∀ l ∈ ls, l.length ≤ 4000) ∧
  ∀ r p H', r.Perm ls → r.Pairwise shortLe → H p = none → Same H H' → H' p = some (.lst (strsV r)) → Q (.ref p) H'
section
variable {P : Program} {w : World} {K : PySem.W.Frag} {mg : Str → Option Value} {base : Heap} {C R O CL : Addr}
abbrev stshort74 : Stmt := (top 45)
abbrev Nshort74 : List Str := ["names", "most", "found", "length", "name"]
theorem scshort74 : FnScope Nshort74 ["names"] (defScope stshort74) := ⟨rfl, rfl, rfl, by decide +kernel, rfl, by decide +kernel, by decide +kernel⟩

theorem ok_short74 (F : FnAt K mg "short_first" stshort74) (T : Txt74 K mg C R O CL) : Def P w K mg base CX0 1 "short_first" ["names"] spShort74 := by
  refine F.ok scshort74 (fun _ _ _ _ _ _ us hl => match us, hl with | [_], _ => rfl) (fun vs H Q E h => ?_) (fun f cdv A outer s H vs Q E hr h => ?_)
  · obtain ⟨a, ls, rfl, _⟩ := h
    rfl
  obtain ⟨a, ls, rfl, ea, hn, hl, k⟩ := h
  have hu := hu_of hr
  have nd := scshort74.nd
  refine ⟨_, (pss_cons (ps_set (i := 1) nd rfl (Or.inl rfl) (pe_maxD (K := K) rfl (by rfl) T.max (un74 hr) rfl (pa_cons (pe_lc (own := [("name", 4)]) (g := gName 4) (by rfl) nd (pi_listK (K := K) rfl (pv 0)) (blkOk_by (own := [("name", 4)]) (N := Nshort74) (sc := defScope stshort74) (by decide +kernel)) (fun _ _ _ _ _ => (pg_name (i := 4) nd rfl (Or.inl rfl))) (fun _ _ _ _ _ => pts_nil) (fun _ _ _ _ _ => (pe_callB c_lenS (by rfl) T.len PySem.boot_len (pa_cons (pv 4) pa_nil)))) pa_nil)))
      (pss_cons (ps_set (i := 2) nd rfl (Or.inl rfl) (pe_lst pa_nil))
      (pss_cons (ps_for PassesOwn.never rfl (pi_range1 (by rfl) T.range (pa_cons (pe_op op_add (pv 1) pe_int) pa_nil)) (pg_name (i := 3) nd rfl (Or.inr rfl))
      (pss_one (ps_expr (pe_extK (K := K) rfl (pv 2) (pe_callB (cr_sortedTK (K := K) rfl) (by rfl) T.sorted (by decide +kernel) (pa_cons (pe_lc (own := [("name", 4)]) (g := gName 4) (by rfl) nd (pi_listK (K := K) rfl (pv 0)) (blkOk_by (own := [("name", 4)]) (N := Nshort74) (sc := defScope stshort74) (by decide +kernel)) (fun _ _ _ _ _ => (pg_name (i := 4) nd rfl (Or.inl rfl))) (fun _ _ _ _ _ => (pts_one (pt_cmpR op_eq (pe_callB c_lenS (by rfl) T.len PySem.boot_len (pa_cons (pv 4) pa_nil)) (pv 3) (nomark _)))) (fun _ _ _ _ _ => (pe_callTy c_strS (by rfl) T.str (by decide +kernel) (pa_cons (pv 4) pa_nil)))) pa_nil))))))
      (pss_one (ps_ret (pv 2)))))), ?_⟩
  refine s_start [some _, none, none, none, none] rfl ?_
  walk_at "go2"
  refine e_maxD ?_
  walk_at "go2"
  refine lc_gen (n := ls.length) (b := fun _ => true) (it := fun k => .str (tx (ls.getD k []))) (f := fun k => .int (((ls.getD k []).length : Nat) : Int)) walk_strL71 (fun H' s' => SqL.of (s' _ _ ea)) (by omega) (fun k hk Ha sa R' r' => ?_) (fun k hk _ Ha sa R' r' => ?_) (fun D H1 hD s1 e1 => ?_)
  · exact e_yes (r' Ha (Same.refl _))
  · have hl := hl _ (getD_memL hk)
    walk_at "go2"
    exact r' Ha (Same.refl _)
  walk_at "go2"
  have ef : ((List.range ls.length).filter fun _ => true).map (fun k => V.int (((ls.getD k []).length : Nat) : Int)) = (ls.map fun l => ((l.length : Nat) : Int)).map V.int := by
    rw [fil_range74 ls (fun _ => true) fun l => V.int ((l.length : Nat) : Int), List.map_map, List.filter_eq_self.mpr fun _ _ => rfl]
    rfl
  rw [ef] at e1
  obtain ⟨M, eM, M4, hM⟩ := most74 hl
  refine ⟨D, _, rfl, SqL.of e1, ?_⟩
  rw [eM]
  clear e1 ef hD
  walk_at "go2"
  intro d H2 hd s12 e2
  have s2 : Same H H2 := s1.trans s12
  have hd0 : H d = none := by
    cases z : H d with
    | none => rfl
    | some o => rw [s1 _ _ z] at hd; cases hd
  clear s1 hd s12
  walk_at "go2"
  refine for_it (walk_rI (fun i => ((i : Nat) : Int)) (fun k => Int.zero_add _)) (fun i σ H' => ∃ x3 G, σ = [some (.ref a), some (.int ((M : Nat) : Int)), some (.ref d), x3, none] ∧ Same H H' ∧ H' d = some (.lst (strsV G)) ∧ Short74 ls i G) ⟨_, [], rfl, s2, e2, ⟨List.Perm.of_eq (List.filter_eq_nil_iff.mpr fun x _ => by simp).symm, List.Pairwise.nil⟩⟩ (fun _ _ _ _ _ => trivial) ?_ ?_
  · rintro j v σ H3 H4 hj ⟨x3, G, rfl, s3, e3, sg⟩ ⟨rfl, rfl⟩
    have lG : G.length ≤ 4000 := by
      rw [sg.pm.length_eq]
      exact Nat.le_trans (List.length_filter_le _ _) hn
    walk_at "go2"
    refine lc_gen (n := ls.length) (b := fun k => decide ((ls.getD k []).length = j)) (it := fun k => .str (tx (ls.getD k []))) (f := fun k => .str (tx (ls.getD k []))) walk_strL71 (fun H' s' => SqL.of (s' _ _ (s3 _ _ ea))) (by omega) (fun k hk Ha sa R' r' => ?_) (fun k hk _ Ha sa R' r' => ?_) (fun D2 H5 hD2 s5 e5 => ?_)
    · have hl := hl _ (getD_memL hk)
      walk_at "go2"
      show R' (decide (V.int (((ls.getD k []).length : Nat) : Int) = V.int ((j : Nat) : Int))) Ha
      rw [dec_int74]
      exact r' Ha (Same.refl _)
    · walk_at "go2"
      exact v_strS (r' Ha (Same.refl _))
    · rw [fil_range74 ls (fun l => decide (l.length = j)) fun l => V.str (tx l)] at e5
      walk_at "go2"
      refine ⟨D2, _, rfl, SqL.of e5, fun ws p pm pw hp => ?_⟩
      have s6 : Same H4 (upd H5 p (.lst (strsV ws))) := s5.trans (Same.new hp)
      have e6 : upd H5 p (.lst (strsV ws)) p = some (.lst (strsV ws)) := upd_same
      walk_at "go2"
      have lw : ws.length ≤ 4000 := by
        rw [pm.length_eq]
        exact Nat.le_trans (List.length_filter_le _ _) hn
      have e4 := s5 _ _ e3
      refine ⟨d, p, strsV G, strsV ws, rfl, rfl, (by rw [upd_ne (ne_of_none e4 hp)]; exact e4), e6, by rw [strsV_len74, strsV_len74]; exact Nat.le_of_lt (szlt (by omega)), ?_⟩
      refine ⟨_, G ++ ws, rfl, fun b o hb => ?_, ?_, sg.step pm pw⟩
      · rw [upd_ne (ne_of_none hb hd0)]
        exact s6 _ _ (s3 _ _ hb)
      · rw [upd_same]
        show _ = some (HO.lst ((G ++ ws).map _))
        rw [List.map_append]
  · rintro σ H3 ⟨x3, G, rfl, s3, e3, sg⟩
    walk_at "go2"
    obtain ⟨r1, r2⟩ := sg.all hM
    exact k G d H3 r1 r2 hd0 s3 e3
abbrev stlshort74 : Stmt := (top 68)
abbrev Nlshort74 : List Str := ["_law_names", "_law_most", "_law_found", "_law_length", "_law_name_here"]
theorem sclshort74 : FnScope Nlshort74 ["_law_names"] (defScope stlshort74) := ⟨rfl, rfl, rfl, by decide +kernel, rfl, by decide +kernel, by decide +kernel⟩

theorem ok_lshort74 (F : FnAt K mg "_law_by_length" stlshort74) (T : Txt74 K mg C R O CL) : Def P w K mg base CX0 1 "_law_by_length" ["_law_names"] spShort74 := by
  refine F.ok sclshort74 (fun _ _ _ _ _ _ us hl => match us, hl with | [_], _ => rfl) (fun vs H Q E h => ?_) (fun f cdv A outer s H vs Q E hr h => ?_)
  · obtain ⟨a, ls, rfl, _⟩ := h
    rfl
  obtain ⟨a, ls, rfl, ea, hn, hl, k⟩ := h
  have hu := hu_of hr
  have nd := sclshort74.nd
  refine ⟨_, (pss_cons (ps_par (i := 1) (j := 2) (by rfl) nd rfl rfl (by decide) rfl rfl (pa_cons (pe_maxD (K := K) rfl (by rfl) T.max (un74 hr) rfl (pa_cons (pe_lc (own := [("_law_name_here", 4)]) (g := gName 4) (by rfl) nd (pi_listK (K := K) rfl (pv 0)) (blkOk_by (own := [("_law_name_here", 4)]) (N := Nlshort74) (sc := defScope stlshort74) (by decide +kernel)) (fun _ _ _ _ _ => (pg_name (i := 4) nd rfl (Or.inl rfl))) (fun _ _ _ _ _ => pts_nil) (fun _ _ _ _ _ => (pe_callB c_lenS (by rfl) T.len PySem.boot_len (pa_cons (pv 4) pa_nil)))) pa_nil)) (pa_cons (pe_lst pa_nil) pa_nil)) (by rfl))
      (pss_cons (ps_for PassesOwn.never rfl (pi_range1 (by rfl) T.range (pa_cons (pe_op op_add (pv 1) pe_int) pa_nil)) (pg_name (i := 3) nd rfl (Or.inr rfl))
      (pss_one (ps_set (i := 2) nd rfl (Or.inl rfl) (pe_op op_cat1 (pv 2) (pe_callB (cr_sortedTK (K := K) rfl) (by rfl) T.sorted (by decide +kernel) (pa_cons (pe_lc (own := [("_law_name_here", 4)]) (g := gName 4) (by rfl) nd (pi_listK (K := K) rfl (pv 0)) (blkOk_by (own := [("_law_name_here", 4)]) (N := Nlshort74) (sc := defScope stlshort74) (by decide +kernel)) (fun _ _ _ _ _ => (pg_name (i := 4) nd rfl (Or.inl rfl))) (fun _ _ _ _ _ => (pts_one (pt_cmpR op_eq (pe_callB c_lenS (by rfl) T.len PySem.boot_len (pa_cons (pv 4) pa_nil)) (pv 3) (nomark _)))) (fun _ _ _ _ _ => (pe_callTy c_strS (by rfl) T.str (by decide +kernel) (pa_cons (pv 4) pa_nil)))) pa_nil))))))
      (pss_one (ps_ret (pv 2))))), ?_⟩
  refine s_start [some _, none, none, none, none] rfl ?_
  walk_at "go2"
  refine e_maxD ?_
  walk_at "go2"
  refine lc_gen (n := ls.length) (b := fun _ => true) (it := fun k => .str (tx (ls.getD k []))) (f := fun k => .int (((ls.getD k []).length : Nat) : Int)) walk_strL71 (fun H' s' => SqL.of (s' _ _ ea)) (by omega) (fun k hk Ha sa R' r' => ?_) (fun k hk _ Ha sa R' r' => ?_) (fun D H1 hD s1 e1 => ?_)
  · exact e_yes (r' Ha (Same.refl _))
  · have hl := hl _ (getD_memL hk)
    walk_at "go2"
    exact r' Ha (Same.refl _)
  walk_at "go2"
  have ef : ((List.range ls.length).filter fun _ => true).map (fun k => V.int (((ls.getD k []).length : Nat) : Int)) = (ls.map fun l => ((l.length : Nat) : Int)).map V.int := by
    rw [fil_range74 ls (fun _ => true) fun l => V.int ((l.length : Nat) : Int), List.map_map, List.filter_eq_self.mpr fun _ _ => rfl]
    rfl
  rw [ef] at e1
  obtain ⟨M, eM, M4, hM⟩ := most74 hl
  refine ⟨D, _, rfl, SqL.of e1, ?_⟩
  rw [eM]
  clear e1 ef hD
  walk_at "go2"
  intro d H2 hd s12 e2
  have s2 : Same H H2 := s1.trans s12
  have hd0 : H d = none := by
    cases z : H d with
    | none => rfl
    | some o => rw [s1 _ _ z] at hd; cases hd
  clear s1 hd s12
  walk_at "go2"
  refine for_it (walk_rI (fun i => ((i : Nat) : Int)) (fun k => Int.zero_add _)) (fun i σ H' => ∃ d x3 G, σ = [some (.ref a), some (.int ((M : Nat) : Int)), some (.ref d), x3, none] ∧ H d = none ∧ Same H H' ∧ H' d = some (.lst (strsV G)) ∧ Short74 ls i G) ⟨d, _, [], rfl, hd0, s2, e2, ⟨List.Perm.of_eq (List.filter_eq_nil_iff.mpr fun x _ => by simp).symm, List.Pairwise.nil⟩⟩ (fun _ _ _ _ _ => trivial) ?_ ?_
  · rintro j v σ H3 H4 hj ⟨d, x3, G, rfl, hd0, s3, e3, sg⟩ ⟨rfl, rfl⟩
    have lG : G.length ≤ 4000 := by
      rw [sg.pm.length_eq]
      exact Nat.le_trans (List.length_filter_le _ _) hn
    walk_at "go2"
    refine lc_gen (n := ls.length) (b := fun k => decide ((ls.getD k []).length = j)) (it := fun k => .str (tx (ls.getD k []))) (f := fun k => .str (tx (ls.getD k []))) walk_strL71 (fun H' s' => SqL.of (s' _ _ (s3 _ _ ea))) (by omega) (fun k hk Ha sa R' r' => ?_) (fun k hk _ Ha sa R' r' => ?_) (fun D2 H5 hD2 s5 e5 => ?_)
    · have hl := hl _ (getD_memL hk)
      walk_at "go2"
      show R' (decide (V.int (((ls.getD k []).length : Nat) : Int) = V.int ((j : Nat) : Int))) Ha
      rw [dec_int74]
      exact r' Ha (Same.refl _)
    · walk_at "go2"
      exact v_strS (r' Ha (Same.refl _))
    · rw [fil_range74 ls (fun l => decide (l.length = j)) fun l => V.str (tx l)] at e5
      walk_at "go2"
      refine ⟨D2, _, rfl, SqL.of e5, fun ws p pm pw hp => ?_⟩
      have s6 : Same H4 (upd H5 p (.lst (strsV ws))) := s5.trans (Same.new hp)
      have e6 : upd H5 p (.lst (strsV ws)) p = some (.lst (strsV ws)) := upd_same
      walk_at "go2"
      have lw : ws.length ≤ 4000 := by
        rw [pm.length_eq]
        exact Nat.le_trans (List.length_filter_le _ _) hn
      have e4 := s5 _ _ e3
      have e4' : upd H5 p (.lst (strsV ws)) d = some (.lst (strsV G)) := by rw [upd_ne (ne_of_none e4 hp)]; exact e4
      refine ⟨d, p, strsV G, strsV ws, rfl, rfl, e4', e6, by rw [strsV_len74, strsV_len74]; exact Nat.le_of_lt (szlt (by omega)), fun p2 hp2 => ?_⟩
      have hn2 : H p2 = none := by
        cases z : H p2 with
        | none => rfl
        | some o => rw [s6 _ _ (s3 _ _ z)] at hp2; cases hp2
      refine ⟨p2, _, G ++ ws, rfl, hn2, (s3.trans s6).trans (Same.new hp2), ?_, sg.step pm pw⟩
      rw [upd_same]
      show _ = some (HO.lst ((G ++ ws).map _))
      rw [List.map_append]
  · rintro σ H3 ⟨d, x3, G, rfl, hd0, s3, e3, sg⟩
    walk_at "go2"
    obtain ⟨r1, r2⟩ := sg.all hM
    exact k G d H3 r1 r2 hd0 s3 e3
end
end
section
open PySem PySem.Spec L2
abbrev tKV74 (l : List (List Nat)) : List (Key × V) := l.map fun w => ((Sum.inr (tx w) : Key), V.bl true)
def putT74 (l : List (List Nat)) (w : List Nat) : List (List Nat) := if w ∈ l then l else l ++ [w]
def dd74 (ls : List (List Nat)) : List (List Nat) := ls.foldl putT74 []
theorem dd74_snoc {ls : List (List Nat)} {w : List Nat} : dd74 (ls ++ [w]) = putT74 (dd74 ls) w := by
  unfold dd74
  rw [List.foldl_append]
  rfl
theorem putT74_mem {l : List (List Nat)} {w x : List Nat} : x ∈ putT74 l w ↔ x ∈ l ∨ x = w := by
  unfold putT74
  split
  · rename_i h
    exact ⟨.inl, fun z => z.elim id fun e => e ▸ h⟩
  · rw [List.mem_append, List.mem_singleton]
theorem putT74_len {l : List (List Nat)} {w : List Nat} : (putT74 l w).length ≤ l.length + 1 := by
  unfold putT74
  split
  · omega
  · rw [List.length_append, List.length_singleton]
    omega
theorem dd74_all : ∀ (ls l : List (List Nat)), (∀ x, x ∈ ls.foldl putT74 l ↔ x ∈ l ∨ x ∈ ls) ∧ (ls.foldl putT74 l).length ≤ l.length + ls.length
  | [], l => ⟨fun x => by simp, by simp⟩
  | w :: r, l => by
    obtain ⟨h1, h2⟩ := dd74_all r (putT74 l w)
    have := putT74_len (l := l) (w := w)
    refine ⟨fun x => ?_, by rw [List.foldl_cons, List.length_cons]; omega⟩
    rw [List.foldl_cons, h1, putT74_mem, List.mem_cons]
    exact or_assoc
theorem dd74_mem {ls : List (List Nat)} {x : List Nat} : x ∈ dd74 ls ↔ x ∈ ls := by
  have := (dd74_all ls []).1 x
  unfold dd74
  simpa using this
theorem dd74_len {ls : List (List Nat)} : (dd74 ls).length ≤ ls.length := by
  have := (dd74_all ls []).2
  unfold dd74
  simpa using this
theorem putK_t74 {l : List (List Nat)} {w : List Nat} : putK (tKV74 l) (Sum.inr (tx w) : Key) (V.bl true) = tKV74 (putT74 l w) := by
  have e : ((tKV74 l).any fun kv => decide (kv.1 = (Sum.inr (tx w) : Key))) = decide (w ∈ l) := by
    rw [Bool.eq_iff_iff, List.any_eq_true, decide_eq_true_iff]
    constructor
    · rintro ⟨kv, h1, h2⟩
      obtain ⟨x, hx, rfl⟩ := List.mem_map.mp h1
      rw [key_tx.mp (of_decide_eq_true h2)] at hx
      exact hx
    · intro h
      exact ⟨_, List.mem_map.mpr ⟨w, h, rfl⟩, decide_eq_true rfl⟩
  unfold putK putT74
  rw [e]
  by_cases c : w ∈ l
  · rw [if_pos (decide_eq_true c), if_pos c, List.map_map]
    refine List.map_congr_left fun x _ => ?_
    show (if (Sum.inr (tx x) : Key) = Sum.inr (tx w) then ((Sum.inr (tx x) : Key), V.bl true) else _) = _
    split <;> rfl
  · rw [if_neg (by rw [decide_eq_false c]; exact Bool.false_ne_true), if_neg c]
    unfold tKV74
    rw [List.map_append]
    rfl
theorem dropK_t74 {l : List (List Nat)} : dropK (tKV74 l) (Sum.inr (tx []) : Key) = tKV74 (l.filter fun w => decide (w ≠ [])) := by
  unfold dropK
  rw [List.filter_map]
  refine congrArg _ (List.filter_congr fun x _ => ?_)
  refine decide_eq_decide.mpr (not_congr ?_)
  exact key_tx
/-- the way through place p's door of kind k -/
def wy74 (ks : List Nat) (ps T : List (List Nat)) (m p k : Nat) : List Nat := joinOf ks ps [] (fw ks T m p ++ [k] ++ (fw ks T m ((rowK ks T k).getD p 0)).reverse)
def pre74 (ks : List Nat) (ps T : List (List Nat)) (m i : Nat) : List (List Nat) := (List.range i).flatMap fun p => ks.map (wy74 ks ps T m p)
theorem pre74_succ {ks : List Nat} {ps T : List (List Nat)} {m i : Nat} : pre74 ks ps T m (i + 1) = pre74 ks ps T m i ++ ks.map (wy74 ks ps T m i) := by
  unfold pre74
  rw [List.range_succ, List.flatMap_append]
  simp
theorem pre74_len {ks : List Nat} {ps T : List (List Nat)} {m : Nat} : ∀ i, (pre74 ks ps T m i).length = i * ks.length
  | 0 => by simp [pre74]
  | i + 1 => by rw [pre74_succ, List.length_append, pre74_len i, List.length_map, Nat.succ_mul]
theorem wy74_len {ks : List Nat} {ps T : List (List Nat)} {m p k : Nat} (knd : ks.Nodup) (fl : Flo ks ps T m) (hp : p < m) (hk : k ∈ ks) : (wy74 ks ps T m p k).length ≤ 2 * m := by
  unfold wy74
  have h1 := (fw_is knd fl hp).2.2
  have hr : (rowK ks T k).getD p 0 < m := fl.good.ok.get (rowK_mem fl.good.lT hk) hp
  have h2 := (fw_is knd fl hr).2.2
  have := joinOf_len ks ps (fw ks T m p ++ [k] ++ (fw ks T m ((rowK ks T k).getD p 0)).reverse) []
  simp only [List.length_append, List.length_reverse, List.length_cons, List.length_nil] at this
  omega
theorem pre74_mem {ks : List Nat} {ps T : List (List Nat)} {m i : Nat} {w : List Nat} : w ∈ pre74 ks ps T m i ↔ ∃ p, p < i ∧ ∃ k, k ∈ ks ∧ w = wy74 ks ps T m p k := by
  unfold pre74
  rw [List.mem_flatMap]
  constructor
  · rintro ⟨p, hp, hw⟩
    obtain ⟨k, hk, rfl⟩ := List.mem_map.mp hw
    exact ⟨p, List.mem_range.mp hp, k, hk, rfl⟩
  · rintro ⟨p, hp, k, hk, rfl⟩
    exact ⟨p, List.mem_range.mpr hp, List.mem_map.mpr ⟨k, hk, rfl⟩⟩
theorem fwl_at74 {f : Nat → List Nat} {m p : Nat} (h : p < m) : (strsV ((List.range m).map f))[p]? = some (V.str (tx (f p))) := by
  unfold strsV
  rw [List.getElem?_map, List.getElem?_map, List.getElem?_range h]
  rfl
theorem range_ones74 (l : List Nat) : ((List.range l.length).filter fun _ => true).map (fun k => V.str (tx [l.getD k 0])) = (l.map fun c => [c]).map fun l => V.str (tx l) := by
  rw [filter_yes, List.map_map]
  refine List.ext_getElem (by simp) fun i h1 h2 => ?_
  rw [List.length_map, List.length_range] at h1
  rw [List.getElem_map, List.getElem_map, List.getElem_range, List.getD_eq_getElem?_getD, List.getElem?_eq_getElem h1]
  rfl
theorem ne_text74 {a b : List Nat} : (!decide (V.str (tx a) = V.str (tx b))) = decide (a ≠ b) := by
  by_cases c : a = b
  · subst c
    simp
  · rw [decide_eq_true c, decide_eq_false fun z => c (tx_inj.mp (V.str.inj z))]
    rfl
def spWays74 (C CL : Addr) : Sp := fun vs H Q _ => ∃ (c x : Addr) (ks : List Nat) (ps T : List (List Nat)) (m : Nat), vs = [.ref c] ∧ ClosedAt CL H c x T m ∧ PlanAt C H x ks ps ∧ Flo ks ps T m ∧ ks.Nodup ∧ ks.length ≤ 8 ∧ m ≤ 100 ∧
  ∀ r t H', r.Perm ((dd74 (pre74 ks ps T m m)).filter fun w => decide (w ≠ [])) → r.Pairwise shortLe → H t = none → Same H H' → H' t = some (.tup (strsV r)) → Q (.ref t) H'
section
variable {P : Program} {w : World} {K : PySem.W.Frag} {mg : Str → Option Value} {base : Heap} {C R O CL : Addr}
abbrev stways74 : Stmt := (inClass (top 44) 15)
abbrev Nways74 : List Str := ["self", "first", "names", "place", "kind", "row", "back", "letter", "name"]
theorem scways74 : FnScope Nways74 ["self"] (defScope stways74) := ⟨rfl, rfl, rfl, by decide +kernel, rfl, by decide +kernel, by decide +kernel⟩

theorem ok_ways74 (F : MAt K CL "ways" "Closed.ways" stways74) (T : Txt74 K mg C R O CL) (M_Closed_len : MDef P w K mg base CX0 1 CL "__len__" ["self"] (spClLen CL)) (M_Closed_first_ways : MDef P w K mg base CX0 3 CL "first_ways" ["self"] (spFirstW74 C CL)) (C_Room : CDef P w K mg base CX0 3 "Room" R (spRoom C R)) (D_short_first : Def P w K mg base CX0 1 "short_first" ["names"] spShort74) : MDef P w K mg base CX0 5 CL "ways" ["self"] (spWays74 C CL) := by
  refine F.ok scways74 (fun _ _ _ _ _ _ us hl => match us, hl with | [_], _ => rfl) (fun vs H Q E h => ?_) (fun f cdv A outer s H vs Q E hr h => ?_)
  · obtain ⟨c, x, ks, ps, TT, m, rfl, _⟩ := h
    rfl
  obtain ⟨c, x, ks, ps, TT, m, rfl, hc, pl, fl, knd, k8, m100, k⟩ := h
  have hu := hu_of hr
  have nd := scways74.nd
  replace M_Closed_len := M_Closed_len.mono (show 1 ≤ 3 by decide)
  replace D_short_first := D_short_first.mono (show 1 ≤ 4 by decide)
  replace M_Closed_first_ways := M_Closed_first_ways.mono (show 3 ≤ 4 by decide)
  refine ⟨_, (pss_cons (ps_set (i := 1) nd rfl (Or.inl rfl) (pe_md0 M_Closed_first_ways T.Closed.cl hr pass0 (pv 0)))
      (pss_cons (ps_set (i := 2) nd rfl (Or.inl rfl) pe_dnewK)
      (pss_cons (ps_for PassesOwn.never rfl (pi_range1 (by rfl) T.range (pa_cons (pe_callB (c_lenM M_Closed_len hr pass0) (by rfl) T.len PySem.boot_len (pa_cons (pv 0) pa_nil)) pa_nil)) (pg_name (i := 3) nd rfl (Or.inl rfl))
      (pss_one (ps_for PassesOwn.never rfl (pi_zipS (by rfl) T.zip (pa_cons (pe_flK (K := K) rfl (pe_flK (K := K) rfl (pv 0) rfl) rfl) (pa_cons (pe_flK (K := K) rfl (pv 0) rfl) pa_nil))) (pg_tup rfl (pgs_cons (pg_name (i := 4) nd rfl (Or.inl rfl)) (pgs_cons (pg_name (i := 5) nd rfl (Or.inl rfl)) pgs_nil)))
        (pss_cons (ps_set (i := 6) nd rfl (Or.inl rfl) (pe_joinK (K := K) rfl (pe_tx [] (by decide +kernel)) (pe_lc (own := [("letter", 7)]) (g := gName 7) (by rfl) nd (pi_str (pe_revS (pe_ix (ix_LK (K := K) rfl) (pv 1) (pe_ix (ix_TK (K := K) rfl) (pv 5) (pv 3) (fun _ _ => rfl)) (fun _ _ => rfl)))) (blkOk_by (own := [("letter", 7)]) (N := Nways74) (sc := defScope stways74) (by decide +kernel)) (fun _ _ _ _ _ => (pg_name (i := 7) nd rfl (Or.inl rfl))) (fun _ _ _ _ _ => pts_nil) (fun _ _ _ _ _ => (pv 7)))))
          (pss_one (ps_dput hu (pv 2) (pe_flK (K := K) rfl (pe_mk C_Room hr pass0 (pa_cons (pe_flK (K := K) rfl (pv 0) rfl) (pa_cons (pe_op op_addS (pe_op op_addS (pe_ix (ix_LK (K := K) rfl) (pv 1) (pv 3) (fun _ _ => rfl)) (pv 4)) (pv 6)) pa_nil))) rfl) pe_bl rfl))))))
      (pss_one (ps_ret (pe_callTy (c_tupleK (K := K) rfl) (by rfl) T.tuple (by decide +kernel) (pa_cons (pe_lc (own := [("name", 8)]) (g := gName 8) (by rfl) nd (pi_listK (K := K) rfl (pe_cd D_short_first hr pass0 (pa_cons (pe_callTy (call_list_dK rfl) (by rfl) T.list (by decide +kernel) (pa_cons (pv 2) pa_nil)) pa_nil))) (blkOk_by (own := [("name", 8)]) (N := Nways74) (sc := defScope stways74) (by decide +kernel)) (fun _ _ _ _ _ => (pg_name (i := 8) nd rfl (Or.inl rfl))) (fun _ _ _ _ _ => (pts_one (pt_cmpR op_ne (pv 8) (pe_tx [] (by decide +kernel)) (nomark _)))) (fun _ _ _ _ _ => (pv 8))) pa_nil))))))), ?_⟩
  refine s_start [some _, none, none, none, none, none, none, none, none] rfl ?_
  walk_at "go2"
  obtain ⟨dx, fs, t, q0, e1, e2, e3, e4, e5, e6⟩ := hc.ex
  obtain ⟨dy, gs, n1, _, _, _, _, _, _, _, nfw, _⟩ := hc.no
  refine ⟨c, dy, gs, rfl, n1, nfw, ?_⟩
  walk_at "go2"
  refine ⟨c, x, ks, ps, TT, m, rfl, hc, pl, fl, knd, k8, m100, fun l0 H1 hl0 s1 el0 => ?_⟩
  walk_at "go2"
  intro d H2 hd s12 e2d
  have s2 : Same H H2 := s1.trans s12
  replace el0 := s12 _ _ el0
  have hd0 : H d = none := Same.free s1 hd
  obtain ⟨dp, tp, dq, a1, a2, a3⟩ := pl.ex
  obtain ⟨E, b1, b2, b3⟩ := e5.ex
  have lE : E.length = TT.length := by rw [← b1, List.length_map]
  have lT := fl.good.lT
  have lr : (refV E).length = E.length := List.length_map _
  obtain ⟨z1, z2⟩ := zip_rows knd lT
  clear s12 hd
  walk_at "go2"
  refine ⟨c, _, _, rfl, s2 _ _ e1, ⟨c, x, TT, m, rfl, hc.same s2, ⟨m, rfl, by omega, ?_⟩⟩⟩
  walk_at "go2"
  rw [Int.toNat_natCast]
  refine for_it (walk_rI (fun i => ((i : Nat) : Int)) (fun k => Int.zero_add _)) (fun i σ H' => ∃ y3 y4 y5 y6, σ = [some (.ref c), some (.ref l0), some (.ref d), y3, y4, y5, y6, none, none] ∧ Same H H' ∧ H' l0 = some (.lst (strsV ((List.range m).map (fw ks TT m)))) ∧ H' d = some (.dK (tKV74 (dd74 (pre74 ks ps TT m i))))) ⟨_, _, _, _, rfl, s2, el0, e2d⟩ (fun _ _ _ _ _ => trivial) ?_ ?_
  · rintro i v σ H2 H3 hi ⟨y3, y4, y5, y6, rfl, s3, e3l, e3d⟩ ⟨rfl, rfl⟩
    have hi : i < m := hi
    walk_at "go2"
    refine e_iZipS ?_
    walk_at "go2"
    refine v_fld (s3 _ _ e1) T.Closed.cl T.nQp e2 ?_
    walk_at "go2"
    refine v_fld (s3 _ _ a1) T.Plan.cl T.nK planF_k ?_
    walk_at "go2"
    refine v_fld (s3 _ _ e1) T.Closed.cl T.nQt e3 ?_
    walk_at "go2"
    refine ⟨tx ks, t, refV E, rfl, SqT.of (s3 _ _ b2), by rw [lr, lE, lT]; simp, ?_⟩
    refine for_it (walk_zipS (K := K) (a := t) (ks := ks) (xs := refV E)) (fun j σ H' => ∃ y4 y5 y6, σ = [some (.ref c), some (.ref l0), some (.ref d), some (.int ((i : Nat) : Int)), y4, y5, y6, none, none] ∧ Same H H' ∧ H' l0 = some (.lst (strsV ((List.range m).map (fw ks TT m)))) ∧ H' d = some (.dK (tKV74 (dd74 (pre74 ks ps TT m i ++ (ks.take j).map (wy74 ks ps TT m i)))))) ⟨_, _, _, rfl, s3, e3l, by rw [List.take_zero, List.map_nil, List.append_nil]; exact e3d⟩ (fun _ _ _ _ ⟨_, _, _, _, sH, _⟩ => sH _ _ b2) ?_ ?_
    · rintro j v σ H4 H5 hj ⟨y4, y5, y6, rfl, s4, e4l, e4d⟩ ⟨T0, c0, y, rfl, hT0, rfl, hcj, hy⟩
      rw [lr] at hj
      have he : E[j]? = some E[j] := List.getElem?_eq_getElem hj
      have hy0 : y = .ref E[j].2 := by
        rw [List.getElem?_map, he] at hy
        exact (Option.some.inj hy).symm
      subst hy0
      have em : E[j] ∈ E := List.getElem_mem hj
      have eT : TT[j]? = some E[j].1 := by rw [← b1, List.getElem?_map, he]; rfl
      generalize E[j] = e at em eT
      have hz : (List.zip ks TT)[j]? = some (c0, e.1) := by rw [List.getElem?_zip_eq_some]; exact ⟨hcj, eT⟩
      have ztk : ks.take (j + 1) = ks.take j ++ [c0] := by rw [List.take_succ, hcj]; rfl
      obtain ⟨k1, k2⟩ := z1 _ (List.mem_of_getElem? hz)
      have er := (fl.good.ok _ (List.mem_of_getElem? eT)).1
      refine v_gTup2 rfl upd_same ?_
      have s5 : Same H4 (upd H4 T0 (.tup [.str (tx [c0]), .ref e.2])) := Same.new hT0
      generalize upd H4 T0 (.tup [.str (tx [c0]), .ref e.2]) = H5 at s5
      have s45 := s4.trans s5
      have e5d := s5 _ _ e4d
      have e5l := s5 _ _ e4l
      have erow := s45 _ _ (b3 e em)
      have hq : e.1.getD i 0 < m := fl.good.ok.get (List.mem_of_getElem? eT) hi
      have f1 := fw_is knd fl hi
      have f2 := fw_is knd fl hq
      walk_at "go2"
      refine v_ixT erow (at_of (j := i) rfl (num_at (by rw [er]; exact hi))) ?_
      refine v_ixL e5l (at_of (j := e.1.getD i 0) rfl (fwl_at74 hq)) ?_
      refine ⟨_, rfl, by omega, _, rfl, ?_⟩
      refine lc_gen (n := (fw ks TT m (e.1.getD i 0)).reverse.length) (b := fun _ => true) (it := fun k => .str (tx [(fw ks TT m (e.1.getD i 0)).reverse.getD k 0])) (f := fun k => .str (tx [(fw ks TT m (e.1.getD i 0)).reverse.getD k 0])) (walk_tx _) (fun _ _ => trivial) (by rw [List.length_reverse]; omega) (fun j' hj' Ha sa R' rr => ?_) (fun j' hj' _ Ha sa R' rr => ?_) (fun D H6 hD s6 e6' => ?_)
      · exact e_yes (rr _ (Same.refl _))
      · walk_at "go2"
        exact rr _ (Same.refl _)
      rw [range_ones74] at e6'
      refine v_join e6' (by rw [flat_ones, List.length_reverse]; omega) ?_
      rw [flat_ones]
      have s46 := s45.trans s6
      replace e5d := s6 _ _ e5d
      replace e5l := s6 _ _ e5l
      clear e6' hD s6 erow
      walk_at "go2"
      refine v_fld (s46 _ _ e1) T.Closed.cl T.nQp e2 ?_
      walk_at "go2"
      refine v_ixL e5l (at_of (j := i) rfl (fwl_at74 hi)) ?_
      walk_at "go2"
      case c =>
        rw [List.length_append, List.length_reverse, List.length_singleton]
        omega
      have wl : (fw ks TT m i ++ [c0] ++ (fw ks TT m (e.1.getD i 0)).reverse).length ≤ 2000 := by
        rw [List.length_append, List.length_append, List.length_reverse, List.length_singleton]
        omega
      walk_at "go2"
      refine ⟨x, ks, ps, _, rfl, pl.same s46, fun z hz => ?_, wl, fun r H7 hr7 s7 ra => ?_⟩
      · rcases List.mem_append.mp hz with hz | hz
        · rcases List.mem_append.mp hz with hz | hz
          · exact f1.1 z hz
          · rw [List.mem_singleton.mp hz]
            exact k1
        · exact f2.1 z (List.mem_reverse.mp hz)
      have ew : joinOf ks ps [] (fw ks TT m i ++ [c0] ++ (fw ks TT m (e.1.getD i 0)).reverse) = wy74 ks ps TT m i c0 := by
        unfold wy74
        rw [k2]
      rw [ew] at ra
      walk_at "go2"
      have ll : (dd74 (pre74 ks ps TT m i ++ (ks.take j).map (wy74 ks ps TT m i))).length < 1000000 := by
        have h1 := dd74_len (ls := pre74 ks ps TT m i ++ (ks.take j).map (wy74 ks ps TT m i))
        rw [List.length_append, pre74_len, List.length_map, List.length_take] at h1
        have : i * ks.length ≤ 100 * 8 := Nat.mul_le_mul (by omega) k8
        omega
      have dp := DPut.k (k := Sum.inr (tx (wy74 ks ps TT m i c0))) (v := V.bl true) (s7 _ _ e5d) (szlt (by rw [List.length_map]; exact ll))
      obtain ⟨dxr, exr⟩ := ra.ex
      refine v_fld exr T.Room.cl T.nNm roomF_n ?_
      refine ⟨d, _, rfl, dp, ?_⟩
      refine ⟨_, _, _, rfl, fun b o hb => ?_, ?_, ?_⟩
      · rw [upd_ne (ne_of_none hb hd0)]
        exact s7 _ _ (s46 _ _ hb)
      · rw [upd_ne (ne_of (s7 _ _ e5l) (s7 _ _ e5d) (by intro z; cases z))]
        exact s7 _ _ e5l
      · rw [upd_same, putK_t74, ← dd74_snoc, ztk, List.map_append, ← List.append_assoc]
        rfl
    · rintro σ H4 ⟨y4, y5, y6, rfl, s4, e4l, e4d⟩
      walk_at "go2"
      refine ⟨_, _, _, _, rfl, s4, e4l, ?_⟩
      rw [e4d, pre74_succ, List.take_of_length_le (by rw [lr, lE, lT]; omega)]
  · rintro σ H2 ⟨y3, y4, y5, y6, rfl, s2, e2l, e2d⟩
    walk_at "go2"
    refine ⟨d, _, rfl, e2d, fun D hD => ?_⟩
    have eD : upd H2 D (.lst ((tKV74 (dd74 (pre74 ks ps TT m m))).map fun kv => kV kv.1)) D = some (.lst (strsV (dd74 (pre74 ks ps TT m m)))) := by
      rw [upd_same]
      unfold tKV74 strsV
      rw [List.map_map]
      rfl
    have s3 : Same H (upd H2 D (.lst ((tKV74 (dd74 (pre74 ks ps TT m m))).map fun kv => kV kv.1))) := s2.trans (Same.new hD)
    generalize upd H2 D (.lst ((tKV74 (dd74 (pre74 ks ps TT m m))).map fun kv => kV kv.1)) = H3 at eD s3 ⊢
    have lm : (dd74 (pre74 ks ps TT m m)).length ≤ 4000 := by
      have h1 := dd74_len (ls := pre74 ks ps TT m m)
      rw [pre74_len] at h1
      have : m * ks.length ≤ 100 * 8 := Nat.mul_le_mul m100 k8
      omega
    walk_at "go2"
    refine ⟨D, _, rfl, eD, lm, fun l hl => ?_, fun r p H4 pm pw hp s4 e4 => ?_⟩
    · obtain ⟨p, hp, k', hk, rfl⟩ := pre74_mem.mp (dd74_mem.mp hl)
      have := wy74_len (ps := ps) knd fl hp hk
      omega
    have lr : r.length ≤ 4000 := by rw [pm.length_eq]; exact lm
    walk_at "go2"
    refine lc_gen (n := r.length) (b := fun k => decide (r.getD k [] ≠ [])) (it := fun k => .str (tx (r.getD k []))) (f := fun k => .str (tx (r.getD k []))) walk_strL71 (fun H' s' => SqL.of (s' _ _ e4)) (by omega) (fun k' hk' Ha sa R' rr => ?_) (fun k' hk' _ Ha sa R' rr => ?_) (fun D5 H5 hD5 s5 e5' => ?_)
    · walk_at "go2"
      show R' (!decide (V.str (tx (r.getD k' [])) = V.str (tx []))) Ha
      rw [ne_text74]
      exact rr _ (Same.refl _)
    · walk_at "go2"
      exact rr _ (Same.refl _)
    rw [fil_range74 r (fun l => decide (l ≠ [])) fun l => V.str (tx l)] at e5'
    walk_at "go2"
    refine v_tuple e5' fun t' H6 ht s6 e6' => ?_
    have s36 := (s3.trans s4).trans (s5.trans s6)
    exact k _ t' H6 (pm.filter _) (pw.filter _) (Same.free ((s3.trans s4).trans s5) ht) s36 e6'
end
end
section
open PySem PySem.Spec L2
theorem PenAt.tup_ne74 {g : Pen} {H : Hp} {n : Nat} {q : Addr} {xs : List V} (h : PenAt g H n) (e : H q = some (.tup xs)) : q ≠ g.p := by
  obtain ⟨a, r, h1, _⟩ := h.ex
  exact ne_of e h1 (by intro z; cases z)
def spPickT74 : Sp := fun vs H Q _ => ∃ (g : Pen) (n : Nat) (q : Addr) (ls : List (List Nat)), vs = [.ref g.p, .ref q] ∧ H q = some (.tup (strsV ls)) ∧ 0 < ls.length ∧ ls.length < 1000000 ∧ PenAt g H n ∧ n < 1000000 ∧
  ∀ l H', l ∈ ls → PenAt g H' (n + 1) → Keep g.p H H' → Q (.str (tx l)) H'
section
variable {P : Program} {w : World} {K : PySem.W.Frag} {mg : Str → Option Value} {base : Heap}
abbrev stpickT74 : Stmt := (top 54)
abbrev NpickT74 : List Str := ["_law_pen", "_law_some"]
theorem scpickT74 : FnScope NpickT74 ["_law_pen", "_law_some"] (defScope stpickT74) := ⟨rfl, rfl, rfl, by decide +kernel, rfl, by decide +kernel, by decide +kernel⟩

theorem ok_pickT74 (F : FnAt K mg "_law_pick" stpickT74) (T : Txt K mg) (D_draw : Def P w K mg base CX0 1 "_law_draw" ["_law_pen", "_law_span"] spDraw) : Def P w K mg base CX0 2 "_law_pick" ["_law_pen", "_law_some"] spPickT74 := by
  refine F.ok scpickT74 (fun _ _ _ _ _ _ us hl => match us, hl with | [_, _], _ => rfl) (fun vs H Q E h => ?_) (fun f cdv A outer s H vs Q E hr h => ?_)
  · obtain ⟨g, n, q, ls, rfl, _⟩ := h
    rfl
  obtain ⟨g, n, q, ls, rfl, hq, h0, h1, hp, hn, k⟩ := h
  have hu := hu_of hr
  have nd := scpickT74.nd
  refine ⟨_, (pss_one (ps_ret (pe_ix (ix_TK (K := K) rfl) (pv 1) (pe_cd D_draw hr pass0 (pa_cons (pv 0) (pa_cons (pe_callB (c_lenK (K := K) rfl) (by rfl) T.len PySem.boot_len (pa_cons (pv 1) pa_nil)) pa_nil))) (fun _ _ => rfl)))), ?_⟩
  refine s_start [some _, some _] rfl ?_
  have hl : (strsV ls).length = ls.length := List.length_map _
  walk_at "go"
  refine v_lenT hq ?_
  rw [hl]
  walk_at "go"
  refine ⟨g, ls.length, n, rfl, by omega, by omega, hp, hn, fun z H1 z0 z1 p1 k1 => ?_⟩
  walk_at "go"
  have hz : z.toNat < ls.length := by omega
  have ge : (strsV ls)[z.toNat]? = some (V.str (tx ls[z.toNat])) := by
    unfold strsV
    rw [List.getElem?_map, List.getElem?_eq_getElem hz]
    rfl
  refine v_ixT (k1 _ _ hq (hp.tup_ne74 hq)) (at_of (j := z.toNat) (by omega) ge) ?_
  exact k _ H1 (List.getElem_mem hz) p1 k1
end
end
section
open PySem PySem.Spec L2
theorem Plans2.same {C : Addr} {H H' : Hp} {x y : Addr} {e : Bool} (h : Plans2 C H x y e) (s : Same H H') : Plans2 C H' x y e := by
  obtain ⟨ks, ks', ps, ps', a, b, c⟩ := h
  exact ⟨ks, ks', ps, ps', a.same s, b.same s, c⟩
/-- two rooms, and whether their plans are equal -/
structure Rooms2 (C R : Addr) (H : Hp) (r x : Addr) (a : List Nat) (r' y : Addr) (b : List Nat) (e : Bool) : Prop where
  one : RoomAt R H r x a
  two : RoomAt R H r' y b
  pl : Plans2 C H x y e
  la : a.length ≤ 2000
  lb : b.length ≤ 2000
theorem Rooms2.same {C R : Addr} {H H' : Hp} {r x : Addr} {a : List Nat} {r' y : Addr} {b : List Nat} {e : Bool} (h : Rooms2 C R H r x a r' y b e) (s : Same H H') : Rooms2 C R H' r x a r' y b e := ⟨h.one.same s, h.two.same s, h.pl.same s, h.la, h.lb⟩
section
variable {P : Program} {w : World} {K : PySem.W.Frag} {mg : Str → Option Value} {base : Heap} {C R O : Addr}
end
end
section
open PySem PySem.Spec L2
def spRoomAdd (C R : Addr) : Sp := fun vs H Q _ => ∃ (r x : Addr) (ks : List Nat) (ps : List (List Nat)) (name way : List Nat), vs = [.ref r, .str (tx way)] ∧ RoomAt R H r x name ∧ PlanAt C H x ks ps ∧ (∀ c ∈ name, c ∈ ks) ∧ (∀ c ∈ way, c ∈ ks) ∧ name.length ≤ 2000 ∧ way.length ≤ 2000 ∧ (joinOf ks ps name way).length ≤ 2000 ∧
  ∀ r' H', H r' = none → Same H H' → RoomAt R H' r' x (joinOf ks ps [] (joinOf ks ps name way)) → Q (.ref r') H'
section
variable {P : Program} {w : World} {K : PySem.W.Frag} {mg : Str → Option Value} {base : Heap} {C R O : Addr}
abbrev stRoom_add : Stmt := (inClass (top 27) 4)
abbrev NRoom_add : List Str := ["self", "way"]
theorem scRoom_add : FnScope NRoom_add ["self", "way"] (defScope stRoom_add) := ⟨rfl, rfl, rfl, by decide +kernel, rfl, by decide +kernel, by decide +kernel⟩

theorem ok_Room_add (F : MAt K R "__add__" "Room.__add__" stRoom_add) (T : TxtR K mg C R O) (D_need_way : Def P w K mg base CX0 1 "need_way" ["plan", "way"] (spNeedWay C)) (D_joined : Def P w K mg base CX0 2 "joined" ["plan", "name", "way"] (spJoined C)) (C_Room : CDef P w K mg base CX0 3 "Room" R (spRoom C R)) : MDef P w K mg base CX0 5 R "__add__" ["self", "way"] (spRoomAdd C R) := by
  refine F.ok scRoom_add (fun _ _ _ _ _ _ us hl => match us, hl with | [_, _], _ => rfl) (fun vs H Q E h => ?_) (fun f cdv A outer s H vs Q E hr h => ?_)
  · obtain ⟨r, x, ks, ps, name, way, rfl, _⟩ := h
    rfl
  obtain ⟨r, x, ks, ps, name, way, rfl, h1, h2, hn, hw, l1, l2, l3, q⟩ := h
  have hu := hu_of hr
  have nd := scRoom_add.nd
  replace D_need_way := D_need_way.mono (show 1 ≤ 4 by decide)
  replace D_joined := D_joined.mono (show 2 ≤ 4 by decide)
  refine ⟨_, (pss_one (ps_ret (pe_mk C_Room hr pass0 (pa_cons (pe_flK (K := K) rfl (pv 0) rfl) (pa_cons (pe_cd D_joined hr pass0 (pa_cons (pe_flK (K := K) rfl (pv 0) rfl) (pa_cons (pe_flK (K := K) rfl (pv 0) rfl) (pa_cons (pe_cd D_need_way hr pass0 (pa_cons (pe_flK (K := K) rfl (pv 0) rfl) (pa_cons (pv 1) pa_nil))) pa_nil)))) pa_nil))))), ?_⟩
  refine s_start [some _, some _] rfl ?_
  obtain ⟨dr, a1⟩ := h1.ex
  walk_at "go"
  refine v_fld a1 T.Room.cl T.nPl roomF_p ?_
  walk_at "go"
  refine v_fld a1 T.Room.cl T.nPl roomF_p ?_
  walk_at "go"
  refine v_fld a1 T.Room.cl T.nNm roomF_n ?_
  walk_at "go"
  refine v_fld a1 T.Room.cl T.nPl roomF_p ?_
  walk_at "go"
  refine ⟨x, ks, ps, way, rfl, h2, hw, l2, fun H1 s1 => ?_⟩
  walk_at "go"
  refine ⟨x, ks, ps, name, way, rfl, h2.same s1, hw, by omega, ?_⟩
  walk_at "go"
  refine ⟨x, ks, ps, _, rfl, h2.same s1, fun c hc => (joinOf_mem hc).elim (hn c) (hw c), l3, fun r' H' a b c => q r' H' ?_ (s1.trans b) c⟩
  exact L2.Same.free s1 a
end
end
section
open PySem PySem.Spec L2
theorem num_getF74 {H : Hp} {d : Addr} {od : Obj} {l : List Nat} {g : Nat → V} {k : Nat} (h : H d = some (.frz od (.dK (nKV l g)))) (hk : k ∈ l) : DGet H d (.int (k : Int)) (some (g k)) := by
  have e : DGet H d (kV (Sum.inl (k : Int) : Key)) (valV (nKV l g) (Sum.inl (k : Int) : Key)) := .inl ⟨_, _, .inr ⟨_, h⟩, rfl, rfl⟩
  rw [nKV_some hk] at e
  exact e
theorem e_dpop74 {td ty tz : TE} {σ : L2.St} {H : Hp} {Q : VK} (q : td σ H fun x H1 => ∃ a, x = .ref a ∧ IsD H1 a ∧ ty σ H1 fun y H2 => tz σ H2 fun z H3 => ∃ (kvs : List (Key × V)) (k : Key), H3 a = some (.dK kvs) ∧ y = kV k ∧ (∀ v, valV kvs k = some v → Q v (upd H3 a (.dK (dropK kvs k)))) ∧ (valV kvs k = none → Q z H3)) : tDPop2 td ty tz σ H Q := q
theorem v_pop74 {Q : VK} {H : Hp} {d : Addr} {l : List (List Nat)} {z : V} (h : H d = some (.dK (tKV74 l))) (q : ∀ v H', Keep d H H' → H' d = some (.dK (tKV74 (l.filter fun w => decide (w ≠ [])))) → Q v H') :
    ∃ (kvs : List (Key × V)) (k : Key), H d = some (.dK kvs) ∧ V.str (tx []) = kV k ∧ (∀ v, valV kvs k = some v → Q v (upd H d (.dK (dropK kvs k)))) ∧ (valV kvs k = none → Q z H) := by
  refine ⟨_, Sum.inr (tx []), h, rfl, fun v _ => q v _ (fun b o hb nb => by rw [upd_ne nb]; exact hb) (by rw [upd_same, dropK_t74]), fun hn => q z _ (Keep.refl _ _) ?_⟩
  have e : dropK (tKV74 l) (Sum.inr (tx []) : Key) = tKV74 l := by
    refine dropK_no fun m => ?_
    have a := valV_any (kvs := tKV74 l) (k := (Sum.inr (tx []) : Key))
    rw [hn] at a
    obtain ⟨kv, h1, h2⟩ := List.mem_map.mp m
    have : ((tKV74 l).any fun kv => decide (kv.1 = (Sum.inr (tx []) : Key))) = true := List.any_eq_true.mpr ⟨kv, h1, decide_eq_true h2⟩
    rw [this] at a
    cases a
  rw [← dropK_t74, e]
  exact h
theorem v_neT74 {K : PySem.W.Frag} {H : Hp} {Q : VK} {p q : Addr} {a : List (List Nat)} (h1 : H p = some (.tup (strsV a))) (h2 : H q = some (.tup (strsV a))) (ha : ∀ l ∈ a, ∀ c ∈ l, c < 1000) (k : Q (.bl false) H) : rNeD K (.ref p) (.ref q) H Q := by
  rw [strsV_map] at h1 h2
  refine ⟨.tuple ((a.map tx).map PyData.str), .tuple ((a.map tx).map PyData.str), .tup (SqT.of h1) (dp_strs _), .tup (SqT.of h2) (dp_strs _), shaped_strsT _ (ok_strs ha), shaped_strsT _ (ok_strs ha), ?_⟩
  have e : PyData.eqv (.tuple ((a.map tx).map PyData.str)) (.tuple ((a.map tx).map PyData.str)) = true := by
    show PyData.eqvAll _ _ = _
    rw [eqvAll_strs, decide_eq_true_iff]
  rw [e]
  exact k
theorem walk_rev74 {n : Nat} {ks : List Nat} {ps T : List (List Nat)} (g : Good n ks ps T) : ∀ (w : List Nat) (p : Nat), p < n → (∀ c ∈ w, c ∈ ks) → walkT ks T (walkT ks T p w) w.reverse = p
  | [], _, _, _ => rfl
  | c :: w, p, hp, hw => by
    have hc := rowK_mem g.lT (hw c (List.mem_cons_self ..))
    have ih := walk_rev74 g w ((rowK ks T c).getD p 0) (g.ok.get hc hp) fun d hd => hw d (List.mem_cons_of_mem _ hd)
    rw [List.reverse_cons, walkT_app]
    show walkT ks T (walkT ks T (walkT ks T ((rowK ks T c).getD p 0) w) w.reverse) [c] = p
    rw [ih]
    exact g.back _ hc _ hp
theorem wy_zero74 {m : Nat} {ks : List Nat} {ps T : List (List Nat)} {p k : Nat} (knd : ks.Nodup) (fl : Flo ks ps T m) (hp : p < m) (hk : k ∈ ks) : walkT ks T 0 (wy74 ks ps T m p k) = 0 ∧ ∀ c ∈ wy74 ks ps T m p k, c ∈ ks := by
  have f1 := fw_is knd fl hp
  have hr := fl.good.ok.get (rowK_mem fl.good.lT hk) hp
  have f2 := fw_is knd fl hr
  have mem : ∀ c ∈ fw ks T m p ++ [k] ++ (fw ks T m ((rowK ks T k).getD p 0)).reverse, c ∈ ks := fun z hz => by
    rcases List.mem_append.mp hz with hz | hz
    · rcases List.mem_append.mp hz with hz | hz
      · exact f1.1 z hz
      · rw [List.mem_singleton.mp hz]
        exact hk
    · exact f2.1 z (List.mem_reverse.mp hz)
  refine ⟨?_, fun c hc => ?_⟩
  · unfold wy74
    rw [walk_join fl.good fl.good.n0 _ (by intro _ z; cases z) mem, List.nil_append, walkT_app, walkT_app, f1.2.1]
    show walkT ks T ((rowK ks T k).getD p 0) _ = 0
    have z := walk_rev74 fl.good (fw ks T m ((rowK ks T k).getD p 0)) 0 fl.good.n0 f2.1
    rw [f2.2.1] at z
    exact z
  · rcases joinOf_mem hc with z | z
    · cases z
    · exact mem c z
theorem let_lt74 : ∀ c ∈ LET, c < 1000 := by decide +kernel
theorem ClosedAt.pen {CL : Addr} {H H' : Hp} {c x : Addr} {T : List (List Nat)} {m : Nat} {g : Pen} {n : Nat} (h : ClosedAt CL H c x T m) (p : PenAt g H n) (k : Keep g.p H H') : ClosedAt CL H' c x T m := by
  obtain ⟨a, b, h1, _⟩ := p.ex
  obtain ⟨dx, fs, t, q, e1, e2, e3, e4, e5, e6⟩ := h.ex
  obtain ⟨dy, gs, n1, n2⟩ := h.no
  obtain ⟨E, b1, b2, b3⟩ := e5.ex
  exact ⟨h.ml, ⟨dx, fs, t, q, k _ _ e1 (ne_of e1 h1 (by intro z; cases z)), e2, e3, e4, ⟨E, b1, k _ _ b2 (ne_of b2 h1 (by intro z; cases z)), fun e he => k _ _ (b3 e he) (ne_of (b3 e he) h1 (by intro z; cases z))⟩, k _ _ e6 (ne_of e6 h1 (by intro z; cases z))⟩, dy, gs, k _ _ n1 (ne_of n1 h1 (by intro z; cases z)), n2⟩
structure Txt74L (K : PySem.W.Frag) (mg : Str → Option Value) (C R O CL : Addr) : Prop extends Txt74 K mg C R O CL where
  Room_sf : PySem.W.selfFirst K R = true
def spLaw (K : PySem.W.Frag) : Sp := fun vs H Q _ => ∃ (a : Addr) (ns : List Int), vs = [.ref a] ∧ SqL K H a (ns.map V.int) ∧ ns.length ≤ 63 ∧ ∀ H', Q (.bl true) H'
section
variable {P : Program} {w : World} {K : PySem.W.Frag} {mg : Str → Option Value} {base : Heap} {C R O CL : Addr}
abbrev stlaw : Stmt := (top 69)
abbrev Nlaw : List Str := ["_law_script", "_law_pen", "_law_turn", "_law_scene_here", "_law_tables", "_law_rows", "_law_first", "_law_due", "_law_place", "_law_k", "_law_back", "_law_floor", "_law_told"]
theorem sclaw : FnScope Nlaw ["_law_script"] (defScope stlaw) := ⟨rfl, rfl, rfl, by decide +kernel, rfl, by decide +kernel, by decide +kernel⟩

theorem ok_law74 {f : Addr} {fd : FuncData} (F : Fun K "law" "law" stlaw f fd) (T : Txt74L K mg C R O CL)
    (D_begin : Def P w K mg base CX0 1 "_law_begin" ["_law_script"] (spPen K)) (D_draw : Def P w K mg base CX0 1 "_law_draw" ["_law_pen", "_law_span"] spDraw) (D_pick : Def P w K mg base CX0 2 "_law_pick" ["_law_pen", "_law_some"] spPick2) (D_pickT : Def P w K mg base CX0 2 "_law_pick" ["_law_pen", "_law_some"] spPickT74) (D_scene : Def P w K mg base CX0 5 "_law_scene" ["_law_pen", "_law_least", "_law_most"] (spScene C)) (D_doors : Def P w K mg base CX0 3 "_law_doors" ["_law_pen", "_law_scene_here", "_law_many"] (spDoors71 C)) (D_lists : Def P w K mg base CX0 1 "_law_lists" ["_law_scene_here", "_law_tables"] (spLists71 C)) (D_numbered : Def P w K mg base CX0 1 "_law_numbered" ["_law_scene_here", "_law_tables", "_law_first"] (spNumL71 C))
    (D_first_ways : Def P w K mg base CX0 1 "_law_first_ways" ["_law_scene_here", "_law_rows"] (spLFirst74 C)) (D_name : Def P w K mg base CX0 4 "_law_name" ["_law_scene_here", "_law_way"] (spName74 C)) (D_by_length : Def P w K mg base CX0 1 "_law_by_length" ["_law_names"] spShort74) (D_room : Def P w K mg base CX0 5 "_law_room" ["_law_scene_here", "_law_way"] (spRoom71 C R))
    (C_Closed : CDef P w K mg base CX0 4 "Closed" CL (spClosed K C CL)) (M_Closed_ways : MDef P w K mg base CX0 5 CL "ways" ["self"] (spWays74 C CL)) (M_Closed_at : MDef P w K mg base CX0 4 CL "at" ["self", "room"] (spClAt C R CL)) (M_Room_add : MDef P w K mg base CX0 5 R "__add__" ["self", "way"] (spRoomAdd C R)) : FnOk P w K mg base CX0 9 f fd ["_law_script"] (spLaw K) := by
  refine F.ok sclaw (fun vs H Q E h => ?_) (fun cdv A outer s H vs Q E hr h => ?_)
  · obtain ⟨a, ns, rfl, _⟩ := h
    rfl
  obtain ⟨sc, ns, rfl, hsc, hn, k⟩ := h
  have hu := hu_of hr
  have nd := sclaw.nd
  replace D_begin := D_begin.mono (show 1 ≤ 8 by decide)
  replace D_draw := D_draw.mono (show 1 ≤ 8 by decide)
  replace D_pickT := D_pickT.mono (show 2 ≤ 8 by decide)
  replace D_scene := D_scene.mono (show 5 ≤ 8 by decide)
  replace D_doors := D_doors.mono (show 3 ≤ 8 by decide)
  replace D_lists := D_lists.mono (show 1 ≤ 8 by decide)
  replace D_numbered := D_numbered.mono (show 1 ≤ 8 by decide)
  replace D_first_ways := D_first_ways.mono (show 1 ≤ 8 by decide)
  replace D_name := D_name.mono (show 4 ≤ 8 by decide)
  replace D_by_length := D_by_length.mono (show 1 ≤ 8 by decide)
  replace D_room := D_room.mono (show 5 ≤ 8 by decide)
  replace C_Closed := C_Closed.mono (show 4 ≤ 7 by decide)
  replace M_Closed_ways := M_Closed_ways.mono (show 5 ≤ 8 by decide)
  replace M_Closed_at := M_Closed_at.mono (show 4 ≤ 8 by decide)
  replace M_Room_add := M_Room_add.mono (show 5 ≤ 8 by decide)
  refine ⟨_, (pss_cons (ps_set (i := 1) nd rfl (Or.inl rfl) (pe_cd D_begin hr pass0 (pa_cons (pv 0) pa_nil)))
      (pss_cons (ps_for PassesOwn.never rfl (pi_range1 (by rfl) T.range (pa_cons (pe_op op_add pe_int (pe_callB (call_min2 rfl) (by rfl) T.min (by decide +kernel) (pa_cons pe_int (pa_cons (pe_callB (c_lenK (K := K) rfl) (by rfl) T.len PySem.boot_len (pa_cons (pv 0) pa_nil)) pa_nil)))) pa_nil)) (pg_name (i := 2) nd rfl (Or.inl rfl))
      (pss_cons (ps_set (i := 3) nd rfl (Or.inl rfl) (pe_cd D_scene hr pass0 (pa_cons (pv 1) (pa_cons pe_int (pa_cons pe_int pa_nil)))))
        (pss_cons (ps_set (i := 4) nd rfl (Or.inl rfl) (pe_cd D_doors hr pass0 (pa_cons (pv 1) (pa_cons (pv 3) (pa_cons (pe_cut (pe_ifExp (pt_cmpR op_ne (pe_dget hu (pv 3) pe_str (fun _ _ => rfl)) (pe_tx [] (by decide +kernel)) (nomark _)) (pe_op op_add pe_int (pe_cd D_draw hr pass0 (pa_cons (pv 1) (pa_cons pe_int pa_nil)))) pe_int)) pa_nil)))))
        (pss_cons (ps_set (i := 5) nd rfl (Or.inl rfl) (pe_ix (ix_TK (K := K) rfl) (pe_cd D_numbered hr pass0 (pa_cons (pv 3) (pa_cons (pv 4) (pa_cons pe_int pa_nil)))) pe_int (fun _ _ => rfl)))
        (pss_cons (ps_par (i := 6) (j := 7) (by rfl) nd rfl rfl (by decide) rfl rfl (pa_cons (pe_cd D_first_ways hr pass0 (pa_cons (pv 3) (pa_cons (pv 5) pa_nil))) (pa_cons pe_dnewK pa_nil)) (by rfl))
        (pss_cons (ps_lock (ps_for PassesOwn.never rfl (pi_keys (pv 6)) (pg_name (i := 8) nd rfl (Or.inl rfl))
        (pss_one (ps_for PassesOwn.never rfl (pi_range1 (by rfl) T.range (pa_cons (pe_callB (c_lenK (K := K) rfl) (by rfl) T.len PySem.boot_len (pa_cons (pv 5) pa_nil)) pa_nil)) (pg_name (i := 9) nd rfl (Or.inl rfl))
          (pss_cons (ps_set (i := 10) nd rfl (Or.inl rfl) (pe_revS (pe_dget hu (pv 6) (pe_ix (ix_TK (K := K) rfl) (pe_ix (ix_TK (K := K) rfl) (pv 5) (pv 9) (fun _ _ => rfl)) (pv 8) (fun _ _ => rfl)) (fun _ _ => rfl))))
            (pss_one (ps_dput hu (pv 7) (pe_cd D_name hr pass0 (pa_cons (pv 3) (pa_cons (pe_op op_addS (pe_op op_addS (pe_dget hu (pv 6) (pv 8) (fun _ _ => rfl)) (pe_ix ix_str (pe_dget hu (pv 3) pe_str (fun _ _ => rfl)) (pv 9) (fun _ _ => rfl))) (pv 10)) pa_nil))) pe_bl rfl)))))))
        (pss_cons (ps_expr (pe_dpop2 (pv 7) (pe_tx [] (by decide +kernel)) pe_non (by constructor <;> rfl)))
        (pss_cons (ps_set (i := 11) nd rfl (Or.inl rfl) (pe_mk C_Closed hr pass0 (pa_cons (pe_dget hu (pv 3) pe_str (fun _ _ => rfl)) (pa_cons (pe_cd D_lists hr pass0 (pa_cons (pv 3) (pa_cons (pv 4) pa_nil))) pa_nil))))
        (pss_cons (ps_set (i := 12) nd rfl (Or.inl rfl) (pe_md0 M_Closed_ways T.Closed.cl hr pass0 (pv 11)))
        (pss_cons (ps_if (pt_cmpR (op_neDK (K := K) rfl hr.units) (pv 12) (pe_callTy (c_tupleK (K := K) rfl) (by rfl) T.tuple (by decide +kernel) (pa_cons (pe_cd D_by_length hr pass0 (pa_cons (pe_callTy (call_list_dK rfl) (by rfl) T.list (by decide +kernel) (pa_cons (pv 7) pa_nil)) pa_nil)) pa_nil)) (nomark _))
        (pss_one (ps_ret pe_bl))
        pss_nil)
        (pss_one (ps_for PassesOwn.never rfl (pi_range1 (by rfl) T.range (pa_cons (pe_callB (call_min2 rfl) (by rfl) T.min (by decide +kernel) (pa_cons pe_int (pa_cons (pe_callB (c_lenK (K := K) rfl) (by rfl) T.len PySem.boot_len (pa_cons (pv 12) pa_nil)) pa_nil))) pa_nil)) (pg_name (i := 9) nd rfl (Or.inl rfl))
        (pss_cons (ps_if (pt_cmpR op_ne (pe_md M_Closed_at T.Closed.cl hr pass0 (pv 11) (pa_cons (pe_cd D_room hr pass0 (pa_cons (pv 3) (pa_cons (pe_cd D_pickT hr pass0 (pa_cons (pv 1) (pa_cons (pv 12) pa_nil))) pa_nil))) pa_nil)) pe_int (nomark _))
          (pss_one (ps_ret pe_bl))
          pss_nil)
          (pss_one (ps_if (pt_cmpR op_ne (pe_md M_Closed_at T.Closed.cl hr pass0 (pv 11) (pa_cons (pe_op (op_addM M_Room_add T.Room_sf hr pass0) (pe_cd D_room hr pass0 (pa_cons (pv 3) (pa_cons (pe_cd D_pickT hr pass0 (pa_cons (pv 1) (pa_cons (pv 12) pa_nil))) pa_nil))) (pe_cd D_pickT hr pass0 (pa_cons (pv 1) (pa_cons (pv 12) pa_nil)))) pa_nil)) pe_int (nomark _))
          (pss_one (ps_ret pe_bl))
          pss_nil)))))))))))))))
      (pss_one (ps_ret pe_bl)))), ?_⟩
  refine s_start [some _, none, none, none, none, none, none, none, none, none, none, none, none] rfl ?_
  walk_at "go2"
  refine ⟨sc, ns, rfl, hsc, hn, fun g H1 p1 s1 hg1 => ?_⟩
  walk_at "go2"
  refine ⟨sc, _, rfl, .inl (sqL_same hsc s1), ?_⟩
  rw [List.length_map]
  walk_at "go2"
  refine ⟨_, _, rfl, ?_⟩
  obtain ⟨laps, hl6, elaps⟩ : ∃ laps : Nat, laps ≤ 6 ∧ (2 : Int) + (if ((ns.length : Nat) : Int) < 4 then ((ns.length : Nat) : Int) else 4) = (laps : Int) := by
    by_cases c : ns.length < 4
    · exact ⟨2 + ns.length, by omega, by rw [if_pos (by omega)]; omega⟩
    · exact ⟨6, Nat.le_refl _, by rw [if_neg (by omega)]; rfl⟩
  walk_at "go2"
  rw [elaps, Int.toNat_natCast]
  refine for_it (walk_rI (fun i => ((i : Nat) : Int)) (fun k => Int.zero_add _)) (fun i σ H' => ∃ y2 y3 y4 y5 y6 y7 y8 y9 y10 y11 y12, σ = [some (.ref sc), some (.ref g.p), y2, y3, y4, y5, y6, y7, y8, y9, y10, y11, y12] ∧ PenAt g H' (1000 * i)) ⟨_, _, _, _, _, _, _, _, _, _, _, rfl, p1⟩ (fun _ _ _ _ _ => trivial) ?_ ?_
  · rintro i v σ H2 H3 hi ⟨y2, y3, y4, y5, y6, y7, y8, y9, y10, y11, y12, rfl, p3⟩ ⟨rfl, rfl⟩
    have hi : i < laps := hi
    clear p1 s1 hg1 hsc
    walk_at "go2"
    refine ⟨g, _, 0, 4, rfl, p3, by omega, by decide, by decide, fun q ks gs x y H4 hq sc4 ok h0 k4 p4 kp4 => ?_⟩
    clear p3 kp4 hq h0
    walk_at "go2"
    refine e_cut (fun v H' => ∃ m : Nat, v = .int ((m : Nat) : Int) ∧ 0 < m ∧ m ≤ 8 ∧ PenAt g H' (1000 * i + 69) ∧ Keep g.p H4 H') ?_ ?_
    · obtain ⟨l0, a1, a2⟩ := sc4.ex
      walk_at "go2"
      refine v_dget (sc_kinds a1) ?_
      walk_at "go2"
      refine if_ndec (fun _ => ?_) (fun _ => ?_)
      · walk_at "go2"
        refine ⟨g, 7, _, rfl, by decide, by decide, p4, by omega, fun z H5 z0 z1 p5 k5 => ?_⟩
        obtain ⟨d0, rfl⟩ : ∃ d0 : Nat, z = (d0 : Int) := ⟨z.toNat, by omega⟩
        walk_at "go2"
        exact ⟨1 + d0, by rw [Int.natCast_add]; rfl, by omega, by omega, p5, k5⟩
      · walk_at "go2"
        exact ⟨1, rfl, by decide, by decide, p4.mono (by omega), Keep.refl _ _⟩
    rintro v H5 ⟨m, rfl, m0, m8, p5, k5⟩
    have sc5 := sc4.pen p4 k5
    clear p4 sc4 k5
    walk_at "go2"
    refine ⟨g, _, q, x, y, ks, gs, m, rfl, p5, by omega, sc5, ok, m0, m8, fun d r H6 hd dt6 ro p6 k6 => ?_⟩
    have sc6 := sc5.pen p5 k6
    clear p5 sc5 k6 hd
    have gd := ro.good ok m0 (by omega)
    have cl1 := Cl.of_bfs gd.ok m0
    have fl := canon_of gd
    have hM : (bfs (ks.map r) m 0).length ≤ 8 := Nat.le_trans cl1.le m8
    have knd := ok.nd
    have k8 := ok.len
    walk_at "go2"
    refine ⟨q, d, x, y, ks, gs, ks, r, m, 0, rfl, sc6, dt6, fun _ h => h, gd.ok, k8, m0, by omega, fun t0 f0 u0 H7 ht0 hf0 s7 et0 ef0 tu0 => ?_⟩
    refine v_ixT et0 (at_of (j := 1) rfl rfl) ?_
    walk_at "go2"
    have sc7 := sc6.same s7
    generalize eT : numT (ks.map r) (bfs (ks.map r) m 0) = TT at tu0 fl
    generalize eM : (bfs (ks.map r) m 0).length = M at fl hM
    refine ⟨q, u0, x, y, ks, gs, TT, M, rfl, sc7, tu0, fl, knd, k8, by omega, fun df H8 hdf s8 edf => ?_⟩
    walk_at "go2"
    intro dd H9 hdd s89 edd
    walk_at "go2"
    have edf9 := s89 _ _ edf
    have s79 : Same H7 H9 := s8.trans s89
    have hdd7 : H7 dd = none := Same.free s8 hdd
    have ndd : dd ≠ df := (ne_of_none edf hdd).symm
    clear s8 s89 hdd edf
    have fwi := fun p (hp : p < M) => fw_is knd fl hp
    obtain ⟨E, b1, b2, b3⟩ := tu0.ex
    have lE : E.length = TT.length := by rw [← b1, List.length_map]
    have lT := fl.good.lT
    have lr : (refV E).length = E.length := List.length_map _
    obtain ⟨z1, z2⟩ := zip_rows knd lT
    obtain ⟨l0, a1, a2⟩ := sc7.ex
    refine e_lock edf9 trivial fun od => ?_
    walk_at "go2"
    refine ⟨df, od, rfl, .inl ⟨_, upd_same, ?_⟩⟩
    have wk := walk_num71 (d := df) (o := od) (ls := List.range M) (g := fun z => V.str (tx (fw ks TT M z)))
    rw [List.length_range] at wk
    refine for_it wk (fun p σ H' => ∃ y8 y9 y10, σ = [some (.ref sc), some (.ref g.p), some (.int ((i : Nat) : Int)), some (.ref q), some (.ref d), some (.ref u0), some (.ref df), some (.ref dd), y8, y9, y10, y11, y12] ∧ Same H7 H' ∧ H' df = some (.frz od (.dK (nKV (List.range M) fun z => .str (tx (fw ks TT M z))))) ∧ H' dd = some (.dK (tKV74 (dd74 (pre74 ks (prsOf gs) TT M p))))) ⟨_, _, _, rfl, fun b o hb => ?_, upd_same, ?_⟩ (fun p σ H' _ z => ?_) ?_ ?_
    · rw [upd_ne (ne_of_none hb hdf)]
      exact s79 _ _ hb
    · rw [upd_ne ndd]
      exact edd
    · obtain ⟨_, _, _, _, _, h, _⟩ := z
      exact h
    · rintro p v σ H10 H11 hp ⟨y8, y9, y10, rfl, s10, edf10, edd10⟩ ⟨rfl, hv⟩
      have gp : (List.range M).getD p 0 = p := by
        rw [List.getD_eq_getElem?_getD, List.getElem?_range hp]
        rfl
      obtain rfl : v = V.int ((p : Nat) : Int) := by
        rw [hv]
        show V.int (((List.range M).getD p 0 : Nat) : Int) = _
        rw [gp]
      clear hv gp
      have f1 := fwi p hp
      walk_at "go2"
      refine v_lenT (s10 _ _ b2) ?_
      walk_at "go2"
      rw [lr, Int.toNat_natCast]
      refine for_it (walk_rI (fun i => ((i : Nat) : Int)) (fun k => Int.zero_add _)) (fun j σ H' => ∃ y9 y10, σ = [some (.ref sc), some (.ref g.p), some (.int ((i : Nat) : Int)), some (.ref q), some (.ref d), some (.ref u0), some (.ref df), some (.ref dd), some (.int ((p : Nat) : Int)), y9, y10, y11, y12] ∧ Same H7 H' ∧ H' df = some (.frz od (.dK (nKV (List.range M) fun z => .str (tx (fw ks TT M z))))) ∧ H' dd = some (.dK (tKV74 (dd74 (pre74 ks (prsOf gs) TT M p ++ (ks.take j).map (wy74 ks (prsOf gs) TT M p)))))) ⟨_, _, rfl, s10, edf10, by rw [List.take_zero, List.map_nil, List.append_nil]; exact edd10⟩ (fun _ _ _ _ _ => trivial) ?_ ?_
      · rintro j v σ H12 H13 hj ⟨y9, y10, rfl, s12, edf12, edd12⟩ ⟨rfl, rfl⟩
        have hj : j < E.length := hj
        have he : E[j]? = some E[j] := List.getElem?_eq_getElem hj
        have hk : j < ks.length := by omega
        have hcj : ks[j]? = some (ks.getD j 0) := by rw [List.getD_eq_getElem?_getD, List.getElem?_eq_getElem hk]; rfl
        have em : E[j] ∈ E := List.getElem_mem hj
        have eTj : TT[j]? = some E[j].1 := by rw [← b1, List.getElem?_map, he]; rfl
        have ge : (refV E)[j]? = some (.ref E[j].2) := by unfold refV; rw [List.getElem?_map, he]; rfl
        have gk : atI ks ((j : Nat) : Int) = some (ks.getD j 0) := at_getD hk
        generalize E[j] = e at em eTj ge
        generalize ks.getD j 0 = c0 at hcj gk
        have hz : (List.zip ks TT)[j]? = some (c0, e.1) := by rw [List.getElem?_zip_eq_some]; exact ⟨hcj, eTj⟩
        have ztk : ks.take (j + 1) = ks.take j ++ [c0] := by rw [List.take_succ, hcj]; rfl
        obtain ⟨k1, k2⟩ := z1 _ (List.mem_of_getElem? hz)
        have er := (fl.good.ok _ (List.mem_of_getElem? eTj)).1
        have hq : e.1.getD p 0 < M := fl.good.ok.get (List.mem_of_getElem? eTj) hp
        have f2 := fwi _ hq
        have erow := s12 _ _ (b3 e em)
        have b2' := s12 _ _ b2
        have a1' := s12 _ _ a1
        walk_at "go2"
        refine v_ixT b2' (at_of (j := j) rfl ge) ?_
        walk_at "go2"
        refine v_ixT erow (at_of (j := p) rfl (num_at (by rw [er]; exact hp))) ?_
        walk_at "go2"
        refine v_dget (num_getF74 edf12 (List.mem_range.mpr hq)) ?_
        walk_at "go2"
        refine v_dget (num_getF74 edf12 (List.mem_range.mpr hp)) ?_
        walk_at "go2"
        refine v_dget (sc_kinds a1') ?_
        walk_at "go2"
        refine v_ixS (by omega) gk ?_
        walk_at "go2"
        case c =>
          rw [List.length_append, List.length_reverse, List.length_singleton]
          omega
        have wl : (fw ks TT M p ++ [c0] ++ (fw ks TT M (e.1.getD p 0)).reverse).length ≤ 1000 := by
          rw [List.length_append, List.length_append, List.length_reverse, List.length_singleton]
          omega
        walk_at "go2"
        refine ⟨q, x, y, ks, gs, _, rfl, sc7.same s12, ok, fun z hz => ?_, wl, fun H14 s14 => ?_⟩
        · rcases List.mem_append.mp hz with hz | hz
          · rcases List.mem_append.mp hz with hz | hz
            · exact f1.1 z hz
            · rw [List.mem_singleton.mp hz]
              exact k1
          · exact f2.1 z (List.mem_reverse.mp hz)
        have ew : joinOf ks (prsOf gs) [] (fw ks TT M p ++ [c0] ++ (fw ks TT M (e.1.getD p 0)).reverse) = wy74 ks (prsOf gs) TT M p c0 := by
          unfold wy74
          rw [k2]
        rw [ew]
        have ll : (dd74 (pre74 ks (prsOf gs) TT M p ++ (ks.take j).map (wy74 ks (prsOf gs) TT M p))).length < 1000000 := by
          have h1 := dd74_len (ls := pre74 ks (prsOf gs) TT M p ++ (ks.take j).map (wy74 ks (prsOf gs) TT M p))
          rw [List.length_append, pre74_len, List.length_map, List.length_take] at h1
          have : p * ks.length ≤ 100 * 8 := Nat.mul_le_mul (by omega) k8
          omega
        have dp := DPut.k (k := Sum.inr (tx (wy74 ks (prsOf gs) TT M p c0))) (v := V.bl true) (s14 _ _ edd12) (szlt (by rw [List.length_map]; exact ll))
        refine ⟨dd, _, rfl, dp, ?_⟩
        refine ⟨_, _, rfl, fun b o hb => ?_, ?_, ?_⟩
        · rw [upd_ne (ne_of_none hb hdd7)]
          exact s14 _ _ (s12 _ _ hb)
        · rw [upd_ne ndd.symm]
          exact s14 _ _ edf12
        · rw [upd_same, putK_t74, ← dd74_snoc, ztk, List.map_append, ← List.append_assoc]
          rfl
      · rintro σ H12 ⟨y9, y10, rfl, s12, edf12, edd12⟩
        refine ⟨_, _, _, rfl, s12, edf12, ?_⟩
        rw [edd12, pre74_succ, List.take_of_length_le (by omega)]
    rintro σ H10 ⟨y8, y9, y10, rfl, s10, edf10, edd10⟩
    refine ⟨edf10, ?_⟩
    have ndd' : dd ≠ df := ndd
    have s11 : Same H7 (upd H10 df (.dK (nKV (List.range M) fun z => .str (tx (fw ks TT M z))))) := fun b o hb => by
      rw [upd_ne (ne_of_none hb hdf)]
      exact s10 _ _ hb
    have edd11 : upd H10 df (.dK (nKV (List.range M) fun z => .str (tx (fw ks TT M z)))) dd = some (.dK (tKV74 (dd74 (pre74 ks (prsOf gs) TT M M)))) := by
      rw [upd_ne ndd]
      exact edd10
    generalize upd H10 df (.dK (nKV (List.range M) fun z => .str (tx (fw ks TT M z)))) = H11 at s11 edd11 ⊢
    clear s10 edf10 edd10 edf9 s79 edd wk
    walk_at "go2"
    refine e_dpop74 ?_
    walk_at "go2"
    refine ⟨dd, rfl, .inl ⟨_, .inl edd11⟩, ?_⟩
    walk_at "go2"
    refine v_pop74 (z := .non) edd11 fun v H12 k12 edd12 => ?_
    have s12 : Same H7 H12 := fun b o hb => k12 _ _ (s11 _ _ hb) (ne_of_none hb hdd7)
    clear k12 s11 edd11
    walk_at "go2"
    refine v_dget (sc_plan (s12 _ _ a1)) ?_
    walk_at "go2"
    refine ⟨q, d, x, y, ks, gs, ks, r, rfl, sc7.same s12, (dt6.same s7).same s12, fun _ h => h, k8, fun gv Eg H13 hgv s13 eE egv eEl => ?_⟩
    walk_at "go2"
    have px13 := (sc7.px.same s12).same s13
    refine ⟨x, gv, ks, prsOf gs, ks.map r, m, rfl, gd.arg px13 ⟨Eg, eE, .inl egv, fun e he => .inl (eEl e he).1⟩, fun c H14 hc s14 ca => ?_⟩
    rw [eT, eM] at ca
    have s1214 := s13.trans s14
    have edd14 := s1214 _ _ edd12
    have px14 := px13.same s14
    obtain ⟨dy, gs', n1, _, _, _, _, _, _, _, _, nwy⟩ := ca.no
    walk_at "go2"
    refine ⟨c, dy, gs', rfl, n1, nwy, ?_⟩
    walk_at "go2"
    refine ⟨c, x, ks, prsOf gs, TT, M, rfl, ca, px14, fl, knd, k8, by omega, fun r1 t1 H15 pm1 pw1 ht1 s15 et1 => ?_⟩
    walk_at "go2"
    refine ⟨dd, _, rfl, s15 _ _ edd14, fun D hD => ?_⟩
    generalize eL : (dd74 (pre74 ks (prsOf gs) TT M M)).filter (fun w => decide (w ≠ [])) = L at pm1 hD ⊢
    have eD : upd H15 D (.lst ((tKV74 L).map fun kv => kV kv.1)) D = some (.lst (strsV L)) := by
      rw [upd_same]
      unfold tKV74 strsV
      rw [List.map_map]
      rfl
    have s1216 : Same H12 (upd H15 D (.lst ((tKV74 L).map fun kv => kV kv.1))) := (s1214.trans s15).trans (Same.new hD)
    have s1416 : Same H14 (upd H15 D (.lst ((tKV74 L).map fun kv => kV kv.1))) := s15.trans (Same.new hD)
    have s1516 : Same H15 (upd H15 D (.lst ((tKV74 L).map fun kv => kV kv.1))) := Same.new hD
    generalize upd H15 D (.lst ((tKV74 L).map fun kv => kV kv.1)) = H16 at eD s1216 s1416 s1516 ⊢
    have inL : ∀ l ∈ L, ∃ p, p < M ∧ ∃ k, k ∈ ks ∧ l = wy74 ks (prsOf gs) TT M p k := fun l hl => by
      rw [← eL] at hl
      exact pre74_mem.mp (dd74_mem.mp (List.mem_filter.mp hl).1)
    have lenL : ∀ l ∈ L, l.length ≤ 16 := fun l hl => by
      obtain ⟨p, hp, k', hk, rfl⟩ := inL l hl
      have := wy74_len (ps := prsOf gs) knd fl hp hk
      omega
    have zeroL : ∀ l ∈ L, walkT ks TT 0 l = 0 ∧ ∀ c ∈ l, c ∈ ks := fun l hl => by
      obtain ⟨p, hp, k', hk, rfl⟩ := inL l hl
      exact wy_zero74 knd fl hp hk
    have lL : L.length ≤ 4000 := by
      have h0 := List.length_filter_le (fun w => decide (w ≠ [])) (dd74 (pre74 ks (prsOf gs) TT M M))
      rw [eL] at h0
      have h1 := dd74_len (ls := pre74 ks (prsOf gs) TT M M)
      rw [pre74_len] at h1
      have : M * ks.length ≤ 8 * 8 := Nat.mul_le_mul hM k8
      omega
    walk_at "go2"
    refine ⟨D, _, rfl, eD, lL, fun l hl => by have := lenL l hl; omega, fun r2 p2 H17 pm2 pw2 hp2 s17 e17 => ?_⟩
    obtain rfl : r1 = r2 := short_uniq74 (pm1.trans pm2.symm) pw1 pw2
    walk_at "go2"
    refine v_tuple e17 fun t2 H18 ht2 s18 et2 => ?_
    have et1' := s18 _ _ (s17 _ _ (s1516 _ _ et1))
    refine v_neT74 et1' et2 (fun l hl c' hc' => let_lt74 _ (ok.lt _ ((zeroL l (pm1.subset hl)).2 c' hc'))) ?_
    have lr1 : r1.length ≤ 4000 := by rw [pm1.length_eq]; exact lL
    replace zeroL : ∀ l ∈ r1, walkT ks TT 0 l = 0 ∧ ∀ c ∈ l, c ∈ ks := fun l hl => zeroL l (pm1.subset hl)
    replace lenL : ∀ l ∈ r1, l.length ≤ 16 := fun l hl => lenL l (pm1.subset hl)
    have s1218 := (s1216.trans s17).trans s18
    have s1418 := (s1416.trans s17).trans s18
    have sc18 := (sc7.same s12).same s1218
    have ca18 := ca.same s1418
    have px18 := px14.same s1418
    have p18 : PenAt g H18 (1000 * i + 369) := ((p6.same s7).same s12).same s1218
    clear et2 e17 pm2 pw2 hp2 s17 s18 ht2 eD s1216 s1416 s1516 hD inL s1218 s1418 ca px14 px13 edd14 s1214 et1 ht1 s15 n1 nwy egv eEl eE hgv s13 s14 hc edd12 s12 p6 sc6 sc7 lL pm1 eL
    have psk := ScOk.small gs
    have mj : ∀ {a b : List Nat}, (∀ c ∈ a, c ∈ ks) → (∀ c ∈ b, c ∈ ks) → ∀ c ∈ joinOf ks (prsOf gs) a b, c ∈ ks := fun ha hb c hc => (joinOf_mem hc).elim (ha c) (hb c)
    have nn : ∀ c ∈ ([] : List Nat), c ∈ ks := by intro _ z; cases z
    walk_at "go2"
    refine v_lenT et1' ?_
    rw [strsV_len74]
    walk_at "go2"
    refine ⟨_, _, rfl, ?_⟩
    obtain ⟨rep, hr6, hrl, erep⟩ : ∃ rep : Nat, rep ≤ 6 ∧ (0 < rep → 0 < r1.length) ∧ (if ((r1.length : Nat) : Int) < 6 then ((r1.length : Nat) : Int) else 6) = (rep : Int) := by
      by_cases c : r1.length < 6
      · exact ⟨r1.length, by omega, id, by rw [if_pos (by omega)]⟩
      · exact ⟨6, Nat.le_refl _, fun _ => by omega, by rw [if_neg (by omega)]; rfl⟩
    walk_at "go2"
    rw [erep, Int.toNat_natCast]
    refine for_it (walk_rI (fun i => ((i : Nat) : Int)) (fun k => Int.zero_add _)) (fun j σ H' => ∃ y9, σ = [some (.ref sc), some (.ref g.p), some (.int ((i : Nat) : Int)), some (.ref q), some (.ref d), some (.ref u0), some (.ref df), some (.ref dd), y8, y9, y10, some (.ref c), some (.ref t1)] ∧ PenAt g H' (1000 * i + 369 + 3 * j) ∧ Keep g.p H18 H') ⟨_, rfl, p18, Keep.refl _ _⟩ (fun _ _ _ _ _ => trivial) ?_ ?_
    · rintro j v σ H19 H20 hj ⟨y9', rfl, p20, k20⟩ ⟨rfl, rfl⟩
      have hj : j < rep := hj
      have h0 := hrl (by omega)
      have ca20 := ca18.pen p18 k20
      have sc20 := sc18.pen p18 k20
      have et20 := k20 _ _ et1' (p18.tup_ne74 et1')
      obtain ⟨dy, gs2, n1, nat, _⟩ := ca20.no
      walk_at "go2"
      refine ⟨c, dy, gs2, rfl, n1, nat, ?_⟩
      walk_at "go2"
      refine ⟨g, _, t1, r1, rfl, et20, h0, by omega, p20, by omega, fun l H21 hl p21 k21 => ?_⟩
      have ca21 := ca20.pen p20 k21
      have sc21 := sc20.pen p20 k21
      have et21 := k21 _ _ et20 (p20.tup_ne74 et20)
      obtain ⟨zl, ml⟩ := zeroL l hl
      have ll := lenL l hl
      walk_at "go2"
      refine ⟨q, x, y, ks, gs, l, rfl, sc21, ml, by omega, fun rm H22 hrm s22 ra => ?_⟩
      have sc22 := sc21.same s22
      have j1 : walkT ks TT 0 (joinOf ks (prsOf gs) [] l) = 0 := by
        rw [walk_join fl.good fl.good.n0 _ nn ml, List.nil_append]
        exact zl
      walk_at "go2"
      refine ⟨c, x, rm, y, ks, prsOf gs, TT, M, _, rfl, ca21.same s22, sc22.px, ra, sc22.py, psk, fl.good.ok, fl.good.lT, fl.good.n0, mj nn ml, fun H23 s23 => ?_⟩
      rw [j1]
      have ca23 := (ca21.same s22).same s23
      have sc23 := sc22.same s23
      have et23 := s23 _ _ (s22 _ _ et21)
      have p23 := (p21.same s22).same s23
      have k23 : Keep g.p H18 H23 := fun b o hb nb => s23 _ _ (s22 _ _ (k21 _ _ (k20 _ _ hb nb) nb))
      clear ca20 sc20 et20 n1 nat p20 k20 ca21 sc21 et21 p21 k21 zl ml ll ra hrm s22 sc22 j1 s23
      obtain ⟨dy', gs3, n1, nat, _⟩ := ca23.no
      walk_at "go2"
      try refine if_ndec (fun z => absurd (show V.int ((0 : Nat) : Int) = V.int 0 from rfl) z) (fun _ => ?_)
      walk_at "go2"
      refine ⟨c, dy', gs3, rfl, n1, nat, ?_⟩
      walk_at "go2"
      refine ⟨g, _, t1, r1, rfl, et23, h0, by omega, p23, by omega, fun l H24 hl p24 k24 => ?_⟩
      have ca24 := ca23.pen p23 k24
      have sc24 := sc23.pen p23 k24
      have et24 := k24 _ _ et23 (p23.tup_ne74 et23)
      obtain ⟨zl, ml⟩ := zeroL l hl
      have ll := lenL l hl
      walk_at "go2"
      refine ⟨q, x, y, ks, gs, l, rfl, sc24, ml, by omega, fun rm H25 hrm s25 ra => ?_⟩
      walk_at "go2"
      refine ⟨g, _, t1, r1, rfl, s25 _ _ et24, h0, by omega, p24.same s25, by omega, fun l2 H26 hl2 p26 k26 => ?_⟩
      have p25 := p24.same s25
      have ca26 := (ca24.same s25).pen p25 k26
      have sc26 := (sc24.same s25).pen p25 k26
      obtain ⟨zl2, ml2⟩ := zeroL l2 hl2
      have ll2 := lenL l2 hl2
      have ra26 := ra.pen p25 k26
      have q1 := joinOf_len ks (prsOf gs) l []
      have q2 := joinOf_len ks (prsOf gs) l2 (joinOf ks (prsOf gs) [] l)
      rw [List.length_nil] at q1
      obtain ⟨dxr, exr⟩ := ra26.ex
      walk_at "go2"
      refine ⟨rm, dxr, _, _, rfl, rfl, exr, ⟨rm, y, ks, prsOf gs, _, l2, rfl, ra26, sc26.py, mj nn ml, ml2, by omega, by omega, by omega, fun r2 H27 hr2 s27 ra2 => ?_⟩⟩
      have j2 : walkT ks TT 0 (joinOf ks (prsOf gs) [] (joinOf ks (prsOf gs) (joinOf ks (prsOf gs) [] l) l2)) = 0 := by
        rw [walk_join fl.good fl.good.n0 _ nn (mj (mj nn ml) ml2), List.nil_append, walk_join fl.good fl.good.n0 _ (mj nn ml) ml2, walkT_app, walk_join fl.good fl.good.n0 _ nn ml, List.nil_append, zl]
        exact zl2
      walk_at "go2"
      refine ⟨c, x, r2, y, ks, prsOf gs, TT, M, _, rfl, ca26.same s27, (sc26.same s27).px, ra2, (sc26.same s27).py, psk, fl.good.ok, fl.good.lT, fl.good.n0, mj nn (mj (mj nn ml) ml2), fun H28 s28 => ?_⟩
      rw [j2]
      walk_at "go2"
      try refine if_ndec (fun z => absurd (show V.int ((0 : Nat) : Int) = V.int 0 from rfl) z) (fun _ => ?_)
      walk_at "go2"
      exact ⟨_, rfl, (((p26.same s27).same s28)).mono (by omega), fun b o hb nb => s28 _ _ (s27 _ _ (k26 _ _ (s25 _ _ (k24 _ _ (k23 _ _ hb nb) nb)) nb))⟩
    · rintro σ H19 ⟨y9', rfl, p19, k19⟩
      walk_at "go2"
      exact ⟨_, _, _, _, _, _, _, _, _, _, _, rfl, p19.mono (by omega)⟩
  · rintro σ H2 ⟨y2, y3, y4, y5, y6, y7, y8, y9, y10, y11, y12, rfl, p2⟩
    walk_at "go2"
    exact k H2
end
end
section
open PySem PySem.Spec L2
theorem end74 {w : World} {K : PySem.W.Frag} {mg : Str → Option Value} {C R O CL fa e0 : Addr} {fd : FuncData} {t1 t2 t3 : Tok}
    (c_Plan : ClsF K mg "Plan" C)
    (c_Room : ClsF K mg "Room" R)
    (c_Closed : ClsF K mg "Closed" CL)
    (e_OtherPlan : ExcF K mg "OtherPlan" O)
    (F_is_list : FnAt K mg "is_list" stis_list)
    (F_need_same : FnAt K mg "need_same" stneed_same)
    (F_are_letters : FnAt K mg "are_letters" stare_letters)
    (F_ascending : FnAt K mg "ascending" stascending)
    (F_checked_pairs : FnAt K mg "checked_pairs" stchecked_pairs)
    (F_need_few : FnAt K mg "need_few" stneed_few)
    (F_crossing_table : FnAt K mg "crossing_table" stcrossing_table)
    (F_is_integer : FnAt K mg "is_integer" stis_integer)
    (F_is_table_row : FnAt K mg "is_table_row" stis_table_row)
    (F_table_rows : FnAt K mg "table_rows" sttable_rows)
    (F_need_entries : FnAt K mg "need_entries" stneed_entries)
    (F_need_exchanged : FnAt K mg "need_exchanged" stneed_exchanged)
    (F_found_places : FnAt K mg "found_places" stfound_places)
    (F_numbered_rows : FnAt K mg "numbered_rows" stnumbered_rows)
    (F_need_way : FnAt K mg "need_way" stneed_way)
    (F_joined : FnAt K mg "joined" stjoined)
    (F_stepped : FnAt K mg "stepped" ststepped)
    (F_short74 : FnAt K mg "short_first" stshort74)
    (F_pen : FnAt K mg "_law_begin" stpen)
    (F_draw71 : FnAt K mg "_law_draw" stdraw71)
    (F_pick2 : FnAt K mg "_law_pick" stpick2)
    (F_pickT74 : FnAt K mg "_law_pick" stpickT74)
    (F_scene : FnAt K mg "_law_scene" stscene)
    (F_cross : FnAt K mg "_law_cross" stcross)
    (F_fit : FnAt K mg "_law_fit" stfit)
    (F_doors : FnAt K mg "_law_doors" stdoors)
    (F_lists71 : FnAt K mg "_law_lists" stlists71)
    (F_numbered71 : FnAt K mg "_law_numbered" stnumbered71)
    (F_room71 : FnAt K mg "_law_room" stroom71)
    (F_home74 : FnAt K mg "_law_home" sthome74)
    (F_go74 : FnAt K mg "_law_go" stgo74)
    (F_led74 : FnAt K mg "_law_led" stled74)
    (F_near74 : FnAt K mg "_law_near" stnear74)
    (F_name74 : FnAt K mg "_law_name" stname74)
    (F_lfirst74 : FnAt K mg "_law_first_ways" stlfirst74)
    (F_lshort74 : FnAt K mg "_law_by_length" stlshort74)
    (F_law : Fun K "law" "law" stlaw fa fd)
    (F_Plan_eq : MAt K C "__eq__" "Plan.__eq__" stPlan_eq)
    (F_Plan_init : MAtD K C "__init__" "Plan.__init__" stPlan_init [.ref e0])
    (F_Room_init : MAtD K R "__init__" "Room.__init__" stRoom_init [.str (tx [])])
    (F_Room_add : MAt K R "__add__" "Room.__add__" stRoom_add)
    (F_Closed_init : MAt K CL "__init__" "Closed.__init__" stClosed_init)
    (F_Closed_len : MAt K CL "__len__" "Closed.__len__" stClosed_len)
    (F_Closed_walked : MAt K CL "walked" "Closed.walked" stClosed_walked)
    (F_Closed_at : MAt K CL "at" "Closed.at" stClosed_at)
    (F_firstW74 : MAt K CL "first_ways" "Closed.first_ways" stfirstW74)
    (F_ways74 : MAt K CL "ways" "Closed.ways" stways74)
    (z_len : mg "len" = none)
    (z_int : mg "int" = none)
    (z_list : mg "list" = none)
    (z_isinstance : mg "isinstance" = none)
    (z_str : mg "str" = none)
    (z_all : mg "all" = none)
    (z_set : mg "set" = none)
    (z_tuple : mg "tuple" = none)
    (z_enumerate : mg "enumerate" = none)
    (z_range : mg "range" = none)
    (z_min : mg "min" = none)
    (z_max : mg "max" = none)
    (z_sorted : mg "sorted" = none)
    (z_dict : mg "dict" = none)
    (z_bool : mg "bool" = none)
    (z_zip : mg "zip" = none)
    (z_abs : mg "abs" = none)
    (n_C_kinds : NoAttr K C "kinds")
    (n_C_pairs : NoAttr K C "pairs")
    (n_C_own_crossing : NoAttr K C "own_crossing")
    (n_R_plan : NoAttr K R "plan")
    (n_R_name : NoAttr K R "name")
    (n_CL_plan : NoAttr K CL "plan")
    (n_CL_tables : NoAttr K CL "tables")
    (n_CL_own_places : NoAttr K CL "own_places")
    (g_LETTERS : mg "LETTERS" = some (.str (tx LET) t1))
    (g_MOST_KINDS : mg "MOST_KINDS" = some (.int 8 t2))
    (g_MOST_LETTERS : mg "MOST_LETTERS" = some (.int 2000 t3))
    (Room_sf : PySem.W.selfFirst K R = true) (base : Heap) : FnOk PySem.Challenge.pw_crosswalls_k74_ways_of_closed_floors w K mg base CX0 9 fa fd ["_law_script"] (spLaw K) := by
  have T : Txt K mg := ⟨z_len, z_int, z_list⟩
  have T1 : Txt71 K mg := ⟨T, z_abs⟩
  have TP : TxtP K mg C := ⟨z_len, z_int, z_list, z_isinstance, z_str, z_all, z_set, z_tuple, ⟨_, g_LETTERS⟩, ⟨_, g_MOST_KINDS⟩, c_Plan, n_C_kinds, n_C_pairs, n_C_own_crossing⟩
  have TR : TxtR K mg C R O := ⟨TP, z_enumerate, ⟨_, g_MOST_LETTERS⟩, c_Room, n_R_plan, n_R_name, e_OtherPlan⟩
  have TCl : TxtCl K mg := ⟨T1, z_tuple, z_enumerate⟩
  have TCp : TxtCp K mg C := ⟨TCl, z_zip, z_range, c_Plan, n_C_kinds, n_C_pairs⟩
  have TCi : TxtCi K mg C := ⟨TCp, z_all, z_bool, z_isinstance⟩
  have TCc : TxtCc K mg C CL := ⟨TCi, c_Closed, n_CL_plan, n_CL_tables, n_CL_own_places⟩
  have TCr : TxtCr K mg C R O CL := { TR, TCc with }
  have TS : TxtSc K mg C R O CL := { TCr with sorted := z_sorted, min := z_min, dict := z_dict }
  have D_draw := ok_draw71 (P := PySem.Challenge.pw_crosswalls_k74_ways_of_closed_floors) (w := w) (base := base) F_draw71 T1
  have D_pen := ok_pen (P := PySem.Challenge.pw_crosswalls_k74_ways_of_closed_floors) (w := w) (base := base) F_pen T
  have D_are := ok_are_letters (P := PySem.Challenge.pw_crosswalls_k74_ways_of_closed_floors) (w := w) (base := base) F_are_letters TP
  have D_asc := ok_ascending (P := PySem.Challenge.pw_crosswalls_k74_ways_of_closed_floors) (w := w) (base := base) F_ascending TP
  have D_isl := ok_is_list (P := PySem.Challenge.pw_crosswalls_k74_ways_of_closed_floors) (w := w) (base := base) F_is_list TP
  have D_few := ok_need_few (P := PySem.Challenge.pw_crosswalls_k74_ways_of_closed_floors) (w := w) (base := base) F_need_few TP
  have D_chk := ok_checked_pairs F_checked_pairs TP D_isl D_are D_asc
  have D_tab := ok_crossing_table (P := PySem.Challenge.pw_crosswalls_k74_ways_of_closed_floors) (w := w) (base := base) F_crossing_table TP
  have X_Plan := ok_Plan F_Plan_init rfl TP D_are D_asc D_chk D_few D_tab
  have M_Plan_eq := ok_Plan_eq (P := PySem.Challenge.pw_crosswalls_k74_ways_of_closed_floors) (w := w) (mg := mg) (base := base) F_Plan_eq TP
  have D_st := ok_stepped (P := PySem.Challenge.pw_crosswalls_k74_ways_of_closed_floors) (w := w) (base := base) F_stepped TP
  have D_jo := ok_joined F_joined D_st
  have D_ns := ok_need_same F_need_same TR M_Plan_eq
  have D_nw := ok_need_way (P := PySem.Challenge.pw_crosswalls_k74_ways_of_closed_floors) (w := w) (base := base) F_need_way TR
  have X_Room := ok_Room F_Room_init rfl TR D_nw D_jo
  have D_pick := ok_pick2 F_pick2 T D_draw
  have D_fp := ok_found_places (P := PySem.Challenge.pw_crosswalls_k74_ways_of_closed_floors) (w := w) (base := base) F_found_places TCl
  have D_nr := ok_numbered_rows F_numbered_rows TCl D_fp
  have D_ne := ok_need_entries (P := PySem.Challenge.pw_crosswalls_k74_ways_of_closed_floors) (w := w) (base := base) F_need_entries TCp
  have D_nx := ok_need_exchanged (P := PySem.Challenge.pw_crosswalls_k74_ways_of_closed_floors) (w := w) (base := base) F_need_exchanged TCp
  have D_ii := ok_is_integer71 (P := PySem.Challenge.pw_crosswalls_k74_ways_of_closed_floors) (w := w) (base := base) F_is_integer TCi
  have D_ir := ok_is_table_row F_is_table_row TCi D_isl D_ii
  have D_tr := ok_table_rows F_table_rows TCi D_isl D_ir
  have X_Cl := ok_Closed F_Closed_init TCc D_tr D_ne D_nx D_nr
  have M_len := ok_Closed_len (P := PySem.Challenge.pw_crosswalls_k74_ways_of_closed_floors) (w := w) (base := base) F_Closed_len TCc
  have M_wa := ok_Closed_walked (P := PySem.Challenge.pw_crosswalls_k74_ways_of_closed_floors) (w := w) (base := base) F_Closed_walked TCc
  have M_at := ok_Closed_at F_Closed_at TCr D_ns.calm M_wa
  have D_sc := ok_scene F_scene TS D_draw D_pick X_Plan.cdef
  have D_cr := ok_cross71 (P := PySem.Challenge.pw_crosswalls_k74_ways_of_closed_floors) (w := w) (mg := mg) (base := base) (C := C) F_cross
  have D_ro := ok_room71 F_room71 X_Room.cdef
  have D_fit := ok_fit71 F_fit TS D_cr
  have D_do := ok_doors71 F_doors TS D_draw D_pick D_fit
  have D_nu := ok_numbered71 (P := PySem.Challenge.pw_crosswalls_k74_ways_of_closed_floors) (w := w) (base := base) F_numbered71 TS
  have D_li := ok_lists71 (P := PySem.Challenge.pw_crosswalls_k74_ways_of_closed_floors) (w := w) (base := base) F_lists71 TS
  have T7 : Txt74 K mg C R O CL := { TS with max := z_max }
  have TL : Txt74L K mg C R O CL := { T7 with Room_sf := Room_sf }
  have D_pT := ok_pickT74 F_pickT74 T D_draw
  have M_add := ok_Room_add F_Room_add TR D_nw D_jo X_Room.cdef
  have D_home := ok_home74 (P := PySem.Challenge.pw_crosswalls_k74_ways_of_closed_floors) (w := w) (base := base) F_home74 TS
  have D_go := ok_go74 F_go74 TS D_cr
  have D_led := ok_led74 F_led74 TS D_go
  have D_near := ok_near74 (P := PySem.Challenge.pw_crosswalls_k74_ways_of_closed_floors) (w := w) (base := base) F_near74 TS
  have D_name := ok_name74 F_name74 TS D_home D_go D_led D_near
  have D_lf := ok_lfirst74 (P := PySem.Challenge.pw_crosswalls_k74_ways_of_closed_floors) (w := w) (base := base) F_lfirst74 TS
  have D_bl := ok_lshort74 (P := PySem.Challenge.pw_crosswalls_k74_ways_of_closed_floors) (w := w) (base := base) F_lshort74 T7
  have D_sh := ok_short74 (P := PySem.Challenge.pw_crosswalls_k74_ways_of_closed_floors) (w := w) (base := base) F_short74 T7
  have M_fw := ok_firstW74 F_firstW74 TS M_len
  have M_wy := ok_ways74 F_ways74 T7 M_len M_fw X_Room.cdef D_sh
  exact ok_law74 F_law TL D_pen D_draw D_pick D_pT D_sc D_do D_li D_nu D_lf D_name D_bl D_ro X_Cl.cdef M_wy M_at M_add
end
end Cw
set_option Elab.async false
set_option linter.all false
set_option maxRecDepth 100000
open PySem PySem.W PyProof.Rows
set_option maxRecDepth 100000 in
set_option maxHeartbeats 0 in
theorem PySem.Challenge.cw_crosswalls_k74_ways_of_closed_floors_holds : PySem.Challenge.rw_crosswalls_k74_ways_of_closed_floors.Holds := by
  refine Cw.headOf ?_
  k_fill
  refine Cw.end_walk (l := PySem.Challenge.rw_crosswalls_k74_ways_of_closed_floors) (k := 9) (x := "_law_script") (sp := Cw.spLaw) rfl rfl ⟨rfl, by decide, by decide⟩ (fun w h Y => PySem.W.kIn_of Y) (fun _ _ a ns hl _ hS => ⟨a, ns, rfl, hS, hl, fun _ => rfl⟩) ?F
  case F =>
    intro w mg fa h KX G hmg
    refine' ⟨_, fun s v => ?b, fun base _ _ => ?h⟩
    case h =>
      refine' Cw.end74 ?c_Plan ?c_Room ?c_Closed ?e_OtherPlan ?F_is_list ?F_need_same ?F_are_letters ?F_ascending ?F_checked_pairs ?F_need_few ?F_crossing_table ?F_is_integer ?F_is_table_row ?F_table_rows ?F_need_entries ?F_need_exchanged ?F_found_places ?F_numbered_rows ?F_need_way ?F_joined ?F_stepped ?F_short74 ?F_pen ?F_draw71 ?F_pick2 ?F_pickT74 ?F_scene ?F_cross ?F_fit ?F_doors ?F_lists71 ?F_numbered71 ?F_room71 ?F_home74 ?F_go74 ?F_led74 ?F_near74 ?F_name74 ?F_lfirst74 ?F_lshort74 ?F_law ?F_Plan_eq ?F_Plan_init ?F_Room_init ?F_Room_add ?F_Closed_init ?F_Closed_len ?F_Closed_walked ?F_Closed_at ?F_firstW74 ?F_ways74 ?z_len ?z_int ?z_list ?z_isinstance ?z_str ?z_all ?z_set ?z_tuple ?z_enumerate ?z_range ?z_min ?z_max ?z_sorted ?z_dict ?z_bool ?z_zip ?z_abs ?n_C_kinds ?n_C_pairs ?n_C_own_crossing ?n_R_plan ?n_R_name ?n_CL_plan ?n_CL_tables ?n_CL_own_places ?g_LETTERS ?g_MOST_KINDS ?g_MOST_LETTERS ?Room_sf base
      case c_Plan => refine' Cw.cls_mk KX G ?a ?pg ?hd ?po ?sa ?mk ?kc ?ha ?hn ?ht ?hm ?ob ?ne; (case a => k_is); (case pg => k_is); (case hd => k_is); (case po => k_is); (case sa => k_is); (case mk => k_is); (case kc => k_is); (case ha => k_is); (case hn => k_is); (case ht => k_is); (case hm => k_is); (case ob => k_is); (case ne => k_is)
      case c_Room => refine' Cw.cls_mk KX G ?a ?pg ?hd ?po ?sa ?mk ?kc ?ha ?hn ?ht ?hm ?ob ?ne; (case a => k_is); (case pg => k_is); (case hd => k_is); (case po => k_is); (case sa => k_is); (case mk => k_is); (case kc => k_is); (case ha => k_is); (case hn => k_is); (case ht => k_is); (case hm => k_is); (case ob => k_is); (case ne => k_is)
      case c_Closed => refine' Cw.cls_mk KX G ?a ?pg ?hd ?po ?sa ?mk ?kc ?ha ?hn ?ht ?hm ?ob ?ne; (case a => k_is); (case pg => k_is); (case hd => k_is); (case po => k_is); (case sa => k_is); (case mk => k_is); (case kc => k_is); (case ha => k_is); (case hn => k_is); (case ht => k_is); (case hm => k_is); (case ob => k_is); (case ne => k_is)
      case e_OtherPlan => refine' Cw.exc_mk KX G ?a ?e ?k ?ty ?hg ?hk ?hs ?hd ?ha ?hn ?ht ?hm; (case a => k_is); (case k => k_is); (case ty => k_is); (case hg => k_is); (case hk => k_is); (case hs => k_is); (case hd => k_is); (case ha => k_is); (case hn => k_is); (case ht => k_is); (case hm => k_is); (case e => k_exc)
      case F_is_list => refine' Cw.fnAt_mk KX G ?a ?l ?c ?k; (case a => k_is); (case l => k_is); (case c => k_is); (case k => k_is)
      case F_need_same => refine' Cw.fnAt_mk KX G ?a ?l ?c ?k; (case a => k_is); (case l => k_is); (case c => k_is); (case k => k_is)
      case F_are_letters => refine' Cw.fnAt_mk KX G ?a ?l ?c ?k; (case a => k_is); (case l => k_is); (case c => k_is); (case k => k_is)
      case F_ascending => refine' Cw.fnAt_mk KX G ?a ?l ?c ?k; (case a => k_is); (case l => k_is); (case c => k_is); (case k => k_is)
      case F_checked_pairs => refine' Cw.fnAt_mk KX G ?a ?l ?c ?k; (case a => k_is); (case l => k_is); (case c => k_is); (case k => k_is)
      case F_need_few => refine' Cw.fnAt_mk KX G ?a ?l ?c ?k; (case a => k_is); (case l => k_is); (case c => k_is); (case k => k_is)
      case F_crossing_table => refine' Cw.fnAt_mk KX G ?a ?l ?c ?k; (case a => k_is); (case l => k_is); (case c => k_is); (case k => k_is)
      case F_is_integer => refine' Cw.fnAt_mk KX G ?a ?l ?c ?k; (case a => k_is); (case l => k_is); (case c => k_is); (case k => k_is)
      case F_is_table_row => refine' Cw.fnAt_mk KX G ?a ?l ?c ?k; (case a => k_is); (case l => k_is); (case c => k_is); (case k => k_is)
      case F_table_rows => refine' Cw.fnAt_mk KX G ?a ?l ?c ?k; (case a => k_is); (case l => k_is); (case c => k_is); (case k => k_is)
      case F_need_entries => refine' Cw.fnAt_mk KX G ?a ?l ?c ?k; (case a => k_is); (case l => k_is); (case c => k_is); (case k => k_is)
      case F_need_exchanged => refine' Cw.fnAt_mk KX G ?a ?l ?c ?k; (case a => k_is); (case l => k_is); (case c => k_is); (case k => k_is)
      case F_found_places => refine' Cw.fnAt_mk KX G ?a ?l ?c ?k; (case a => k_is); (case l => k_is); (case c => k_is); (case k => k_is)
      case F_numbered_rows => refine' Cw.fnAt_mk KX G ?a ?l ?c ?k; (case a => k_is); (case l => k_is); (case c => k_is); (case k => k_is)
      case F_need_way => refine' Cw.fnAt_mk KX G ?a ?l ?c ?k; (case a => k_is); (case l => k_is); (case c => k_is); (case k => k_is)
      case F_joined => refine' Cw.fnAt_mk KX G ?a ?l ?c ?k; (case a => k_is); (case l => k_is); (case c => k_is); (case k => k_is)
      case F_stepped => refine' Cw.fnAt_mk KX G ?a ?l ?c ?k; (case a => k_is); (case l => k_is); (case c => k_is); (case k => k_is)
      case F_short74 => refine' Cw.fnAt_mk KX G ?a ?l ?c ?k; (case a => k_is); (case l => k_is); (case c => k_is); (case k => k_is)
      case F_pen => refine' Cw.fnAt_mk KX G ?a ?l ?c ?k; (case a => k_is); (case l => k_is); (case c => k_is); (case k => k_is)
      case F_draw71 => refine' Cw.fnAt_mk KX G ?a ?l ?c ?k; (case a => k_is); (case l => k_is); (case c => k_is); (case k => k_is)
      case F_pick2 => refine' Cw.fnAt_mk KX G ?a ?l ?c ?k; (case a => k_is); (case l => k_is); (case c => k_is); (case k => k_is)
      case F_pickT74 => refine' Cw.fnAt_mk KX G ?a ?l ?c ?k; (case a => k_is); (case l => k_is); (case c => k_is); (case k => k_is)
      case F_scene => refine' Cw.fnAt_mk KX G ?a ?l ?c ?k; (case a => k_is); (case l => k_is); (case c => k_is); (case k => k_is)
      case F_cross => refine' Cw.fnAt_mk KX G ?a ?l ?c ?k; (case a => k_is); (case l => k_is); (case c => k_is); (case k => k_is)
      case F_fit => refine' Cw.fnAt_mk KX G ?a ?l ?c ?k; (case a => k_is); (case l => k_is); (case c => k_is); (case k => k_is)
      case F_doors => refine' Cw.fnAt_mk KX G ?a ?l ?c ?k; (case a => k_is); (case l => k_is); (case c => k_is); (case k => k_is)
      case F_lists71 => refine' Cw.fnAt_mk KX G ?a ?l ?c ?k; (case a => k_is); (case l => k_is); (case c => k_is); (case k => k_is)
      case F_numbered71 => refine' Cw.fnAt_mk KX G ?a ?l ?c ?k; (case a => k_is); (case l => k_is); (case c => k_is); (case k => k_is)
      case F_room71 => refine' Cw.fnAt_mk KX G ?a ?l ?c ?k; (case a => k_is); (case l => k_is); (case c => k_is); (case k => k_is)
      case F_home74 => refine' Cw.fnAt_mk KX G ?a ?l ?c ?k; (case a => k_is); (case l => k_is); (case c => k_is); (case k => k_is)
      case F_go74 => refine' Cw.fnAt_mk KX G ?a ?l ?c ?k; (case a => k_is); (case l => k_is); (case c => k_is); (case k => k_is)
      case F_led74 => refine' Cw.fnAt_mk KX G ?a ?l ?c ?k; (case a => k_is); (case l => k_is); (case c => k_is); (case k => k_is)
      case F_near74 => refine' Cw.fnAt_mk KX G ?a ?l ?c ?k; (case a => k_is); (case l => k_is); (case c => k_is); (case k => k_is)
      case F_name74 => refine' Cw.fnAt_mk KX G ?a ?l ?c ?k; (case a => k_is); (case l => k_is); (case c => k_is); (case k => k_is)
      case F_lfirst74 => refine' Cw.fnAt_mk KX G ?a ?l ?c ?k; (case a => k_is); (case l => k_is); (case c => k_is); (case k => k_is)
      case F_lshort74 => refine' Cw.fnAt_mk KX G ?a ?l ?c ?k; (case a => k_is); (case l => k_is); (case c => k_is); (case k => k_is)
      case F_law => refine' Cw.fun1_mk KX G hmg ?a ?l ?c ?k; (case a => k_is); (case l => k_is); (case c => k_is); (case k => k_is)
      case F_Plan_eq => refine' Cw.mAt_mk ?a ?i ?l ?c ?k; (case a => k_is); (case i => k_is); (case l => k_is); (case c => k_is); (case k => k_is)
      case F_Plan_init => refine' Cw.mAtD_mk ?a ?i ?l ?c ?k ?t ?v ?d; (case a => k_is); (case i => k_is); (case l => k_is); (case c => k_is); (case k => k_is); (case t => k_is); (case v => exact .cons rfl .nil); (case d => intro z; cases z)
      case F_Room_init => refine' Cw.mAtD_mk ?a ?i ?l ?c ?k ?t ?v ?d; (case a => k_is); (case i => k_is); (case l => k_is); (case c => k_is); (case k => k_is); (case t => k_is); (case v => exact .cons ⟨_, rfl⟩ .nil); (case d => intro z; cases z)
      case F_Room_add => refine' Cw.mAt_mk ?a ?i ?l ?c ?k; (case a => k_is); (case i => k_is); (case l => k_is); (case c => k_is); (case k => k_is)
      case F_Closed_init => refine' Cw.mAt_mk ?a ?i ?l ?c ?k; (case a => k_is); (case i => k_is); (case l => k_is); (case c => k_is); (case k => k_is)
      case F_Closed_len => refine' Cw.mAt_mk ?a ?i ?l ?c ?k; (case a => k_is); (case i => k_is); (case l => k_is); (case c => k_is); (case k => k_is)
      case F_Closed_walked => refine' Cw.mAt_mk ?a ?i ?l ?c ?k; (case a => k_is); (case i => k_is); (case l => k_is); (case c => k_is); (case k => k_is)
      case F_Closed_at => refine' Cw.mAt_mk ?a ?i ?l ?c ?k; (case a => k_is); (case i => k_is); (case l => k_is); (case c => k_is); (case k => k_is)
      case F_firstW74 => refine' Cw.mAt_mk ?a ?i ?l ?c ?k; (case a => k_is); (case i => k_is); (case l => k_is); (case c => k_is); (case k => k_is)
      case F_ways74 => refine' Cw.mAt_mk ?a ?i ?l ?c ?k; (case a => k_is); (case i => k_is); (case l => k_is); (case c => k_is); (case k => k_is)
      case z_len => refine' PySem.W.mg_none_of KX G ?a; (case a => k_is)
      case z_int => refine' PySem.W.mg_none_of KX G ?a; (case a => k_is)
      case z_list => refine' PySem.W.mg_none_of KX G ?a; (case a => k_is)
      case z_isinstance => refine' PySem.W.mg_none_of KX G ?a; (case a => k_is)
      case z_str => refine' PySem.W.mg_none_of KX G ?a; (case a => k_is)
      case z_all => refine' PySem.W.mg_none_of KX G ?a; (case a => k_is)
      case z_set => refine' PySem.W.mg_none_of KX G ?a; (case a => k_is)
      case z_tuple => refine' PySem.W.mg_none_of KX G ?a; (case a => k_is)
      case z_enumerate => refine' PySem.W.mg_none_of KX G ?a; (case a => k_is)
      case z_range => refine' PySem.W.mg_none_of KX G ?a; (case a => k_is)
      case z_min => refine' PySem.W.mg_none_of KX G ?a; (case a => k_is)
      case z_max => refine' PySem.W.mg_none_of KX G ?a; (case a => k_is)
      case z_sorted => refine' PySem.W.mg_none_of KX G ?a; (case a => k_is)
      case z_dict => refine' PySem.W.mg_none_of KX G ?a; (case a => k_is)
      case z_bool => refine' PySem.W.mg_none_of KX G ?a; (case a => k_is)
      case z_zip => refine' PySem.W.mg_none_of KX G ?a; (case a => k_is)
      case z_abs => refine' PySem.W.mg_none_of KX G ?a; (case a => k_is)
      case n_C_kinds => unfold L2.NoAttr; k_is
      case n_C_pairs => unfold L2.NoAttr; k_is
      case n_C_own_crossing => unfold L2.NoAttr; k_is
      case n_R_plan => unfold L2.NoAttr; k_is
      case n_R_name => unfold L2.NoAttr; k_is
      case n_CL_plan => unfold L2.NoAttr; k_is
      case n_CL_tables => unfold L2.NoAttr; k_is
      case n_CL_own_places => unfold L2.NoAttr; k_is
      case g_LETTERS => refine' Cw.glob_mk KX G ?a; (case a => k_is)
      case g_MOST_KINDS => refine' Cw.glob_mk KX G ?a; (case a => k_is)
      case g_MOST_LETTERS => refine' Cw.glob_mk KX G ?a; (case a => k_is)
      case Room_sf => first | k_is | k_exc | kernel_rfl
    case b => exact .of_eq rfl
