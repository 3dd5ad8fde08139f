import PyProof.Rows.All
import Wide.All
import OpenK.AllK
import Wide.FinOn
import PySem.Challenge.RW_crosswalls_k06_least_of_all_shortest_way
import HandS.ForMost
import HandS.ForExc
import HandS.Wide
import HandS.Style
import HandS.Flow
import HandS.IsInst
import HandS.OwnEq
import PyProof.Rows.SetFrom
import PyProof.StrWalks
import PyProof.InstNe
import HandS.Exc
import HandS.Defaults
import HandS.Walk
import PyProof.Rows.StrRev
import HandS.Steps
import KE.GoesMore
import HandS.TupLe
import HandS.ExcOwn
import HandS.ExcIs
import PyProof.ExcBaseAll.ValueError
import HandS.Iter
import HandS.Conv
import HandS.More
import HandS.WordsExc
import HandS.MakeKw
import HandS.MakeKwOnly
import HandS.Codes
import PyProof.FString5
import HandS.SortInts
import HandS.SortKw
import HandS.Set
import HandS.SetFor
import PyProof.JoinWalk
import PyProof.CollectIter
import PyProof.DictWalks
import PyProof.FactsAll.dict_keyiterator_1
import PyProof.Rows.StrJoin2
import KE.KDictList
import HandS.TryOnly
import HandS.RaiseMore
import HandS.Ends
set_option Elab.async false
set_option linter.all false
set_option maxRecDepth 100000
open PySem PySem.W PyProof.Rows in
set_option maxHeartbeats 0 in
open_top Cw.headOf for PySem.Challenge.rw_crosswalls_k06_least_of_all_shortest_way
set_option Elab.async false
set_option maxRecDepth 100000
set_option maxHeartbeats 4000000
/-! Own words over the hand layer: defs by name, texts as lists of codes. -/
namespace Cw
open PySem PySem.Spec PyProof.Rows L2

/-! ### defs by their module name -/
/-- a def of the module stands as the text has it -/
structure FnAt (K : PySem.W.Frag) (mg : Str → Option Value) (x : Str) (st : Stmt) : Prop where
  ex : ∃ f fd, mg x = some (.ref f) ∧ Fun K x x st f fd
/-- how a def's arguments bind where all are given, and where it stands -/
structure Bd (K : PySem.W.Frag) (f : Addr) (fd : FuncData) (ps : List Str) : Prop where
  b : Binds K fd ps []
  lk : ∃ oc od osl, K.lookup f = some ⟨oc, od, .func fd, osl⟩
theorem funLk {K : PySem.W.Frag} {x qual : Str} {st : Stmt} {f : Addr} {fd : FuncData} (F : Fun K x qual st f fd) : ∃ oc od osl, K.lookup f = some ⟨oc, od, .func fd, osl⟩ := by
  obtain ⟨oc, od, kV, doc, pm, an, cdv, ct, osl, rfl, lk, _⟩ := F.ex
  exact ⟨oc, od, osl, lk⟩
/-- a def of the module keeps a promise -/
structure Def (P : Program) (w : World) (K : PySem.W.Frag) (mg : Str → Option Value) (base : Heap) (CX : CXT) (k : Nat) (x : Str) (ps : List Str) (sp : Sp) : Prop where
  ex : ∃ f fd, mg x = some (.ref f) ∧ PySem.W.keepIn K (.ref f) = true ∧ Bd K f fd ps ∧ FnOk P w K mg base CX k f fd ps sp
section
variable {P : Program} {w : World} {K : PySem.W.Frag} {mg : Str → Option Value} {base : Heap} {CX : CXT} {k : Nat} {x : Str} {ps N : List Str} {sp : Sp} {st : Stmt}
theorem Def.mono {j : Nat} (D : Def P w K mg base CX j x ps sp) (h : j ≤ k) : Def P w K mg base CX k x ps sp := by
  obtain ⟨f, fd, a, b, c, d⟩ := D.ex
  exact ⟨f, fd, a, b, c, d.mono h⟩
theorem Def.imp {sp' : Sp} (D : Def P w K mg base CX k x ps sp) (h : ∀ vs H Q E, sp' vs H Q E → sp vs H Q E) : Def P w K mg base CX k x ps sp' := by
  obtain ⟨f, fd, a, b, c, d⟩ := D.ex
  exact ⟨f, fd, a, b, c, d.imp h⟩
/-- a def that lets no exception out -/
theorem FnAt.ok (F : FnAt K mg x st) (S : FnScope N ps (defScope st))
    (hb : ∀ (kV doc pm : Value) (an : Option Addr) (cdv ct : Value) (us : List Value), us.length = ps.length → bindArgs (PySem.W.fnOf x x (defArgs st) (defBody st) (defScope st) .none kV doc pm an cdv ct) ⟨us, []⟩ = pure (ps.zip us))
    (len : ∀ vs H Q E, sp vs H Q E → vs.length = ps.length)
    (hbody : ∀ (f : Addr) (cdv : Value) (A : Around) (outer : List Env) (s : Shared) (H : Hp) (vs : List V) (Q : VK) (E : XK), Room k (A.deeper (envOfC x (defScope st) s.heap.objs.size f cdv)) → sp vs H Q E →
      ∃ t, PSs (cxOf CX0 P w K mg base N x (defScope st) f cdv A outer s H E).nox (defBody st) t ∧ t { nx := fun _ H' => Q .non H', rt := Q } (start N vs) H) : Def P w K mg base CX0 (k + 1) x ps sp := by
  obtain ⟨f, fd, hm, F⟩ := F.ex
  exact ⟨f, fd, hm, F.kp, ⟨F.binds hb, funLk F⟩, F.ok S len fun cdv A outer s H vs Q E hr h => hbody f cdv A outer s H vs Q E hr h⟩
/-- a def that may raise -/
theorem FnAt.okX (F : FnAt K mg x st) (S : FnScope N ps (defScope st))
    (hb : ∀ (kV doc pm : Value) (an : Option Addr) (cdv ct : Value) (us : List Value), us.length = ps.length → bindArgs (PySem.W.fnOf x x (defArgs st) (defBody st) (defScope st) .none kV doc pm an cdv ct) ⟨us, []⟩ = pure (ps.zip us))
    (len : ∀ vs H Q E, sp vs H Q E → vs.length = ps.length)
    (hbody : ∀ (f : Addr) (cdv : Value) (A : Around) (outer : List Env) (s : Shared) (H : Hp) (vs : List V) (Q : VK) (E : XK), Room k (A.deeper (envOfC x (defScope st) s.heap.objs.size f cdv)) → sp vs H Q E →
      ∃ t, PSs (cxOf (L2.CX P w) P w K mg base N x (defScope st) f cdv A outer s H E) (defBody st) t ∧ t { nx := fun _ H' => Q .non H', rt := Q } (start N vs) H) : Def P w K mg base (L2.CX P w) (k + 1) x ps sp := by
  obtain ⟨f, fd, hm, F⟩ := F.ex
  exact ⟨f, fd, hm, F.kp, ⟨F.binds hb, funLk F⟩, F.okX S len fun cdv A outer s H vs Q E hr h => hbody f cdv A outer s H vs Q E hr h⟩
end
section
variable {X : Cx} {CX : CXT} {k : Nat} {ps : List Str} {sp : Sp} {E : XK} {x : Str} {p pos : PySem.Pos} {e : Expr} {es : List Expr} {t : TA}
/-- f(e, ..) of a def that is known by its name -/
theorem pe_cd (D : Def X.prog X.w X.K X.mg X.base CX k x ps sp) (hr : Room k X.A) (hx : Passes CX X E) (ha : PA X (e :: es) t) (hg : Gl X x := by rfl) (hdb : (x == ("__debug__" : Str)) = false := by decide)
    (he : starEach (e :: es) X.env = (false, eval e X.env) :: starEach es X.env := by rfl) (hpl : (backTo pos (starEach es X.env)).any (·.1) = false := by rfl) : PE X (.Call (.Name x p) (e :: es) [] pos) (tCall sp [] E t) := by
  obtain ⟨f, fd, a, b, c, d⟩ := D.ex
  exact pe_call d hr hg a b c.b .nil hx ha hdb he hpl
end
/-! ### heaps -/
/-- all but the object at p is kept -/
def Keep (p : Addr) (H H' : Hp) : Prop := ∀ b o, H b = some o → b ≠ p → H' b = some o
theorem Keep.refl (p : Addr) (H : Hp) : Keep p H H := fun _ _ h _ => h
theorem Keep.trans {p : Addr} {H H1 H2 : Hp} (a : Keep p H H1) (b : Keep p H1 H2) : Keep p H H2 := fun c o h n => b c o (a c o h n) n
theorem Keep.of {p : Addr} {H H' : Hp} (a : Same H H') : Keep p H H' := fun c o h _ => a c o h
theorem Same.at {H H' : Hp} {a : Addr} {o : HO} (S : Same H H') (h : H a = some o) : H' a = some o := S a o h
theorem Keep.at {p : Addr} {H H' : Hp} {a : Addr} {o : HO} (S : Keep p H H') (h : H a = some o) (n : a ≠ p) : H' a = some o := S a o h n
theorem Same.new {H : Hp} {p : Addr} {o : HO} (h : H p = none) : Same H (upd H p o) := fun a u e => by
  rw [upd_ne (ne_of_none e h)]
  exact e
theorem Keep.put {p : Addr} {H : Hp} {o : HO} : Keep p H (upd H p o) := fun a u e n => by
  rw [upd_ne n]
  exact e
end Cw
set_option Elab.async false
set_option linter.all false
set_option maxRecDepth 100000
set_option maxHeartbeats 4000000
namespace Cw
open PySem PySem.Spec L2
/-! ### texts as lists of codes -/
abbrev tx (l : List Nat) : Str := ⟨l.toArray⟩
theorem tx_len (l : List Nat) : (tx l).length = l.length := by
  show (l.toArray).size = l.length
  simp
theorem tx_app (a b : List Nat) : tx a ++ tx b = tx (a ++ b) := by
  show (⟨a.toArray ++ b.toArray⟩ : Str) = ⟨(a ++ b).toArray⟩
  simp
theorem tx_eq {z : Str} : z = tx z.cps.toList := by
  cases z
  simp [tx]
theorem tx_inj {a b : List Nat} : tx a = tx b ↔ a = b := by
  constructor
  · intro h
    have := congrArg (fun z : Str => z.cps.toList) h
    simpa using this
  · intro h
    rw [h]
theorem dec_tx {a b : List Nat} : decide (V.str (tx a) = V.str (tx b)) = decide (a = b) := by
  rw [Bool.eq_iff_iff, decide_eq_true_iff, decide_eq_true_iff]
  constructor
  · intro h
    injection h with h
    exact tx_inj.mp h
  · intro h
    rw [h]

/-! ### stepping: expressions -/
section
variable {σ : St} {H : Hp} {Q : VK} {i : Nat} {v x y : V} {ta tb te : TE} {r : R2} {D : Ends} {K : PySem.W.Frag}
theorem e_var (h : σ[i]? = some (some v)) (q : Q v H) : tVar i σ H Q := ⟨v, h, q⟩
theorem e_c (q : Q v H) : tC v σ H Q := q
theorem e_op (q : ta σ H fun x H1 => tb σ H1 fun y H2 => r x y H2 Q) : tOp r ta tb σ H Q := q
theorem e_un {r : V → Hp → VK → Prop} (q : ta σ H fun x H1 => r x H1 Q) : tUn r ta σ H Q := q
theorem v_I0 {g : Int → Int → V} {a b : Int} (q : Q (g a b) H) : rI0 g (.int a) (.int b) H Q := ⟨a, b, rfl, rfl, q⟩
theorem v_I {C : Int → Int → Prop} {g : Int → Int → V} {a b : Int} (c : C a b) (q : Q (g a b) H) : rI C g (.int a) (.int b) H Q := ⟨a, b, rfl, rfl, c, q⟩
theorem v_eq (c : scal x y = true) (q : Q (.bl (decide (x = y))) H) : rEq x y H Q := ⟨c, q⟩
theorem v_ne (c : scal x y = true) (q : Q (.bl (!decide (x = y))) H) : rNe x y H Q := ⟨c, q⟩
theorem v_bl {P : Bool → Prop} {b : Bool} (q : P b) : ∃ k, V.bl b = V.bl k ∧ P k := ⟨b, rfl, q⟩
theorem v_int {P : Int → Prop} {b : Int} (q : P b) : ∃ k, V.int b = V.int k ∧ P k := ⟨b, rfl, q⟩
theorem v_str {P : Str → Prop} {b : Str} (q : P b) : ∃ k, V.str b = V.str k ∧ P k := ⟨b, rfl, q⟩
theorem e_andV (q : ta σ H fun x H1 => ∃ c, x = .bl c ∧ if c = true then tb σ H1 Q else Q (.bl false) H1) : tAndV ta tb σ H Q := q
theorem e_orV (q : ta σ H fun x H1 => ∃ c, x = .bl c ∧ if c = true then Q (.bl true) H1 else tb σ H1 Q) : tOrV ta tb σ H Q := q
theorem e_notV (q : ta σ H fun x H1 => ∃ c, x = .bl c ∧ Q (.bl (!c)) H1) : tNotV ta σ H Q := q
theorem e_if {t : TT} (q : t σ H fun c H1 => if c = true then ta σ H1 Q else tb σ H1 Q) : tIf t ta tb σ H Q := q
theorem e_nil {Q : List V → Hp → Prop} (q : Q [] H) : tNil σ H Q := q
theorem e_cons {tr : TA} {Q : List V → Hp → Prop} (q : ta σ H fun x H1 => tr σ H1 fun xs H2 => Q (x :: xs) H2) : tCons ta tr σ H Q := q
theorem e_cb {r : List V → Hp → VK → Prop} {t : TA} (q : t σ H fun vs H1 => r vs H1 Q) : tCB r t σ H Q := q
theorem e_call {sp : Sp} {E : XK} {t : TA} (q : t σ H fun vs H1 => sp vs H1 Q E) : tCall sp [] E t σ H Q := by
  show t σ H fun vs H1 => sp (vs ++ []) H1 Q E
  simpa using q
theorem e_fld {f : Str} (q : ta σ H fun x H1 => ∃ a C dx fs v, x = .ref a ∧ H1 a = some (.ins C dx fs) ∧ Cls K C ∧ NoAttr K C f ∧ fs.lookup f = some v ∧ Q v H1) : tFld K ta f σ H Q := q
theorem e_dget (q : ta σ H fun x H1 => tb σ H1 fun y H2 => ∃ a v, x = .ref a ∧ DGet H2 a y (some v) ∧ Q v H2) : tDGet ta tb σ H Q := q
theorem v_dget {P : V → Prop} {a : Addr} (h : DGet H a y (some v)) (q : P v) : ∃ a' v, V.ref a = .ref a' ∧ DGet H a' y (some v) ∧ P v := ⟨a, v, rfl, h, q⟩
theorem e_lst {t : TA} (q : t σ H fun xs H1 => xs.length ≤ sizeLine ∧ ∀ p H2, H1 p = none → H2 = upd H1 p (.lst xs) → Q (.ref p) H2) : tLst t σ H Q := by
  have e : (fun (xs : List V) (H1 : Hp) => xs.length ≤ sizeLine ∧ ∀ p H2, H1 p = none → H2 = upd H1 p (.lst xs) → Q (.ref p) H2) = (fun xs H1 => xs.length ≤ sizeLine ∧ ∀ p, H1 p = none → Q (.ref p) (upd H1 p (.lst xs))) := by
    funext xs H1
    exact propext ⟨fun h => ⟨h.1, fun p hp => h.2 p _ hp rfl⟩, fun h => ⟨h.1, fun p H2 hp e => e ▸ h.2 p hp⟩⟩
  rw [e] at q
  exact q
theorem e_tup {t : TA} (q : t σ H fun xs H1 => xs.length ≤ sizeLine ∧ ∀ p H2, H1 p = none → H2 = upd H1 p (.tup xs) → Q (.ref p) H2) : tTup t σ H Q := by
  have e : (fun (xs : List V) (H1 : Hp) => xs.length ≤ sizeLine ∧ ∀ p H2, H1 p = none → H2 = upd H1 p (.tup xs) → Q (.ref p) H2) = (fun xs H1 => xs.length ≤ sizeLine ∧ ∀ p, H1 p = none → Q (.ref p) (upd H1 p (.tup xs))) := by
    funext xs H1
    exact propext ⟨fun h => ⟨h.1, fun p hp => h.2 p _ hp rfl⟩, fun h => ⟨h.1, fun p H2 hp e => e ▸ h.2 p hp⟩⟩
  rw [e] at q
  exact q
theorem e_dnew (q : ∀ p H', H p = none → Same H H' → H' p = some (.dK []) → Q (.ref p) H') : tDNewK σ H Q := fun p h => q p _ h (Same.new h) upd_same
theorem szl {n : Nat} (h : n ≤ 1000000) : n ≤ sizeLine := Nat.le_trans h (by decide)
theorem szlt {n : Nat} (h : n < 1000000) : n < sizeLine := Nat.lt_of_lt_of_le h (by decide)
theorem v_new {o : HO} (q : ∀ p H', H p = none → Same H H' → H' p = some o → Q (.ref p) H') : ∀ p, H p = none → Q (.ref p) (upd H p o) := fun p h => q p _ h (Same.new h) upd_same
theorem v_lst {xs : List V} {P : Addr → Hp → Prop} (h : xs.length ≤ 1000000) (q : ∀ p H', H p = none → Same H H' → H' p = some (.lst xs) → P p H') : xs.length ≤ sizeLine ∧ ∀ p H2, H p = none → H2 = upd H p (.lst xs) → P p H2 := ⟨szl h, fun p H2 hp e => q p H2 hp (e ▸ Same.new hp) (e ▸ upd_same)⟩
theorem v_tup {xs : List V} {P : Addr → Hp → Prop} (h : xs.length ≤ 1000000) (q : ∀ p H', H p = none → Same H H' → H' p = some (.tup xs) → P p H') : xs.length ≤ sizeLine ∧ ∀ p H2, H p = none → H2 = upd H p (.tup xs) → P p H2 := ⟨szl h, fun p H2 hp e => q p H2 hp (e ▸ Same.new hp) (e ▸ upd_same)⟩
theorem v_ixL {p : Addr} {xs : List V} {a : Int} (h : H p = some (.lst xs)) (c : atI xs a = some v) (q : Q v H) : rIxL K (.ref p) (.int a) H Q := ⟨p, xs, a, v, rfl, rfl, SqL.of h, c, q⟩
theorem v_ixS {l : List Nat} {a : Int} {c : Nat} (h : l.length ≤ 1000000) (e : atI l a = some c) (q : Q (.str (tx [c])) H) : rIxS (.str (tx l)) (.int a) H Q := ⟨tx l, a, c, rfl, rfl, by rw [tx_len]; exact szl h, by simpa using e, q⟩
end
/-! ### named relations of built-in calls -/
def rInt : List V → Hp → VK → Prop := fun xs H Q => (∃ i, xs = [.int i] ∧ Q (.int i) H) ∨ ∃ k, xs = [.bl k] ∧ Q (.int (if k then 1 else 0)) H
theorem c_int {X : Cx} : CallR X (.type "int") rInt := call_int1
def rLen (K : PySem.W.Frag) : List V → Hp → VK → Prop := fun xs H Q => ∃ p ys, xs = [.ref p] ∧ (SqL K H p ys ∨ SqT K H p ys) ∧ Q (.int ys.length) H
theorem c_len {X : Cx} : CallR X (.builtin "len") (rLen X.K) := call_len_seq
def rLenS : List V → Hp → VK → Prop := fun xs H Q => ∃ x, xs = [.str x] ∧ x.length ≤ sizeLine ∧ Q (.int x.length) H
theorem c_lenS {X : Cx} : CallR X (.builtin "len") rLenS := call_len_str
section
variable {σ : St} {H : Hp} {Q : VK} {i : Nat} {v x y : V} {K : PySem.W.Frag}
theorem v_inti {a : Int} (q : Q (.int a) H) : rInt [.int a] H Q := .inl ⟨a, rfl, q⟩
theorem v_intb {k : Bool} (q : Q (.int (if k then 1 else 0)) H) : rInt [.bl k] H Q := .inr ⟨k, rfl, q⟩
theorem v_len {p : Addr} {ys : List V} (h : H p = some (.lst ys)) (q : Q (.int ys.length) H) : rLen K [.ref p] H Q := ⟨p, ys, rfl, .inl (SqL.of h), q⟩
theorem v_lenS {l : List Nat} (h : l.length ≤ 1000000) (q : Q (.int l.length) H) : rLenS [.str (tx l)] H Q := ⟨tx l, rfl, by rw [tx_len]; exact szl h, by rw [tx_len]; exact q⟩
end
/-! ### stepping: statements -/
section
variable {σ : St} {H : Hp} {i : Nat} {v : V} {te : TE} {tt u : TT} {t1 t2 : TS} {D : Ends}
theorem s_start {N : List Str} {vs : List V} {t : TS} (s0 : St) (h : start N vs = s0) (q : t D s0 H) : t D (start N vs) H := by rw [h]; exact q
theorem s_seq (q : t1 { D with nx := t2 D } σ H) : tSeq t1 t2 D σ H := q
theorem s_next (q : D.nx σ H) : tNext D σ H := q
theorem s_brk (q : D.bk σ H) : tBreak D σ H := q
theorem s_cont (q : D.ct σ H) : tCont D σ H := q
theorem s_set (q : te σ H fun v H1 => D.nx (σ.set i (some v)) H1) : tAsg te (gName i) D σ H := q
theorem s_drop (q : te σ H fun _ H1 => D.nx σ H1) : tDrop te D σ H := q
theorem s_ret (q : te σ H D.rt) : tRet te D σ H := q
theorem s_retN (q : D.rt .non H) : tRetN D σ H := q
theorem s_if (q : tt σ H fun b H1 => if b = true then t1 D σ H1 else t2 D σ H1) : tIfS tt t1 t2 D σ H := q
theorem t_test {Q : Bool → Hp → Prop} (q : te σ H fun x H' => ∃ k, x = .bl k ∧ Q k H') : tTest te σ H Q := q
theorem t_B {Q : Bool → Hp → Prop} (q : te σ H fun x H' => ∃ k, x = .bl k ∧ Q k H') : tB te σ H Q := q
theorem t_and {Q : Bool → Hp → Prop} (q : tt σ H fun c H1 => if c = true then u σ H1 Q else Q false H1) : tAnd tt u σ H Q := q
theorem t_or {Q : Bool → Hp → Prop} (q : tt σ H fun c H1 => if c = true then Q true H1 else u σ H1 Q) : tOr tt u σ H Q := q
theorem t_not {Q : Bool → Hp → Prop} (q : tt σ H fun c H1 => Q (!c) H1) : tNot tt σ H Q := q
theorem s_dput {td ty tv : TE} (q : tv σ H fun v H1 => td σ H1 fun x H2 => ty σ H2 fun y H3 => ∃ a H4, x = .ref a ∧ DPut H3 a y v H4 ∧ D.nx σ H4) : sDPut td ty tv D σ H := q
theorem v_dput {P : Hp → Prop} {a : Addr} {y : V} {H4 : Hp} (h : DPut H a y v H4) (q : P H4) : ∃ a' H4, V.ref a = .ref a' ∧ DPut H a' y v H4 ∧ P H4 := ⟨a, H4, rfl, h, q⟩
theorem if_dec {c A B : Prop} [Decidable c] (h1 : c → A) (h2 : ¬ c → B) : if decide c = true then A else B := by
  by_cases h : c
  · rw [decide_eq_true h, if_pos rfl]; exact h1 h
  · rw [decide_eq_false h, if_neg Bool.false_ne_true]; exact h2 h
theorem if_ndec {c A B : Prop} [Decidable c] (h1 : ¬ c → A) (h2 : c → B) : if (!decide c) = true then A else B := by
  by_cases h : c
  · rw [decide_eq_true h]; exact iteF (h2 h)
  · rw [decide_eq_false h]; exact iteT (h1 h)
theorem if_bool {b : Bool} {A B : Prop} (h1 : b = true → A) (h2 : b = false → B) : if b = true then A else B := by
  cases b with
  | true => exact iteT (h1 rfl)
  | false => exact iteF (h2 rfl)
end

/-! ### cuts: what follows is shown once -/
section
variable {X : Cx} {σ : St} {H : Hp} {D : Ends} {t u : TS}
def tCutE (te : TE) : TE := fun σ H Q => ∃ Mid : V → Hp → Prop, te σ H Mid ∧ ∀ v H', Mid v H' → Q v H'
theorem pe_cut {e : Expr} {te : TE} (h : PE X e te) : PE X e (tCutE te) := by
  refine ⟨fun pins s σ H Q I q => ?_⟩
  obtain ⟨Mid, hm, hu⟩ := q
  exact thn (h.run pins s σ H Mid I hm) fun u s1 ⟨x, H1, I1, r1, q1⟩ => ⟨x, H1, I1, r1, hu x H1 q1⟩
theorem e_cut {te : TE} {Q : VK} (Mid : V → Hp → Prop) (h : te σ H Mid) (q : ∀ v H', Mid v H' → Q v H') : tCutE te σ H Q := ⟨Mid, h, q⟩
def tCutS (t u : TS) : TS := fun D σ H => ∃ Mid : St → Hp → Prop, t { D with nx := Mid } σ H ∧ ∀ σ' H', Mid σ' H' → u D σ' H'
theorem pss_cutS {st : Stmt} {rest : List Stmt} (h1 : PS X st t) (h2 : PSs X rest u) : PSs X (st :: rest) (tCutS t u) := by
  refine ⟨fun pins s σ H D I h => ?_⟩
  obtain ⟨Mid, hm, hu⟩ := h
  refine wpAny_execs_cons (thn (h1.run pins s σ H { D with nx := Mid } I hm) fun f s1 q => ?_)
  cases f with
  | next =>
    obtain ⟨σ', H', I', q⟩ := q
    exact h2.run pins s1 σ' H' D I' (hu σ' H' q)
  | ret v => exact q
  | brk => exact q
  | cont => exact q
theorem s_cut (Mid : St → Hp → Prop) (h : t { D with nx := Mid } σ H) (q : ∀ σ' H', Mid σ' H' → u D σ' H') : tCutS t u D σ H := ⟨Mid, h, q⟩
end
section
variable {σ : St} {H : Hp} {v y : V}
theorem v_put {P : Hp → Prop} {a : Addr} {o : HO} (h : DPut H a y v (upd H a o)) (q : ∀ H', Keep a H H' → H' a = some o → P H') : ∃ a' H4, V.ref a = .ref a' ∧ DPut H a' y v H4 ∧ P H4 := ⟨a, _, rfl, h, q _ Keep.put upd_same⟩
end
/-! ### data -/
theorem dp_ints {K : PySem.W.Frag} {H : Hp} : ∀ ns : List Int, DpAll K H (ns.map V.int) (ns.map PyData.int)
  | [] => .nil
  | n :: r => .cons (.int n) (dp_ints r)
theorem dp_strs {K : PySem.W.Frag} {H : Hp} : ∀ ns : List Str, DpAll K H (ns.map V.str) (ns.map PyData.str)
  | [] => .nil
  | n :: r => .cons (.str n) (dp_strs r)
theorem lay_ints : ∀ ns : List Int, PyData.canLayAll0 (ns.map PyData.int) = true
  | [] => rfl
  | n :: r => lay_ints r
theorem lay_strs : ∀ ns : List Str, (∀ x ∈ ns, PyData.strOk x = true) → PyData.canLayAll0 (ns.map PyData.str) = true
  | [], _ => rfl
  | n :: r, h => by
    show (PyData.strOk n && PyData.canLayAll0 (r.map PyData.str)) = true
    rw [h n (List.mem_cons_self ..), lay_strs r fun x hx => h x (List.mem_cons_of_mem _ hx)]
    rfl
theorem dep_ints : ∀ ns : List Int, PyData.depthAll (ns.map PyData.int) ≤ 1
  | [] => by decide
  | n :: r => Nat.max_le.mpr ⟨by show PyData.depth (.int n) ≤ 1; simp [PyData.depth], dep_ints r⟩
theorem dep_strs : ∀ ns : List Str, PyData.depthAll (ns.map PyData.str) ≤ 1
  | [] => by decide
  | n :: r => Nat.max_le.mpr ⟨by show PyData.depth (.str n) ≤ 1; simp [PyData.depth], dep_strs r⟩
theorem shaped_ints (ns : List Int) : SeqAt.shaped (.list (ns.map PyData.int)) = true := by
  have h := dep_ints ns
  have h2 : (PyData.list (ns.map PyData.int)).depth ≤ 64 := by simp only [PyData.depth]; omega
  have h3 : (PyData.list (ns.map PyData.int)).canLay0 = true := by simp only [PyData.canLay0]; exact lay_ints ns
  simp [SeqAt.shaped, h2, h3]
theorem shaped_strs (ns : List Str) (h0 : ∀ x ∈ ns, PyData.strOk x = true) : SeqAt.shaped (.list (ns.map PyData.str)) = true := by
  have h := dep_strs ns
  have h2 : (PyData.list (ns.map PyData.str)).depth ≤ 64 := by simp only [PyData.depth]; omega
  have h3 : (PyData.list (ns.map PyData.str)).canLay0 = true := by simp only [PyData.canLay0]; exact lay_strs ns h0
  simp [SeqAt.shaped, h2, h3]
theorem shaped_strsT (ns : List Str) (h0 : ∀ x ∈ ns, PyData.strOk x = true) : SeqAt.shaped (.tuple (ns.map PyData.str)) = true := by
  have h := dep_strs ns
  have h2 : (PyData.tuple (ns.map PyData.str)).depth ≤ 64 := by simp only [PyData.depth]; omega
  have h3 : (PyData.tuple (ns.map PyData.str)).canLay0 = true := by simp only [PyData.canLay0]; exact lay_strs ns h0
  simp [SeqAt.shaped, h2, h3]
theorem shaped_nil : SeqAt.shaped (.list []) = true := shaped_ints []
theorem eqv_nil {ds : List PyData} : PyData.eqv (.list ds) (.list []) = ds.isEmpty := by
  cases ds <;> simp [PyData.eqv, PyData.eqvAll]
theorem eqvAll_strs : ∀ (a b : List Str), PyData.eqvAll (a.map PyData.str) (b.map PyData.str) = decide (a = b)
  | [], [] => by simp [PyData.eqvAll]
  | [], _ :: _ => by simp [PyData.eqvAll]
  | _ :: _, [] => by simp [PyData.eqvAll]
  | x :: a, y :: b => by
    simp only [List.map_cons, PyData.eqvAll, PyData.eqv, eqvAll_strs a b]
    by_cases e : x = y
    · subst e; simp
    · simp [e]
section
variable {H : Hp} {Q : VK} {K : PySem.W.Frag} {p q : Addr}
theorem v_neNilI {ns : List Int} (h : H p = some (.lst (ns.map V.int))) (hq : H q = some (.lst [])) (k : Q (.bl (!ns.isEmpty)) H) : rNeD K (.ref p) (.ref q) H Q := by
  refine ⟨.list (ns.map PyData.int), .list [], .lst (SqL.of h) (dp_ints ns), .lst (SqL.of hq) .nil, shaped_ints ns, shaped_nil, ?_⟩
  rw [eqv_nil, List.isEmpty_map]
  exact k
theorem v_neNilS {ns : List Str} (h : H p = some (.lst (ns.map V.str))) (h0 : ∀ x ∈ ns, PyData.strOk x = true) (hq : H q = some (.lst [])) (k : Q (.bl (!ns.isEmpty)) H) : rNeD K (.ref p) (.ref q) H Q := by
  refine ⟨.list (ns.map PyData.str), .list [], .lst (SqL.of h) (dp_strs ns), .lst (SqL.of hq) .nil, shaped_strs ns h0, shaped_nil, ?_⟩
  rw [eqv_nil, List.isEmpty_map]
  exact k
end
theorem ok_tx {l : List Nat} (h : ∀ c ∈ l, c < 1000) : PyData.strOk (tx l) = true := by
  show (l.toArray).all (fun c => decide (c < 0x110000)) = true
  rw [List.all_toArray, List.all_eq_true]
  intro c hc
  have := h c hc
  simp
  omega
theorem wdiv {i m : Int} (h : 0 < m) (h2 : m < 1000000) : CDivW i m := wide_div (b := 20) h (by omega) (by decide) (by decide)
end Cw
set_option Elab.async false
set_option linter.all false
set_option maxRecDepth 100000
set_option maxHeartbeats 4000000
/-! set(text), len(set(..)): a set of texts out of anything that is walked. -/
namespace Cw
open PySem PySem.Spec L2
/-- the different ones, in the order in which they are met -/
def metAdd (l : List Str) (z : Str) : List Str := if z ∈ l then l else l ++ [z]
def metOf (l : List Str) : List Str := l.foldl metAdd []
theorem metAdd_mem {l : List Str} {z y : Str} : y ∈ metAdd l z ↔ y ∈ l ∨ y = z := by
  unfold metAdd
  by_cases h : z ∈ l
  · rw [if_pos h]
    exact ⟨Or.inl, fun k => k.elim id fun e => e ▸ h⟩
  · rw [if_neg h, List.mem_append, List.mem_singleton]
theorem metOf_snoc (l : List Str) (z : Str) : metOf (l ++ [z]) = metAdd (metOf l) z := by
  unfold metOf
  rw [List.foldl_append]
  rfl
theorem metFold_mem (y : Str) : ∀ (l acc : List Str), y ∈ l.foldl metAdd acc ↔ y ∈ acc ∨ y ∈ l
  | [], acc => by simp
  | z :: r, acc => by
    rw [List.foldl_cons, metFold_mem y r, metAdd_mem, List.mem_cons, or_assoc]
theorem metOf_mem {l : List Str} {y : Str} : y ∈ metOf l ↔ y ∈ l := by
  unfold metOf
  rw [metFold_mem]
  simp
theorem metAdd_len (l : List Str) (z : Str) : (metAdd l z).length = if z ∈ l then l.length else l.length + 1 := by
  unfold metAdd
  split <;> simp
theorem metFold_len : ∀ (l acc : List Str), (l.foldl metAdd acc).length ≤ acc.length + l.length
  | [], acc => Nat.le_refl _
  | z :: r, acc => by
    have h1 := metFold_len r (metAdd acc z)
    have h2 := metAdd_len acc z
    rw [List.foldl_cons, List.length_cons]
    split at h2 <;> omega
theorem metOf_len (l : List Str) : (metOf l).length ≤ l.length := by
  have h := metFold_len l []
  simp only [List.length_nil, Nat.zero_add] at h
  exact h
theorem metFold_nodup : ∀ (l acc : List Str), (acc ++ l).Nodup → l.foldl metAdd acc = acc ++ l
  | [], acc, _ => by simp
  | z :: r, acc, h => by
    have hz : ¬ z ∈ acc := fun m => by
      have := (List.nodup_append.mp h).2.2 z m z (List.mem_cons_self ..)
      exact this rfl
    have e : metAdd acc z = acc ++ [z] := by unfold metAdd; rw [if_neg hz]
    rw [List.foldl_cons, e, metFold_nodup r (acc ++ [z]) (by simpa using h)]
    simp
theorem metOf_nodup {l : List Str} (h : l.Nodup) : metOf l = l := by
  unfold metOf
  rw [metFold_nodup l [] (by simpa using h)]
  rfl
/-- fewer, where one comes twice -/
theorem metFold_lt : ∀ (l acc : List Str), acc.Nodup → (¬ l.Nodup ∨ ∃ z, z ∈ l ∧ z ∈ acc) → (l.foldl metAdd acc).length < acc.length + l.length
  | [], acc, _, h => by
    rcases h with h | ⟨z, h, _⟩
    · exact absurd List.nodup_nil h
    · cases h
  | z :: r, acc, ha, h => by
    rw [List.foldl_cons, List.length_cons]
    have hl := metAdd_len acc z
    by_cases hz : z ∈ acc
    · rw [if_pos hz] at hl
      have h1 := metFold_len r (metAdd acc z)
      omega
    · rw [if_neg hz] at hl
      have e : metAdd acc z = acc ++ [z] := by unfold metAdd; rw [if_neg hz]
      have nd : (metAdd acc z).Nodup := by
        rw [e]
        exact nd_snoc ha hz
      have k : ¬ r.Nodup ∨ ∃ y, y ∈ r ∧ y ∈ metAdd acc z := by
        rcases h with h | ⟨y, h1, h2⟩
        · rw [List.nodup_cons] at h
          by_cases hr : z ∈ r
          · exact Or.inr ⟨z, hr, by rw [e]; simp⟩
          · exact Or.inl fun n => h ⟨hr, n⟩
        · rcases List.mem_cons.mp h1 with q | q
          · exact absurd (q ▸ h2) hz
          · exact Or.inr ⟨y, q, by rw [e]; simp [h2]⟩
      have h1 := metFold_lt r (metAdd acc z) nd k
      omega
theorem metOf_lt {l : List Str} (h : ¬ l.Nodup) : (metOf l).length < l.length := by
  have k := metFold_lt l [] List.nodup_nil (Or.inl h)
  simp only [List.length_nil, Nat.zero_add] at k
  exact k
/-- the set at a holds just the texts of l -/
abbrev SetIs (P : Program) (w : World) (h : Heap) (a : Addr) (l : List Str) : Prop := h.SetOf (PySem.strKind P w) a (fun z => decide (z ∈ l)) l.length
theorem SetIs.at {P : Program} {w : World} {h h' : Heap} {a : Addr} {l : List Str} (R : SetIs P w h a l) (k : ∀ o, h.get? a = some o → h'.get? a = some o) : SetIs P w h' a l := by
  obtain ⟨o, es, ep, t, ho, r⟩ := R
  exact ⟨o, es, ep, t, k o ho, r⟩
section
variable {P : Program} {w : World} {A : Around} {R : Result → Shared → Prop} {J : Addr} {fp wr : List Addr} {n : Nat} {Y : Nat → Value → Prop} {St : Nat → Heap → Prop}
theorem set_loop (W : Walks P w A.in1 J fp wr n Y St) (S : Addr) (hS : S ∉ fp) (xs : List Str) (hn : xs.length = n) (hy : ∀ i v, Y i v → ∃ x t, xs[i]? = some x ∧ v = .str x t) (hb : n + 1 < scanBound) :
    ∀ (k i : Nat) (s : Shared), n - i = k → i ≤ n → St i s.heap → SetIs P w s.heap S (metOf (xs.take i)) →
      (∀ h' tk, (∀ b o, b ∉ S :: wr → s.heap.get? b = some o → h'.get? b = some o) → SetIs P w h' S (metOf xs) → R (.ok (.ret .none)) { s with heap := h', toks := tk }) →
      codeAny (model P w) A (.builtin "set.update.loop" ⟨[.ref S, .ref J], []⟩) R s := by
  have hw : S ∉ wr := fun h => hS (W.sub _ h)
  intro k
  induction k with
  | zero =>
    intro i s hk hi st hset q
    have e : i = n := by omega
    subst e
    refine codeAny_builtin PyProof.Rows.F.entry_set_update_loop ?_
    rw [Around.under_plainId PyProof.Rows.F.plain_set_update_loop _]
    show wpAny _ A.in1 (pyNext (.ref J) >>= _) _ _ s
    refine wpAny_bind (W.done s _ _ st fun h' tk kp => ?_)
    show wpAny _ A.in1 (ret Value.none) _ _ _
    refine wpAny_pure (q h' tk (fun b o nb eb => kp b o (fun z => nb (List.mem_cons_of_mem _ z)) eb) ?_)
    rw [List.take_of_length_le (by omega)] at hset
    exact hset.at fun o eo => kp S o hw eo
  | succ k ih =>
    intro i s hk hi st hset q
    have hlt : i < n := by omega
    refine codeAny_builtin PyProof.Rows.F.entry_set_update_loop ?_
    rw [Around.under_plainId PyProof.Rows.F.plain_set_update_loop _]
    show wpAny _ A.in1 (pyNext (.ref J) >>= _) _ _ s
    refine wpAny_bind (W.item i s _ _ hlt st fun v h1 tk hv st1 kp => ?_)
    obtain ⟨x, t, hx, rfl⟩ := hy i v hv
    have hset1 := hset.at (h' := h1) fun o eo => kp S o hw eo
    show wpAny _ A.in1 (holding [Value.str x t] (setAdd S (.str x t)) >>= _) _ _ _
    refine wpAny_bind (wpAny_holding ?_)
    unfold setAdd
    refine wpAny_holding (wpAny_bind ((PySem.strKind P w).pyHash (k := x) (strKind_is _ _ _ _) ?_))
    have hroom : (metOf (xs.take i)).length + 1 < scanBound := by
      have h2 := metOf_len (xs.take i)
      rw [List.length_take] at h2
      omega
    refine wpAny_setAddHashed_of (knd := PySem.strKind P w) (s := { heap := h1, gens := s.gens, drawn := s.drawn, toks := tk + 1, os := s.os }) (strKind_is _ _ _ _) rfl hset1 hroom fun h2 sb hset2 => ?_
    have e1 : xs.take (i + 1) = xs.take i ++ [x] := by
      rw [List.take_add_one, hx]
      rfl
    have hset3 : SetIs P w h2 S (metOf (xs.take (i + 1))) := by
      refine PyProof.Rows.SetOf_congr hset2 (fun z => ?_) ?_
      · rw [e1, metOf_snoc, Bool.eq_iff_iff]
        simp only [Bool.or_eq_true, decide_eq_true_eq]
        exact metAdd_mem.symm
      · rw [e1, metOf_snoc, metAdd_len]
        simp only [decide_eq_true_eq]
    refine wpAny_pure ⟨plainId_quiet PyProof.Rows.F.plain_set_update_loop _, ih (i + 1) _ (by omega) hlt (W.frame _ _ _ st1 fun b hb o eo => ?_) hset3 fun h3 tk3 kp3 hs3 => ?_⟩
    · rw [sb.2 b fun z => hS (z ▸ hb)]
      exact eo
    · refine q h3 tk3 (fun b o nb eb => kp3 b o nb ?_) hs3
      show h2.get? b = some o
      rw [sb.2 b fun z => nb (z ▸ List.mem_cons_self ..)]
      exact kp b o (fun z => nb (List.mem_cons_of_mem _ z)) eb
end

/-! ### the call -/
abbrev freshSet (b : Bool) : Obj := { cls := .type "set", dict := none, data := .set #[] 0 (.fresh 0 0 b) }
section
variable {P : Program} {w : World} {A : Around} {E : Value → Shared → Prop} {s : Shared}
theorem set_of_text {x : Str} {t : Tok} {Q : Value → Shared → Prop} (hh : A.handled = none) (hb : x.cps.size + 1 < scanBound)
    (h : ∀ (h' : Heap) (tk : Nat), SetIs P w h' s.heap.objs.size (metOf (x.cps.toList.map fun c => (⟨#[c]⟩ : Str))) → (∀ b o, b < s.heap.objs.size → s.heap.get? b = some o → h'.get? b = some o) → Q (.ref s.heap.objs.size) { s with heap := h', toks := tk }) :
    wpAny (model P w) A (call (.type "set") [.str x t]) Q E s := by
  obtain ⟨c, tl, hmro⟩ := PySem.F.called_set.mro
  have hmade := PySem.F.called_set.made
  have hsub := PySem.F.called_set.sub
  refine wpAny_call (codeAny_of_tree ?_)
  show wpAny _ _ (callAny (.type "set") _) _ _ _
  refine wpAny_pure ⟨Code.quiet_builtin _ (by decide +kernel), codeAny_builtin PySem.F.entry_type_call ?_⟩
  rw [Around.under_plain (weight_type_call_type "set" [.str x t] []) rfl]
  have h1 := PySem.F.called_set.notType
  have h2 := PySem.F.called_set.canCreate
  have hct := PySem.F.typeCall_set_1 (.str x t)
  repeat (any_goals (first | assumption | wp_step))
  refine codeAny_mono (code_set_new_1 (.str x t) (E := E) (Q₁ := fun obj s1 => ∃ b : Bool, obj = .ref s.heap.objs.size ∧ s1 = { s with heap := s.heap.push (freshSet b) }) fun b => ⟨b, rfl, rfl⟩) fun r s1 hr => ?_
  cases r with
  | error e => exact hr
  | ok fl =>
    cases fl with
    | ret obj =>
      obtain ⟨b, rfl, rfl⟩ := hr
      have hS : (s.heap.push (freshSet b)).get? s.heap.objs.size = some (freshSet b) := Heap.get?_push_size _ rfl
      have hT : Shared.TypeIs { s with heap := s.heap.push (freshSet b) } (.ref s.heap.objs.size) "set" := ⟨_, hS, rfl⟩
      have hli := PySem.F.called_set.init.lookup
      have hbi := PySem.F.called_set.init.bind (.ref s.heap.objs.size)
      repeat (any_goals (first | assumption | wp_step))
      refine codeAny_mono (codeAny_call_builtin (R := wants (fun r s2 => r = .none ∧ ∃ h' tk, s2 = { s with heap := h', toks := tk } ∧ SetIs P w h' s.heap.objs.size (metOf (x.cps.toList.map fun c => (⟨#[c]⟩ : Str))) ∧
          (∀ b o, b < s.heap.objs.size → s.heap.get? b = some o → h'.get? b = some o)) E) PySem.F.called_set.init.plain PySem.F.entry_set_init (check_set_init_1 hT ?_)) fun r2 s2 hr2 => ?_
      · have k1 := F.sub_str_set
        have k2 := F.sub_str_frozenset
        have k3 : (Value.type "str" == Value.type "dict") = false := by decide
        unfold Builtin.«set.__init__» noKeywords Builtin.Frozenset.updateFrom
        generalize hPI : pyIter = PI
        wp_walk
        subst hPI
        refine wpAny_pyIter_str fun ob St hw st => ?_
        refine wpAny_bind (wpAny_runValue ?_)
        have hh3 : A.in1.in1.in1.handled = none := by simp [hh]
        have hne : s.heap.objs.size ∉ [(s.heap.push (freshSet b)).objs.size] := by
          rw [Heap.size_push, List.mem_singleton]
          exact Nat.ne_of_lt (Nat.lt_succ_self _)
        refine set_loop (hw _ hh3) s.heap.objs.size hne (x.cps.toList.map fun c => (⟨#[c]⟩ : Str)) (by simp) (fun i v hv => ?_) hb _ 0 _ rfl (Nat.zero_le _) st ?_ fun h' tk kp hs => ?_
        · obtain ⟨c, u, hc, rfl⟩ := hv
          exact ⟨⟨#[c]⟩, u, by simp [hc], rfl⟩
        · have hg : ((s.heap.push (freshSet b)).push ob).get? s.heap.objs.size = some (freshSet b) := Heap.get?_push_of_some _ hS
          exact PyProof.Rows.SetOf_congr ((PyProof.Rows.setObjOf_fresh (knd := PySem.strKind P w) b).setOf hg (by unfold scanBound; omega)) (fun z => by simp [metOf]) rfl
        · refine wpAny_pure ?_
          show wpAny _ _ (ret Value.none) _ _ _
          refine wpAny_pure ⟨rfl, h', tk, rfl, hs, fun a o ha eo => kp a o ?_ (Heap.get?_push_of_some _ (Heap.get?_push_of_some _ eo))⟩
          rw [Heap.size_push]
          simp only [List.mem_cons, List.not_mem_nil, or_false, not_or]
          exact ⟨Nat.ne_of_lt ha, Nat.ne_of_lt (Nat.lt_succ_of_lt ha)⟩
      · cases r2 with
        | error e => exact hr2
        | ok fl2 =>
          cases fl2 with
          | ret r =>
            obtain ⟨rfl, h', tk, rfl, hs', hk'⟩ := hr2
            repeat (any_goals (first | assumption | wp_step))
            exact h _ _ hs' hk'
          | _ => exact hr2.elim
    | _ => exact hr.elim
end
/-! ### over the layer -/
/-- a set of texts -/
def SetT (P : Program) (w : World) (a : Addr) (l : List Str) : HO := .ext fun h => SetIs P w h a l
theorem setT_new {P : Program} {w : World} {H : Hp} {h : Heap} {a : Addr} {l : List Str} (R : SetIs P w h a l) : ObjOk P w H h a (SetT P w a l) := by
  have ⟨o, _, _, _, ho, _⟩ := R
  exact ⟨R, ⟨o, ho⟩, fun h1 h2 q k => SetIs.at q k⟩
def rSetTx (P : Program) (w : World) : List V → Hp → VK → Prop := fun xs H Q => ∃ l : List Nat, xs = [.str (tx l)] ∧ l.length + 1 < scanBound ∧ ∀ p, H p = none → Q (.ref p) (upd H p (SetT P w p (metOf (l.map fun c => tx [c]))))
def rLenSet (P : Program) (w : World) : List V → Hp → VK → Prop := fun xs H Q => ∃ (p : Addr) (l : List Str), xs = [.ref p] ∧ H p = some (SetT P w p l) ∧ Q (.int l.length) H
section
variable {X : Cx}
theorem c_setS (hc : X.calm = true) : CallR X (.type "set") (rSetTx X.prog X.w) := by
  intro pins s σ H xs us Q I r h
  obtain ⟨l, rfl, hl, q⟩ := h
  obtain ⟨u, rfl, t, rfl⟩ := vals1 r
  refine set_of_text (I.ok.hd hc) (by simpa using hl) fun h' tk hs hk => ?_
  have hp : H s.heap.objs.size = none := I.hok.fresh (Nat.le_refl _)
  refine ⟨.ref s.heap.objs.size, upd H s.heap.objs.size (SetT X.prog X.w s.heap.objs.size (metOf (l.map fun c => tx [c]))), I.laid (h' := h') (t' := tk) (fun b o e => hk b o (Heap.lt_size e) e) (Nat.le_refl _) (setT_new ?_), rfl, q _ hp⟩
  simpa using hs
theorem c_lenSet : CallR X (.builtin "len") (rLenSet X.prog X.w) := by
  intro pins s σ H xs us Q I r h
  obtain ⟨p, l, rfl, hp, q⟩ := h
  obtain ⟨u, rfl, ru⟩ := vals1 r
  cases ru
  have hs : SetIs X.prog X.w s.heap p l := (I.hok p _ hp).1
  obtain ⟨o, es, ep, t, ho, hex, hd, h1, h2, h3, hf, hn⟩ := hs
  refine call_len_set ho hex hd hf ?_ ⟨.int l.length, H, I.tok _, ⟨_, by rw [hn]⟩, q⟩
  have : es.size < scanBound := h3
  unfold scanBound at this
  omega
end
theorem v_setS {P : Program} {w : World} {H : Hp} {Q : VK} {l : List Nat} (h : l.length < 1000) (q : ∀ p H', H p = none → Same H H' → H' p = some (SetT P w p (metOf (l.map fun c => tx [c]))) → Q (.ref p) H') : rSetTx P w [.str (tx l)] H Q :=
  ⟨l, rfl, by unfold scanBound; omega, fun p hp => q p _ hp (Same.new hp) upd_same⟩
theorem v_lenSet {P : Program} {w : World} {H : Hp} {Q : VK} {p : Addr} {l : List Str} (h : H p = some (SetT P w p l)) (q : Q (.int l.length) H) : rLenSet P w [.ref p] H Q := ⟨p, l, rfl, h, q⟩
end Cw
set_option Elab.async false
set_option linter.all false
set_option maxRecDepth 100000
set_option maxHeartbeats 4000000
/-! operators of classes of one's own -/
namespace PySem.W
open PySem PySem.Calls PyProof.Rows Builtin
section
variable {prog : Program} {w : World} {A : Around} {E : Value → Shared → Prop} {s : Shared} {K : Frag} {x C L f : Addr} {h0 : Heap} {m : Str → Option Value} {ox : Obj} {od : Option Obj} {b tb : Value}
theorem ifBound_obj {M : Model} {args : List Value} {name : Str} {id : String} {Q : Option Value → Shared → Prop} (X : K.In s.heap) (I : InstAt s.heap x ox C od) (hs : findIn K (.ref C) name = some (some (.builtin id)))
    (hbd : ∀ v, bindSpecial (.builtin id) v = pure (.builtin id, [v])) (h : wpAny M A (call (.builtin id) (.ref x :: args)) (fun v => Q (some v)) E s) : wpAny M A (callSpecialIfBound? (.ref x) name args) Q E s := by
  simp only [callSpecialIfBound?, bindSpecialIfBound?]
  refine wpAny_holding (wpAny_bind (wpAny_bind (wpAny_bind (I.type.here ((looks_findIn X hs).here ?_)))))
  have e := hbd (.ref x)
  simp only [e]
  have k : wpAny M A (call (.builtin id) ([.ref x] ++ args) >>= fun v => pure (some v)) Q E s := wpAny_bind (wpAny_mono h (fun _ _ z => wpAny_pure z) fun _ _ z => z)
  refine wpAny_bind (wpAny_askSetting (wpAny_ite ?_))
  split
  · exact wpAny_bind (wpAny_pure (wpAny_pure k))
  · exact wpAny_tryCatch (wpAny_bind (wpAny_pure (wpAny_pure k)))
theorem check_obj {M : Model} {id owner n : String} {rest : List Value} {Q : Unit → Shared → Prop} (X : K.In s.heap) (I : InstAt s.heap x ox C od) (hk : builtinKind id = some .slot) (hs : splitId id = some (owner, n))
    (ha : argsOk id ⟨.ref x :: rest, []⟩) (ho : subIn K (.ref C) (.type owner) = some true) (q : Q () s) : wpAny M A (checkBuiltinCall id ⟨.ref x :: rest, []⟩) Q E s := by
  simp only [checkBuiltinCall, hk, hs]
  unfold isInstance
  refine wpAny_bind (wpAny_bind (I.type.here ((looks_subIn X ho).here ?_)))
  rw [if_neg (by simp)]
  cases hsig : Manifest.signature? id with
  | none => exact wpAny_pure q
  | some sig =>
    simp only [argsOk, hsig] at ha
    have h2 : Bind.checkArgs id sig ⟨.ref x :: rest, []⟩ = pure () := ha
    show wpAny M A (Bind.checkArgs id sig ⟨.ref x :: rest, []⟩) Q E _
    rw [h2]
    exact wpAny_pure q
theorem neBody (X : K.In s.heap) (I : InstAt s.heap x ox C od) (hu : A.units < cLine) (hs : findIn K (.ref C) "__eq__" = some (some (.ref f))) (hf : isFn K (.ref f) = true) {Q : Fin → Shared → Prop}
    (h : wpAny (model prog w) A (call (.ref f) [.ref x, b]) (fun v s' => ∃ r, v = .bool r ∧ Q (.done (.ret (.bool (!r)))) s') E s) : wpAny (model prog w) A (Builtin.«object.__ne__» ⟨[.ref x, b], []⟩) Q E s := by
  unfold Builtin.«object.__ne__»
  refine wpAny_bind (m := slotArgs "__ne__" 1 _) (wpAny_pure ?_)
  refine wpAny_bind (wpAny_cRoomFor hu ?_)
  refine wpAny_bind (m := callSpecialIfBound? (.ref x) (Str.ofString "__eq__") [b]) (ifBound_K X I hs hf (wpAny_mono h (fun v s' z => ?_) fun _ _ z => z))
  obtain ⟨r, rfl, z⟩ := z
  exact wpAny_bind (wpAny_truthy_bool (wpAny_pure z))
/-- != of an object whose class has its own == and no != -/
theorem ne_own {Q : Value → Shared → Prop} (hu : A.units + 1 < cLine) (F : Fr h0 L s.heap m) (X0 : K.In h0) (I : InstAt s.heap x ox C od) (hb : Looks (model prog w) s.heap (typeOf b) tb) (hn : notFirst K C tb = true)
    (hne : findIn K (.ref C) "__ne__" = some (some (.builtin "object.__ne__"))) (ho : subIn K (.ref C) (.type "object") = some true) (hs : findIn K (.ref C) "__eq__" = some (some (.ref f))) (hf : isFn K (.ref f) = true)
    (h : wpAny (model prog w) A.in1 (call (.ref f) [.ref x, b]) (fun v s' => ∃ r, v = .bool r ∧ Q (.bool (!r)) s') E s) : wpAny (model prog w) A (richCompare .NotEq (.ref x) b) Q E s := by
  have X := X0.keeps F.keep
  have pl : plainId "object.__ne__" = true := by decide +kernel
  have one : wpAny (model prog w) A (tryCompare (.ref x) (cmpInfo .NotEq).2.1 b) (fun r s' => ∃ v, r = some v ∧ Q v s') E s := by
    unfold tryCompare
    refine wpAny_bind (ifBound_obj X I (id := "object.__ne__") hne (fun v => ?_) ?_)
    · exact (PySem.F.slot_tuple_iterator_ne).bind v
    · refine wpAny_call (codeAny_call_builtin pl PySem.F.cmpEntry_ne (check_obj X I PySem.F.cmpKind_ne PySem.F.cmpSplit_ne (PySem.F.cmpArgs_ne _ _) ho ?_))
      refine neBody (A := A.in1) X I hu hs hf (wpAny_mono h (fun v s' z => ?_) fun _ _ z => z)
      obtain ⟨r, rfl, z⟩ := z
      exact ⟨r, rfl, wpAny_pure ⟨_, rfl, z⟩⟩
  unfold richCompare
  simp only [oneThing_ref]
  refine wpAny_holding (wpAny_bind (wpAny_cRoomFor (Nat.lt_of_succ_lt hu) ?_))
  refine wpAny_bind (I.type.here (wpAny_bind (hb.here ?_)))
  have k : ∀ z : Bool, z = false → wpAny (model prog w) A (tryCompare (.ref x) (cmpInfo .NotEq).2.1 b) (fun r s' => ∃ v, r = some v ∧ Q v s') E s := fun _ _ => one
  split
  · rename_i q
    have e : subIn K tb (.ref C) = some false := by
      rcases Bool.or_eq_true_iff.mp hn with e | e
      · rw [beq_iff_eq.mp e] at q; simp at q
      · exact beq_iff_eq.mp e
    refine wpAny_bind ((looks_subIn X e).here ?_)
    simp only [Bool.false_eq_true, if_false]
    refine wpAny_bind (wpAny_mono one (fun r s' z => ?_) fun _ _ e => e)
    obtain ⟨v, rfl, z⟩ := z
    exact wpAny_pure z
  · refine wpAny_bind (wpAny_pure ?_)
    simp only [Bool.false_eq_true, if_false]
    refine wpAny_bind (wpAny_mono one (fun r s' z => ?_) fun _ _ e => e)
    obtain ⟨v, rfl, z⟩ := z
    exact wpAny_pure z
end
end PySem.W
set_option Elab.async false
set_option linter.all false
set_option maxRecDepth 100000
set_option maxHeartbeats 4000000
namespace Cw
open PySem PySem.Spec L2
/-! ### methods -/
structure MAt (K : PySem.W.Frag) (C : Addr) (m qual : Str) (st : Stmt) : Prop where
  ex : ∃ f fd, PySem.W.findIn K (.ref C) m = some (some (.ref f)) ∧ PySem.W.isFn K (.ref f) = true ∧ Fun K m qual st f fd
structure MDef (P : Program) (w : World) (K : PySem.W.Frag) (mg : Str → Option Value) (base : Heap) (CX : CXT) (k : Nat) (C : Addr) (m : Str) (ps : List Str) (sp : Sp) : Prop where
  ex : ∃ f fd, PySem.W.findIn K (.ref C) m = some (some (.ref f)) ∧ PySem.W.isFn K (.ref f) = true ∧ PySem.W.keepIn K (.ref f) = true ∧ Bd K f fd ps ∧ FnOk P w K mg base CX k f fd ps sp
section
variable {P : Program} {w : World} {K : PySem.W.Frag} {mg : Str → Option Value} {base : Heap} {CX : CXT} {k : Nat} {C : Addr} {m qual : Str} {ps N : List Str} {sp : Sp} {st : Stmt}
theorem MDef.mono {j : Nat} (D : MDef P w K mg base CX j C m ps sp) (h : j ≤ k) : MDef P w K mg base CX k C m ps sp := by
  obtain ⟨f, fd, a, b, c, d, e⟩ := D.ex
  exact ⟨f, fd, a, b, c, d, e.mono h⟩
theorem MDef.imp {sp' : Sp} (D : MDef P w K mg base CX k C m ps sp) (h : ∀ vs H Q E, sp' vs H Q E → sp vs H Q E) : MDef P w K mg base CX k C m ps sp' := by
  obtain ⟨f, fd, a, b, c, d, e⟩ := D.ex
  exact ⟨f, fd, a, b, c, d, e.imp h⟩
theorem MAt.ok (F : MAt K C m qual st) (S : FnScope N ps (defScope st))
    (hb : ∀ (kV doc pm : Value) (an : Option Addr) (cdv ct : Value) (us : List Value), us.length = ps.length → bindArgs (PySem.W.fnOf m qual (defArgs st) (defBody st) (defScope st) .none kV doc pm an cdv ct) ⟨us, []⟩ = pure (ps.zip us))
    (len : ∀ vs H Q E, sp vs H Q E → vs.length = ps.length)
    (hbody : ∀ (f : Addr) (cdv : Value) (A : Around) (outer : List Env) (s : Shared) (H : Hp) (vs : List V) (Q : VK) (E : XK), Room k (A.deeper (PyProof.Rows.envOfC qual (defScope st) s.heap.objs.size f cdv)) → sp vs H Q E →
      ∃ t, PSs (cxOf CX0 P w K mg base N qual (defScope st) f cdv A outer s H E).nox (defBody st) t ∧ t { nx := fun _ H' => Q .non H', rt := Q } (start N vs) H) : MDef P w K mg base CX0 (k + 1) C m ps sp := by
  obtain ⟨f, fd, h1, h2, F⟩ := F.ex
  exact ⟨f, fd, h1, h2, F.kp, ⟨F.binds hb, funLk F⟩, F.ok S len fun cdv A outer s H vs Q E hr h => hbody f cdv A outer s H vs Q E hr h⟩
theorem MAt.okX (F : MAt K C m qual st) (S : FnScope N ps (defScope st))
    (hb : ∀ (kV doc pm : Value) (an : Option Addr) (cdv ct : Value) (us : List Value), us.length = ps.length → bindArgs (PySem.W.fnOf m qual (defArgs st) (defBody st) (defScope st) .none kV doc pm an cdv ct) ⟨us, []⟩ = pure (ps.zip us))
    (len : ∀ vs H Q E, sp vs H Q E → vs.length = ps.length)
    (hbody : ∀ (f : Addr) (cdv : Value) (A : Around) (outer : List Env) (s : Shared) (H : Hp) (vs : List V) (Q : VK) (E : XK), Room k (A.deeper (PyProof.Rows.envOfC qual (defScope st) s.heap.objs.size f cdv)) → sp vs H Q E →
      ∃ t, PSs (cxOf (L2.CX P w) P w K mg base N qual (defScope st) f cdv A outer s H E) (defBody st) t ∧ t { nx := fun _ H' => Q .non H', rt := Q } (start N vs) H) : MDef P w K mg base (L2.CX P w) (k + 1) C m ps sp := by
  obtain ⟨f, fd, h1, h2, F⟩ := F.ex
  exact ⟨f, fd, h1, h2, F.kp, ⟨F.binds hb, funLk F⟩, F.okX S len fun cdv A outer s H vs Q E hr h => hbody f cdv A outer s H vs Q E hr h⟩
end
section
variable {X : Cx} {CX : CXT} {k : Nat} {C : Addr} {m : Str} {ps : List Str} {sp : Sp} {E : XK} {pos apos : PySem.Pos} {o e : Expr} {es : List Expr} {ta : TE} {t : TA}
theorem pe_md {pl : Sem Bool} (D : MDef X.prog X.w X.K X.mg X.base CX k C m ps sp) (c : Cls X.K C) (hr : Room k X.A) (hx : Passes CX X E) (he : PE X o ta) (ha : PA X (e :: es) t)
    (hst : starEach (e :: es) X.env = (false, eval e X.env) :: starEach es X.env := by rfl) (hpl : (backTo pos (starEach es X.env)).any (·.1) = false := by rfl)
    (ht : eval (.Call (.Attribute o m apos) (e :: es) [] pos) X.env = (do
      let ov ← eval o X.env
      standAt apos.atName
      let (f, first) ← holding [ov] (getMethod ov m pl)
      callWith pos f first (backTo pos (starEach (e :: es) X.env)) (backToKw pos (keywordEach [] X.env))) := by rfl) :
    PE X (.Call (.Attribute o m apos) (e :: es) [] pos) (tMeth C m sp [] E ta t) := by
  obtain ⟨f, fd, a, b, kp, ⟨d, _⟩, g⟩ := D.ex
  exact pe_meth (pl := pl) he c ⟨a, b, kp⟩ g hr d .nil hx ha hst hpl ht
/-- two instances of the class at C, by its own operator -/
def rM2 (C : Addr) (sp : Sp) (E : XK) : R2 := fun x y H Q => ∃ a b dx dy fs gs, x = .ref a ∧ y = .ref b ∧ H a = some (.ins C dx fs) ∧ H b = some (.ins C dy gs) ∧ sp [.ref a, .ref b] H Q E
def rM2n (C : Addr) (sp : Sp) (E : XK) : R2 := fun x y H Q => ∃ a b dx dy fs gs, x = .ref a ∧ y = .ref b ∧ H a = some (.ins C dx fs) ∧ H b = some (.ins C dy gs) ∧ sp [.ref a, .ref b] H (fun v H' => ∃ r, v = .bl r ∧ Q (.bl (!r)) H') E
theorem op_cmpM {op : CmpOp} (hop : ∀ u v, compareOp op u v = richCompare op u v) (D : MDef X.prog X.w X.K X.mg X.base CX k C (cmpInfo op).2.1 ps sp) (hr : Room k X.A) (hx : Passes CX X E) : OpR X (compareOp op) (rM2 C sp E) := by
  obtain ⟨f, fd, h1, h2, kp, ⟨hb, _⟩, F⟩ := D.ex
  intro pins s σ H x y v u Q I rx ry h
  obtain ⟨a, b, dx, dy, fs, gs, rfl, rfl, ha, hb', hq⟩ := h
  cases rx
  cases ry
  obtain ⟨mA, J, _⟩ := ins_get I.hok ha
  obtain ⟨mB, J', _⟩ := ins_get I.hok hb'
  obtain ⟨od, J, _⟩ := J.look
  obtain ⟨od', J', _⟩ := J'.look
  obtain ⟨mm, hF⟩ := I.fr
  rw [hop]
  refine PySem.W.cmp_K (op := op) (tb := .ref C) hr.units0 hF I.ok.mod.kin J J'.type (by simp [PySem.W.notFirst]) h1 h2 ?_
  have z := run_fn (us := [.ref a, .ref b]) (vs := [.ref a, .ref b]) (dvs := []) F hr hb .nil hx I (.cons rfl (.cons rfl .nil)) hq
  refine wpAny_mono z (fun v s' q => ?_) fun _ _ q => q
  obtain ⟨y, H', I', r, q⟩ := q
  have k : EP X pins σ Q v s' := ⟨y, H', I', r, q⟩
  cases v <;> first | exact k | (exfalso; cases y <;> first | (obtain ⟨_, r⟩ := r; cases r) | cases r)
theorem op_neM (D : MDef X.prog X.w X.K X.mg X.base CX k C "__eq__" ps sp) (hne : PySem.W.findIn X.K (.ref C) "__ne__" = some (some (.builtin "object.__ne__"))) (ho : PySem.W.subIn X.K (.ref C) (.type "object") = some true)
    (hr : Room (k + 1) X.A) (hx : Passes CX X E) : OpR X (compareOp .NotEq) (rM2n C sp E) := by
  obtain ⟨f, fd, h1, h2, kp, ⟨hb, _⟩, F⟩ := D.ex
  intro pins s σ H x y v u Q I rx ry h
  obtain ⟨a, b, dx, dy, fs, gs, rfl, rfl, ha, hb', hq⟩ := h
  cases rx
  cases ry
  obtain ⟨mA, J, _⟩ := ins_get I.hok ha
  obtain ⟨mB, J', _⟩ := ins_get I.hok hb'
  obtain ⟨od, J, _⟩ := J.look
  obtain ⟨od', J', _⟩ := J'.look
  obtain ⟨mm, hF⟩ := I.fr
  show wpAny (model X.prog X.w) X.A (richCompare .NotEq _ _) _ _ _
  refine PySem.W.ne_own (tb := .ref C) (hu_of hr) hF I.ok.mod.kin J J'.type (by simp [PySem.W.notFirst]) hne ho h1 h2 ?_
  have hl := F.len _ _ _ _ hq
  have r2 : Vals [V.ref a, V.ref b] [Value.ref a, Value.ref b] := .cons rfl (.cons rfl .nil)
  refine wpAny_call (codeAny_mono (F.run X.A.in1 X.stack s H ⟨[.ref a, .ref b], []⟩ [.ref a, .ref b] [.ref a, .ref b] _ E hr.in1 I.env0.in1 (by
    have := hb s [.ref a, .ref b] I.kIn (by simpa using hl)
    simpa using this) r2 hq) fun r s' hq => ?_)
  cases r with
  | error e => exact hx pins σ H s e s' I hq
  | ok fl =>
    cases fl with
    | ret w =>
      obtain ⟨z, H', I', rz, r, ez, q⟩ := I.after hq
      subst ez
      cases rz
      exact ⟨r, rfl, ⟨.bl (!r), H', I', rfl, q⟩⟩
    | next => exact False.elim hq
    | brk => exact False.elim hq
    | cont => exact False.elim hq
/-- len(o) -/
def rLenM (C : Addr) (sp : Sp) (E : XK) : List V → Hp → VK → Prop := fun xs H Q => ∃ a dx fs, xs = [.ref a] ∧ H a = some (.ins C dx fs) ∧ sp [.ref a] H (fun v H' => ∃ n : Nat, v = .int n ∧ n < 1000000 ∧ Q (.int n) H') E
theorem c_lenM (D : MDef X.prog X.w X.K X.mg X.base CX k C "__len__" ps sp) (hr : Room (k + 1) X.A) (hx : Passes CX X E) : CallR X (.builtin "len") (rLenM C sp E) := by
  obtain ⟨f, fd, h1, h2, kp, ⟨hb, _⟩, F⟩ := D.ex
  intro pins s σ H xs us Q I r h
  obtain ⟨a, dx, fs, rfl, ha, hq⟩ := h
  obtain ⟨u, rfl, ru⟩ := vals1 r
  cases ru
  obtain ⟨mA, J, _⟩ := ins_get I.hok ha
  obtain ⟨od, J, _⟩ := J.look
  obtain ⟨mm, hF⟩ := I.fr
  refine PySem.W.len_K hF I.ok.mod.kin J h1 h2 ?_
  have hl := F.len _ _ _ _ hq
  refine wpAny_call (codeAny_mono (F.run X.A.in1 X.stack s H ⟨[.ref a], []⟩ [.ref a] [.ref a] _ E hr.in1 I.env0.in1 (by
    have := hb s [.ref a] I.kIn (by simpa using hl)
    simpa using this) (.cons rfl .nil) hq) fun r s' hq => ?_)
  cases r with
  | error e => exact hx pins σ H s e s' I hq
  | ok fl =>
    cases fl with
    | ret w =>
      obtain ⟨z, H', I', rz, n, ez, hn, q⟩ := I.after hq
      subst ez
      obtain ⟨t, rfl⟩ := rz
      exact ⟨⟨by omega, by omega⟩, ⟨.int n, H', I'.tok _, ⟨_, rfl⟩, q⟩⟩
    | next => exact False.elim hq
    | brk => exact False.elim hq
    | cont => exact False.elim hq
end
section
variable {C : Addr} {sp : Sp} {E : XK} {H : Hp} {Q : VK} {a b dx dy : Addr} {fs gs : List (Str × V)}
theorem v_M2 (ha : H a = some (.ins C dx fs)) (hb : H b = some (.ins C dy gs)) (q : sp [.ref a, .ref b] H Q E) : rM2 C sp E (.ref a) (.ref b) H Q := ⟨a, b, dx, dy, fs, gs, rfl, rfl, ha, hb, q⟩
theorem v_M2n (ha : H a = some (.ins C dx fs)) (hb : H b = some (.ins C dy gs)) (q : sp [.ref a, .ref b] H (fun v H' => ∃ r, v = .bl r ∧ Q (.bl (!r)) H') E) : rM2n C sp E (.ref a) (.ref b) H Q := ⟨a, b, dx, dy, fs, gs, rfl, rfl, ha, hb, q⟩
theorem v_lenM (ha : H a = some (.ins C dx fs)) (q : sp [.ref a] H (fun v H' => ∃ n : Nat, v = .int n ∧ n < 1000000 ∧ Q (.int n) H') E) : rLenM C sp E [.ref a] H Q := ⟨a, dx, fs, rfl, ha, q⟩
end
end Cw
set_option Elab.async false
set_option linter.all false
set_option maxRecDepth 100000
set_option maxHeartbeats 4000000
namespace Cw
open PySem PySem.Spec L2
/-! ### texts as lists of codes: operators -/
def rTAdd : R2 := fun x y H Q => ∃ a b : List Nat, x = .str (tx a) ∧ y = .str (tx b) ∧ a.length + b.length ≤ 1000000 ∧ Q (.str (tx (a ++ b))) H
def rTMul : R2 := fun x y H Q => ∃ (a : List Nat) (n : Int), x = .str (tx a) ∧ y = .int n ∧ n < 1000000 ∧ -1000000 < n ∧ a.length * n.toNat ≤ 1000000 ∧ Q (.str (tx (List.replicate n.toNat a).flatten)) H
def rTLt : R2 := fun x y H Q => ∃ a b : List Nat, x = .str (tx a) ∧ y = .str (tx b) ∧ Q (.bl (decide (a < b))) H
theorem rep_cps (x : Array Nat) : ∀ (n : Nat) (acc : Array Nat), (List.replicate n x).foldl (· ++ ·) acc = acc ++ (List.replicate n x.toList).flatten.toArray
  | 0, acc => by simp
  | n + 1, acc => by
    rw [List.replicate_succ, List.foldl_cons, rep_cps x n, List.replicate_succ, List.flatten_cons]
    apply Array.ext'
    simp
section
variable {X : Cx}
theorem op_addS : OpR X (binaryOp .Add) rTAdd := by
  intro pins s σ H x y v u Q I rx ry h
  obtain ⟨a, b, rfl, rfl, hl, q⟩ := h
  refine op_add_str pins s σ H _ _ v u Q I rx ry ⟨tx a, tx b, rfl, rfl, ?_, ?_⟩
  · rw [tx_len, tx_len]; exact szl hl
  · rw [tx_app]; exact q
theorem op_mulS : OpR X (binaryOp .Mult) rTMul := by
  intro pins s σ H x y v u Q I rx ry h
  obtain ⟨a, n, rfl, rfl, h1, h2, h3, q⟩ := h
  obtain ⟨t, rfl⟩ := rx
  obtain ⟨t', rfl⟩ := ry
  have hx : (tx a).length = a.length := tx_len a
  have fin : ∀ (z : Str) (s' : Shared) (tk : Tok), z = tx (List.replicate n.toNat a).flatten → Inv X pins σ H s' → EP X pins σ Q (.str z tk) s' := fun z s' tk e I' => ⟨.str z, H, I', ⟨tk, rfl⟩, by rw [e]; exact q⟩
  have len : (List.replicate n.toNat a).flatten.length = a.length * n.toNat := by simp [Nat.mul_comm]
  refine PySem.P.mul_str ?_ ?_ ?_ ?_
  · have e1 : ¬ n < -(2 ^ 63 : Int) := by omega
    have e2 : ¬ n ≥ 2 ^ 63 := by omega
    rw [decide_eq_false e1, decide_eq_false e2]; rfl
  · intro hn _
    rw [hx]
    have e0 : (a.length : Int) ≤ a.length * n.toNat := by
      have : 1 ≤ n.toNat := by omega
      have := Nat.le_mul_of_pos_right a.length (show 0 < n.toNat by omega)
      omega
    have e1 : (a.length : Int) ≤ 1000000 := by
      have : ((a.length * n.toNat : Nat) : Int) ≤ 1000000 := by omega
      omega
    have e2 : (1000000 : Int) ≤ (2 ^ 63 - 1) / n := by
      rw [Int.le_ediv_iff_mul_le (by omega)]
      omega
    omega
  · intro hn _
    rw [hx]
    unfold Builtin.Str.tooLong
    have : a.length * n.toNat ≤ sizeLine := szl h3
    exact decide_eq_false (by omega)
  · by_cases hn : n < 1
    · rw [if_pos hn]
      have e : n.toNat = 0 := by omega
      refine ⟨by decide, fin _ _ _ ?_ (I.tok _)⟩
      rw [e]; rfl
    · rw [if_neg hn]
      by_cases c : (n == 1 || (tx a).length == 0) = true
      · rw [if_pos c]
        refine fin _ _ _ ?_ I
        rcases Bool.or_eq_true_iff.mp c with c | c
        · have e : n = 1 := eq_of_beq c
          rw [e]
          show tx a = tx (List.replicate 1 a).flatten
          simp
        · have e : a = [] := by
            rw [hx] at c
            exact List.length_eq_zero_iff.mp (eq_of_beq c)
          rw [e]
          simp
      · rw [if_neg c]
        have e : (⟨(List.replicate n.toNat (tx a).cps).foldl (· ++ ·) #[]⟩ : Str) = tx (List.replicate n.toNat a).flatten := by
          rw [rep_cps]
          simp [tx]
        refine ⟨?_, fin _ _ _ e (I.tok _)⟩
        rw [e, tx_len, len]
        exact szl h3
theorem op_ltS : OpR X (compareOp .Lt) rTLt := by
  intro pins s σ H x y v u Q I rx ry h
  obtain ⟨a, b, rfl, rfl, q⟩ := h
  exact op_lt_str pins s σ H _ _ v u Q I rx ry ⟨tx a, tx b, rfl, rfl, by simpa using q⟩
/-- text[::-1] -/
def tRevS (te : TE) : TE := fun σ H Q => te σ H fun x H1 => ∃ l : List Nat, x = .str (tx l) ∧ l.length ≤ 1000000 ∧ Q (.str (tx l.reverse)) H1
theorem pe_revS {e : Expr} {te : TE} {k : Nat} {p1 p2 p3 pos : PySem.Pos} (he : PE X e te) : PE X (.Subscript e (.Slice none none (some (.UnaryOp .USub (.Constant (.int 1) k p1) p2)) p3) pos) (tRevS te) := by
  refine ⟨fun pins s σ H Q I h => ?_⟩
  refine PyProof.Rows.Subscript_ (thn (he.run pins s σ H _ I h) fun v s1 ⟨x, H1, I1, r1, l, ex, hl, q⟩ => ?_)
  subst ex
  obtain ⟨t, rfl⟩ := r1
  have hst : PO X (some (.UnaryOp .USub (.Constant (.int 1) k p1) p2)) (tPart (tUn (rU fun i => .int (-i)) (tC (.int 1)))) := po_some (pe_un un_neg pe_int)
  refine wpAny_Slice (thn (po_none.run pins s1 σ H1 (fun o H2 => o = none ∧ H2 = H1) I1 ⟨rfl, rfl⟩) fun vl s2 ⟨o1, H2, I2, w1, e1, e2⟩ => ?_)
  subst e1 e2
  refine thn (po_none.run pins s2 σ H2 (fun o H3 => o = none ∧ H3 = H2) I2 ⟨rfl, rfl⟩) fun vu s3 ⟨o2, H3, I3, w2, e3, e4⟩ => ?_
  subst e3 e4
  refine thn (hst.run pins s3 σ H3 (fun o H4 => o = some (-1) ∧ H4 = H3) I3 ⟨1, rfl, -1, rfl, rfl, rfl⟩) fun vs s4 ⟨o3, H4, I4, w3, e5, e6⟩ => ?_
  subst e5 e6
  obtain ⟨l1, rfl, m1⟩ := IsPart.raw w1
  obtain ⟨l2, rfl, m2⟩ := IsPart.raw w2
  obtain ⟨l3, rfl, m3⟩ := IsPart.raw w3
  have I5 : Inv X pins σ H4 { s4 with heap := s4.heap.push { cls := .type "slice", data := .fields #[partValue l1, partValue l2, partValue l3] } } := I4.kept (t' := s4.toks) fun b ob q => Heap.get?_push_of_some _ q
  show wpAny (model X.prog X.w) X.A (PyProof.Rows.subscriptTail e (.Slice none none (some (.UnaryOp .USub (.Constant (.int 1) k p1) p2)) p3) (.str (tx l) t) (.ref s4.heap.objs.size)) (EP X pins σ Q) X.xe _
  refine PyProof.Rows.tail_any (ops := [.str (tx l) t, .ref s4.heap.objs.size]) (typeIs_str _ _ _) F.slot_str_getitem.lookup ?_ (by with_unfolding_all rfl)
  refine wpAny_getItem_str_slice (l := l1) (u := l2) (st := l3) ⟨_, Heap.get?_push_size _ rfl, rfl, rfl⟩ (by rw [m3]; rfl) ?_
  unfold sliceMade slicePicked
  rw [m1, m2, m3]
  have e : (⟨((Builtin.Str.strSliceIndices none none ((some (-1 : Int)).getD 1) (tx l).length).filterMap ((tx l).cps[·]?)).toArray⟩ : Str) = tx l.reverse := by
    show (⟨((Builtin.Str.strSliceIndices none none (-1) (tx l).length).filterMap ((tx l).cps[·]?)).toArray⟩ : Str) = tx l.reverse
    rw [PyProof.Rows.picked_rev, tx_len, PySem.W.krv_range]
    have k2 := PySem.W.krv_all (tx l).cps
    rw [show (tx l).cps.size = l.length from tx_len l] at k2
    rw [List.filterMap_reverse, k2]
  rw [e]
  rw [if_neg (by simp)]
  refine ⟨?_, .str (tx l.reverse), H4, I5.tok _, ⟨_, rfl⟩, q⟩
  rw [tx_len, List.length_reverse]
  exact szl hl
end
section
variable {σ : St} {H : Hp} {Q : VK}
theorem v_addS {a b : List Nat} (h : a.length + b.length ≤ 1000000) (q : Q (.str (tx (a ++ b))) H) : rTAdd (.str (tx a)) (.str (tx b)) H Q := ⟨a, b, rfl, rfl, h, q⟩
theorem v_mulS {a : List Nat} {n : Int} (h1 : n < 1000000) (h2 : -1000000 < n) (h : a.length * n.toNat ≤ 1000000) (q : Q (.str (tx (List.replicate n.toNat a).flatten)) H) : rTMul (.str (tx a)) (.int n) H Q := ⟨a, n, rfl, rfl, h1, h2, h, q⟩
theorem v_ltS {a b : List Nat} (q : Q (.bl (decide (a < b))) H) : rTLt (.str (tx a)) (.str (tx b)) H Q := ⟨a, b, rfl, rfl, q⟩
theorem e_revS {te : TE} (q : te σ H fun x H1 => ∃ l : List Nat, x = .str (tx l) ∧ l.length ≤ 1000000 ∧ Q (.str (tx l.reverse)) H1) : tRevS te σ H Q := q
theorem v_revS {l : List Nat} {P : List Nat → Prop} (h : l.length ≤ 1000000) (q : P l) : ∃ l' : List Nat, V.str (tx l) = .str (tx l') ∧ l'.length ≤ 1000000 ∧ P l' := ⟨l, rfl, h, q⟩
end
end Cw
set_option Elab.async false
set_option linter.all false
set_option maxRecDepth 100000
set_option maxHeartbeats 4000000
namespace Cw
open PySem PySem.Spec L2
/-! ### constants and globals -/
section
variable {X : Cx} {x : Str} {pos : PySem.Pos} {j : Nat}
theorem pe_tx {kd : _} (l : List Nat) (h : x = tx l) : PE X (.Constant (.str x) kd pos) (tC (.str (tx l))) := by
  rw [h]
  exact pe_str
theorem pe_globS {z : Str} (h : ∃ t, X.mg x = some (.str z t)) (hg : Gl X x := by rfl) (hd : (x == ("__debug__" : Str)) = false := by decide) : PE X (.Name x pos) (tC (.str z)) := by
  obtain ⟨t, h⟩ := h
  exact pe_glob hg h ⟨t, rfl⟩ hd
theorem pe_globI {z : Int} (h : ∃ t, X.mg x = some (.int z t)) (hg : Gl X x := by rfl) (hd : (x == ("__debug__" : Str)) = false := by decide) : PE X (.Name x pos) (tC (.int z)) := by
  obtain ⟨t, h⟩ := h
  exact pe_glob hg h ⟨t, rfl⟩ hd
/-- a class of one's own as a value -/
theorem pe_globC {C : Addr} (h : X.mg x = some (.ref C)) (hg : Gl X x := by rfl) (hd : (x == ("__debug__" : Str)) = false := by decide) : PE X (.Name x pos) (tC (.ref C)) := pe_glob hg h rfl hd
end
/-! ### slices of texts -/
theorem sl_S {X : Cx} : SlR X rSlS := sl_str
theorem sl_L {X : Cx} : SlR X (rSlL X.K) := sl_list
section
variable {σ : St} {H : Hp} {Q : VK} {te : TE} {tl th : TO} {K : PySem.W.Frag}
theorem e_sl {r : V → Option Int → Option Int → Hp → VK → Prop} (q : te σ H fun x H1 => tl σ H1 fun l H2 => th σ H2 fun u H3 => r x l u H3 Q) : tSl r te tl th σ H Q := q
theorem e_nopart {Q : Option Int → Hp → Prop} (q : Q none H) : tNoPart σ H Q := q
theorem e_part {Q : Option Int → Hp → Prop} (q : te σ H fun x H1 => ∃ i, x = .int i ∧ Q (some i) H1) : tPart te σ H Q := q
theorem cut_to (l : List Nat) {n : Int} (h : 0 ≤ n) : cutS (tx l) none (some n) = tx (l.take n.toNat) := by
  unfold cutS
  rw [tx_len]
  show (⟨((l.toArray.toList.drop 0).take ((if n < 0 then _ else min n.toNat l.length) - 0)).toArray⟩ : Str) = _
  rw [if_neg (by omega)]
  simp only [List.drop_zero, Nat.sub_zero]
  rw [← List.take_take]
  simp
theorem cut_from (l : List Nat) {n : Int} (h : 0 ≤ n) : cutS (tx l) (some n) none = tx (l.drop n.toNat) := by
  unfold cutS
  rw [tx_len]
  show (⟨((l.toArray.toList.drop (if n < 0 then _ else min n.toNat l.length)).take (l.length - (if n < 0 then _ else min n.toNat l.length))).toArray⟩ : Str) = _
  rw [if_neg (by omega)]
  have e : (l.drop (min n.toNat l.length)) = l.drop n.toNat := by
    by_cases hl : n.toNat ≤ l.length
    · rw [Nat.min_eq_left hl]
    · rw [Nat.min_eq_right (by omega), List.drop_of_length_le (by omega), List.drop_of_length_le (by omega)]
  simp only
  rw [e, List.take_of_length_le (by rw [List.length_drop]; omega)]
theorem v_slTo {l : List Nat} {n : Int} (hl : l.length ≤ 1000000) (h : 0 ≤ n) (q : Q (.str (tx (l.take n.toNat))) H) : rSlS (.str (tx l)) none (some n) H Q := ⟨tx l, rfl, by rw [tx_len]; exact szl hl, by rw [cut_to l h]; exact q⟩
theorem v_slFrom {l : List Nat} {n : Int} (hl : l.length ≤ 1000000) (h : 0 ≤ n) (q : Q (.str (tx (l.drop n.toNat))) H) : rSlS (.str (tx l)) (some n) none H Q := ⟨tx l, rfl, by rw [tx_len]; exact szl hl, by rw [cut_from l h]; exact q⟩
end
/-! ### join -/
def joinT (ls : List (List Nat)) : List Nat := ls.flatten
def rJoinT (K : PySem.W.Frag) : V → List V → Hp → VK → Prop := fun x xs H Q => ∃ (p : Addr) (ls : List (List Nat)), x = .str (tx []) ∧ xs = [.ref p] ∧ (SqL K H p (ls.map fun l => V.str (tx l)) ∨ SqT K H p (ls.map fun l => V.str (tx l))) ∧ ls.flatten.length ≤ 1000000 ∧ Q (.str (tx ls.flatten)) H
theorem join_empty (ls : List (List Nat)) : Txt.join (tx []) (ls.map tx) = tx ls.flatten := by
  have e : ∀ ls : List (List Nat), TL.joinL [] ls = ls.flatten := by
    intro ls
    induction ls with
    | nil => rfl
    | cons p r ih =>
      cases r with
      | nil => simp [TL.joinL]
      | cons q r =>
        show p ++ ([] ++ TL.joinL [] (q :: r)) = _
        rw [ih]
        simp
  have h := TL.tl_join (tx []) (ls.map tx)
  have h2 : (Str.join (tx []) (ls.map tx)).cps.toList = ls.flatten := by
    refine Eq.trans h ?_
    show TL.joinL [] ((ls.map tx).map TL.tl) = _
    rw [List.map_map, e]
    congr 1
    have : (TL.tl ∘ tx) = id := by
      funext l
      show (tx l).cps.toList = l
      simp
    rw [this, List.map_id]
  have g : Txt.join (tx []) (ls.map tx) = Str.join (tx []) (ls.map tx) := by
    show Builtin.Str.glued _ _ = _
    rw [StrLaws.glued_eq_join]
  rw [g, tx_eq (z := Str.join (tx []) (ls.map tx)), h2]
section
variable {X : Cx} {o e : Expr} {to te : TE}
theorem mt_joinT : MtR X "str.join" (rJoinT X.K) := by
  intro pins s σ H x xs v us Q I rx rs h
  obtain ⟨p, ls, rfl, rfl, hp, hl, q⟩ := h
  refine mt_join pins s σ H _ _ v us Q I rx rs ⟨tx [], p, ls.map tx, rfl, rfl, ?_, ?_, ?_⟩
  · simpa [List.map_map, Function.comp_def] using hp
  · have e : ((ls.map tx).map (·.length)).sum = ls.flatten.length := by
      rw [List.map_map, List.length_flatten]
      exact congrArg List.sum (List.map_congr_left fun l _ => tx_len l)
    rw [e]
    have e0 : (tx []).length = 0 := rfl
    rw [e0]
    omega
  · rw [join_empty]
    exact q
theorem pe_joinT {apos pos : PySem.Pos} (ho : PE X o to) (he : PE X e te) (hs : starEach [e] X.env = [(false, eval e X.env)] := by rfl) (hbase : attributeBase o "join" X.env (eval o X.env) = eval o X.env := by rfl) (hline : (apos.endLine == pos.line) = true := by rfl) :
    PE X (.Call (.Attribute o "join" apos) [e] [] pos) (tM1 (rJoinT X.K) to te) := pe_m1 F.slot_str_join F.type_str_join mt_joinT ho he hs hbase hline
end
section
variable {σ : St} {H : Hp} {Q : VK} {to te : TE} {K : PySem.W.Frag}
theorem e_m1 {r : V → List V → Hp → VK → Prop} (q : to σ H fun x H1 => (∃ a, x = .str a) ∧ te σ H1 fun y H2 => r x [y] H2 Q) : tM1 r to te σ H Q := q
theorem v_isS {a : Str} {P : Prop} (q : P) : (∃ b, V.str a = .str b) ∧ P := ⟨⟨a, rfl⟩, q⟩
theorem v_join {p : Addr} {ls : List (List Nat)} (h : H p = some (.lst (ls.map fun l => V.str (tx l)))) (hl : ls.flatten.length ≤ 1000000) (q : Q (.str (tx ls.flatten)) H) : rJoinT K (.str (tx [])) [.ref p] H Q := ⟨p, ls, rfl, rfl, .inl (SqL.of h), hl, q⟩
/-! ### membership -/
theorem v_inS {c : Nat} {l : List Nat} (q : Q (.bl (decide (c ∈ l))) H) : rInS (.str (tx [c])) (.str (tx l)) H Q := ⟨c, tx l, rfl, rfl, by simpa using q⟩
theorem v_notInS {c : Nat} {l : List Nat} (q : Q (.bl (!decide (c ∈ l))) H) : rNotInS (.str (tx [c])) (.str (tx l)) H Q := ⟨c, tx l, rfl, rfl, by simpa using q⟩
theorem inV_tx {x : List Nat} : ∀ {ls : List (List Nat)}, inV (.str (tx x)) (ls.map fun l => V.str (tx l)) = decide (x ∈ ls)
  | [] => by simp [inV]
  | l :: r => by
    have ih := inV_tx (x := x) (ls := r)
    unfold inV at ih ⊢
    rw [List.map_cons, List.any_cons, ih]
    by_cases e : l = x
    · subst e
      simp [eqV]
    · have e2 : ¬ tx l = tx x := fun z => e (tx_inj.mp z)
      have e3 : ¬ x = l := fun z => e z.symm
      simp [eqV, e2, e3]
theorem flat_tx (ls : List (List Nat)) : (ls.map fun l => V.str (tx l)).all flatV = true := by
  rw [List.all_map]
  exact List.all_eq_true.mpr fun _ _ => rfl
theorem op_inL {X : Cx} : OpR X (compareOp .In) (rIn X.K false) := op_in_seq
theorem v_inL {x : List Nat} {ls : List (List Nat)} {p : Addr} (h : H p = some (.lst (ls.map fun l => V.str (tx l)))) (q : Q (.bl (decide (x ∈ ls))) H) : rIn K false (.str (tx x)) (.ref p) H Q :=
  ⟨p, _, rfl, .inl (SqL.of h), rfl, flat_tx ls, by rw [inV_tx]; exact q⟩
theorem v_inT {x : List Nat} {ls : List (List Nat)} {p : Addr} (h : SqT K H p (ls.map fun l => V.str (tx l))) (q : Q (.bl (decide (x ∈ ls))) H) : rIn K false (.str (tx x)) (.ref p) H Q :=
  ⟨p, _, rfl, .inr h, rfl, flat_tx ls, by rw [inV_tx]; exact q⟩
end
/-! ### comprehensions -/
theorem wipe1 {σ : St} {i : Nat} {x : Option V} : wipe ((wipe σ [i]).set i x) [i] = wipe σ [i] := by
  show (((σ.set i none).set i x).set i none) = σ.set i none
  rw [List.set_set, List.set_set]
section
variable {σ : St} {H : Hp} {Q : VK} {wi : TI} {g : TG} {tt : TT} {te t0 : TE} {i : Nat} {K : PySem.W.Frag}
/-- what a comprehension's new list is, item by item: Y tells the turn's items -/
theorem lc_gen {P : Addr → Hp → Prop} {J : It} {n : Nat} {G : Hp → Prop} {it : Nat → V} {b : Nat → Bool} {f : Nat → V} (w : Walk J n G (fun k H x H' => H' = H ∧ x = it k)) (hG : ∀ H', Same H H' → G H') (hn : n ≤ 1000000)
    (ht : ∀ k, k < n → ∀ H1, Same H H1 → ∀ R : Bool → Hp → Prop, (∀ H2, Same H1 H2 → R (b k) H2) → tt ((wipe σ [i]).set i (some (it k))) H1 R)
    (he : ∀ k, k < n → b k = true → ∀ H1, Same H H1 → ∀ R : VK, (∀ H2, Same H1 H2 → R (f k) H2) → te ((wipe σ [i]).set i (some (it k))) H1 R)
    (q : ∀ D H', H D = none → Same H H' → H' D = some (.lst (((List.range n).filter b).map f)) → P D H') :
    ∀ D, H D = none → ∃ W : Nat → Nat → Hp → Prop, (∃ m, W 0 m (upd H D (.lst []))) ∧ ∀ k m H, W k m H →
      (J.stop k H ∧ P D H) ∨ (J.go k H ∧ ∃ Nx : Hp → Prop, (∀ H', Nx H' → ∃ m', m' < m ∧ W (k + 1) m' H') ∧ ∀ x H', J.yld k H x H' → (gName i) x (wipe σ [i]) H' fun s2 H2 => wipe s2 [i] = wipe σ [i] ∧ tt s2 H2 fun c H3 =>
        if c = true then te s2 H3 fun y H4 => ∃ acc, H4 D = some (.lst acc) ∧ acc.length < sizeLine ∧ Nx (upd H4 D (.lst (acc ++ [y]))) else Nx H3) := by
  intro D hD
  refine lc_it w (vs := [i]) (σ := σ) (g := gName i) (tt := tt) (te := te) (Qd := fun H' => P D H') (fun k H' => Same H H' ∧ H' D = some (.lst (((List.range k).filter b).map f)))
    ⟨Same.new hD, upd_same⟩ (fun k H' _ p => hG H' p.1) (fun k x H1 H2 hk p y => ?_) (fun H' p => q D H' hD p.1 p.2)
  obtain ⟨p1, p2⟩ := p
  obtain ⟨rfl, rfl⟩ := y
  refine ⟨wipe1, ht k hk _ p1 _ fun H3 s3 => ?_⟩
  have e1 : (List.range (k + 1)).filter b = (List.range k).filter b ++ (if b k = true then [k] else []) := by
    rw [List.range_succ, List.filter_append]
    congr 1
    by_cases c : b k = true
    · simp [c]
    · simp [c]
  by_cases c : b k = true
  · rw [if_pos c]
    refine he k hk c _ (p1.trans s3) _ fun H4 s4 => ?_
    refine ⟨_, s4 _ _ (s3 _ _ p2), ?_, fun a o ha => ?_, ?_⟩
    · rw [List.length_map]
      have h1 := List.length_filter_le b (List.range k)
      rw [List.length_range] at h1
      exact szlt (by omega)
    · rw [upd_ne (ne_of_none ha hD)]
      exact s4 _ _ (s3 _ _ (p1 _ _ ha))
    · rw [upd_same, e1, if_pos c, List.map_append]
      rfl
  · rw [if_neg c]
    refine ⟨p1.trans s3, ?_⟩
    rw [e1, if_neg c, List.append_nil]
    exact s3 _ _ p2
theorem e_lc {vs : List Nat} (q : wi σ H fun J H1 => ∀ D, H1 D = none → ∃ W : Nat → Nat → Hp → Prop, (∃ m, W 0 m (upd H1 D (.lst []))) ∧ ∀ i m H, W i m H →
    (J.stop i H ∧ Q (.ref D) H) ∨ (J.go i H ∧ ∃ Nx : Hp → Prop, (∀ H', Nx H' → ∃ m', m' < m ∧ W (i + 1) m' H') ∧ ∀ x H', J.yld i H x H' → g x (wipe σ vs) H' fun s2 H2 => wipe s2 vs = wipe σ vs ∧ tt s2 H2 fun b H3 =>
      if b = true then te s2 H3 fun y H4 => ∃ acc, H4 D = some (.lst acc) ∧ acc.length < sizeLine ∧ Nx (upd H4 D (.lst (acc ++ [y]))) else Nx H3)) : tLc wi g tt te vs σ H Q := q
theorem range_map {α : Type} (l : List Nat) (b : Nat → Bool) (f : Nat → α) : ((List.range l.length).filter fun k => b (l.getD k 0)).map (fun k => f (l.getD k 0)) = (l.filter b).map f := by
  have e : l = (List.range l.length).map fun k => l.getD k 0 := by
    apply List.ext_getElem
    · simp
    · intro j h1 h2
      simp [List.getD, h1]
  conv => rhs; rw [e, List.filter_map, List.map_map]
  rfl
/-- [e for c in text if t] -/
theorem v_lcS {P : Addr → Hp → Prop} {l : List Nat} {b : Nat → Bool} {f : Nat → V} (hn : l.length ≤ 1000000)
    (ht : ∀ c, c ∈ l → ∀ H1, Same H H1 → ∀ R : Bool → Hp → Prop, (∀ H2, Same H1 H2 → R (b c) H2) → tt ((wipe σ [i]).set i (some (.str (tx [c])))) H1 R)
    (he : ∀ c, c ∈ l → b c = true → ∀ H1, Same H H1 → ∀ R : VK, (∀ H2, Same H1 H2 → R (f c) H2) → te ((wipe σ [i]).set i (some (.str (tx [c])))) H1 R)
    (q : ∀ D H', H D = none → Same H H' → H' D = some (.lst ((l.filter b).map f)) → P D H') :
    ∀ D, H D = none → ∃ W : Nat → Nat → Hp → Prop, (∃ m, W 0 m (upd H D (.lst []))) ∧ ∀ k m H, W k m H →
      ((Its (tx l)).stop k H ∧ P D H) ∨ ((Its (tx l)).go k H ∧ ∃ Nx : Hp → Prop, (∀ H', Nx H' → ∃ m', m' < m ∧ W (k + 1) m' H') ∧ ∀ x H', (Its (tx l)).yld k H x H' → (gName i) x (wipe σ [i]) H' fun s2 H2 => wipe s2 [i] = wipe σ [i] ∧ tt s2 H2 fun c H3 =>
        if c = true then te s2 H3 fun y H4 => ∃ acc, H4 D = some (.lst acc) ∧ acc.length < sizeLine ∧ Nx (upd H4 D (.lst (acc ++ [y]))) else Nx H3) := by
  have mem : ∀ k, k < l.length → l.getD k 0 ∈ l := fun k hk => by
    rw [List.getD_eq_getElem?_getD, List.getElem?_eq_getElem hk]
    exact List.getElem_mem hk
  have w : Walk (Its (tx l)) l.length (fun _ => True) (fun k H x H' => H' = H ∧ x = .str (tx [l.getD k 0])) := by
    refine ⟨fun k H hk _ => by show k < (tx l).cps.size; simpa using hk, fun H _ => by show (tx l).cps.size ≤ l.length; simp, fun k H x H' hk _ y => ?_⟩
    obtain ⟨e, c, hc, rfl⟩ := y
    refine ⟨e, ?_⟩
    have hc : l[k]? = some c := by simpa using hc
    rw [List.getD_eq_getElem?_getD, hc]
    rfl
  refine lc_gen (b := fun k => b (l.getD k 0)) (f := fun k => f (l.getD k 0)) w (fun _ _ => trivial) hn (fun k hk H1 s1 R r => ht _ (mem k hk) H1 s1 R r) (fun k hk c H1 s1 R r => he _ (mem k hk) c H1 s1 R r) (fun D H' hD s' e => q D H' hD s' ?_)
  rw [e, range_map]
end
end Cw
set_option Elab.async false
set_option linter.all false
set_option maxRecDepth 100000
set_option maxHeartbeats 4000000
namespace Cw
open PySem PySem.Spec L2
/-! ### a comprehension of two fors over texts -/
theorem lc_in {J : It} {n : Nat} {G : Hp → Prop} {Y : Nat → Hp → V → Hp → Prop} (w : Walk J n G Y) {g : TG} {tt : TT} {te : TE} {vs : List Nat} {σ : St} {H1 : Hp} {D : Addr} {Qd : Hp → Prop} (Pv : Nat → Hp → Prop) (h0 : Pv 0 H1) (hG : ∀ i H, i ≤ n → Pv i H → G H)
    (hs : ∀ i x H H', i < n → Pv i H → Y i H x H' → g x (wipe σ vs) H' fun s2 H2 => wipe s2 vs = wipe σ vs ∧ tt s2 H2 fun b H3 =>
      if b = true then te s2 H3 fun y H4 => ∃ acc, H4 D = some (.lst acc) ∧ acc.length < sizeLine ∧ Pv (i + 1) (upd H4 D (.lst (acc ++ [y]))) else Pv (i + 1) H3) (hd : ∀ H, Pv n H → Qd H) :
    ∃ W : Nat → Nat → Hp → Prop, (∃ m, W 0 m H1) ∧ ∀ i m H, W i m H →
      (J.stop i H ∧ Qd H) ∨ (J.go i H ∧ ∃ Nx : Hp → Prop, (∀ H', Nx H' → ∃ m', m' < m ∧ W (i + 1) m' H') ∧ ∀ x H', J.yld i H x H' → g x (wipe σ vs) H' fun s2 H2 => wipe s2 vs = wipe σ vs ∧ tt s2 H2 fun b H3 =>
        if b = true then te s2 H3 fun y H4 => ∃ acc, H4 D = some (.lst acc) ∧ acc.length < sizeLine ∧ Nx (upd H4 D (.lst (acc ++ [y]))) else Nx H3) := by
  refine ⟨fun i m H => m = n - i ∧ i ≤ n ∧ Pv i H, ⟨n, rfl, Nat.zero_le _, h0⟩, ?_⟩
  rintro i m H ⟨rfl, hi, p⟩
  by_cases c : i < n
  · exact Or.inr ⟨w.goes i H c (hG i H hi p), Pv (i + 1), fun H' p' => ⟨_, by omega, rfl, c, p'⟩, fun x H' y => hs i x H H' c p (w.yields i H x H' c (hG i H hi p) y)⟩
  · have e : i = n := by omega
    rw [e] at p ⊢
    exact Or.inl ⟨w.stops H (hG n H (Nat.le_refl _) p), hd H p⟩
theorem walk_tx (l : List Nat) : Walk (Its (tx l)) l.length (fun _ => True) (fun k H x H' => H' = H ∧ x = .str (tx [l.getD k 0])) := by
  refine ⟨fun k H hk _ => by show k < (tx l).cps.size; simpa using hk, fun H _ => by show (tx l).cps.size ≤ l.length; simp, fun k H x H' hk _ y => ?_⟩
  obtain ⟨e, c, hc, rfl⟩ := y
  refine ⟨e, ?_⟩
  have hc : l[k]? = some c := by simpa using hc
  rw [List.getD_eq_getElem?_getD, hc]
  rfl
theorem getD_mem {l : List Nat} {k : Nat} (hk : k < l.length) : l.getD k 0 ∈ l := by
  rw [List.getD_eq_getElem?_getD, List.getElem?_eq_getElem hk]
  exact List.getElem_mem hk
theorem take_getD {l : List Nat} {k : Nat} (hk : k < l.length) : l.take (k + 1) = l.take k ++ [l.getD k 0] := by
  rw [List.take_add_one, List.getD_eq_getElem?_getD, List.getElem?_eq_getElem hk]
  rfl
section
variable {σ : St} {H : Hp} {Q : VK} {tt1 : TT} {te t1 : TE} {i j : Nat}
theorem v_lc2S {la lb : List Nat} {b : Nat → Nat → Bool} {f : Nat → Nat → V} (hij : i ≠ j) (hsz : la.length * lb.length < 1000000)
    (h1 : ∀ c, c ∈ la → ∀ H1, Same H H1 → ∀ R : VK, R (.str (tx lb)) H1 → t1 (((σ.set j none).set i none).set i (some (.str (tx [c])))) H1 R)
    (ht : ∀ c d, c ∈ la → d ∈ lb → ∀ H1, Same H H1 → ∀ R : Bool → Hp → Prop, (∀ H2, Same H1 H2 → R (b c d) H2) → tt1 (((((σ.set j none).set i none).set i (some (.str (tx [c])))).set j none).set j (some (.str (tx [d])))) H1 R)
    (he : ∀ c d, c ∈ la → d ∈ lb → b c d = true → ∀ H1, Same H H1 → ∀ R : VK, (∀ H2, Same H1 H2 → R (f c d) H2) → te (((((σ.set j none).set i none).set i (some (.str (tx [c])))).set j none).set j (some (.str (tx [d])))) H1 R)
    (q : ∀ D H', H D = none → Same H H' → H' D = some (.lst (la.flatMap fun c => (lb.filter (b c)).map (f c))) → Q (.ref D) H') :
    tLc2 (iStr (tC (.str (tx la)))) (gName i) tYes (iStr t1) (gName j) tt1 te [i, j] [j] σ H Q := by
  refine ⟨tx la, rfl, fun D hD => ?_⟩
  have len : ∀ l : List Nat, (l.flatMap fun c => (lb.filter (b c)).map (f c)).length ≤ l.length * lb.length := by
    intro l
    induction l with
    | nil => simp
    | cons c r ih =>
      rw [List.flatMap_cons, List.length_append, List.length_map, List.length_cons, Nat.succ_mul]
      have := List.length_filter_le (b c) lb
      omega
  refine ⟨fun k m H' => m = la.length - k ∧ k ≤ la.length ∧ Same H H' ∧ H' D = some (.lst ((la.take k).flatMap fun c => (lb.filter (b c)).map (f c))), ⟨_, rfl, Nat.zero_le _, Same.new hD, upd_same⟩, ?_⟩
  rintro k m H1 ⟨rfl, hk, s1, e1⟩
  have w := walk_tx la
  by_cases c : k < la.length
  · refine Or.inr ⟨w.goes k H1 c trivial, fun H' => Same H H' ∧ H' D = some (.lst ((la.take (k + 1)).flatMap fun c => (lb.filter (b c)).map (f c))), fun H' p => ⟨_, by omega, rfl, c, p.1, p.2⟩, fun x H2 y => ?_⟩
    obtain ⟨rfl, rfl⟩ := w.yields k H1 x H2 c trivial y
    have hm := getD_mem c
    refine ⟨?_, ?_⟩
    · show ((((σ.set j none).set i none).set i _).set j none).set i none = (σ.set j none).set i none
      rw [List.set_comm _ _ hij.symm, List.set_set, List.set_set, List.set_comm _ _ hij, List.set_set]
    · unfold tYes
      refine iteT ?_
      refine h1 _ hm _ s1 _ ⟨tx lb, rfl, ?_⟩
      refine lc_in (walk_tx lb) (fun z H' => Same H H' ∧ H' D = some (.lst (((la.take k).flatMap fun c => (lb.filter (b c)).map (f c)) ++ ((lb.take z).filter (b (la.getD k 0))).map (f (la.getD k 0))))) ⟨s1, by simpa using e1⟩ (fun _ _ _ _ => trivial) ?_ ?_
      · rintro z x H3 H4 hz ⟨s3, e3⟩ ⟨rfl, rfl⟩
        have hm2 := getD_mem hz
        have et := take_getD hz
        refine ⟨?_, ht _ _ hm hm2 _ s3 _ fun H5 s5 => ?_⟩
        · exact wipe1
        · show (if b (la.getD k 0) (lb.getD z 0) = true then _ else _)
          by_cases cb : b (la.getD k 0) (lb.getD z 0) = true
          · rw [if_pos cb]
            refine he _ _ hm hm2 cb _ (s3.trans s5) _ fun H6 s6 => ⟨_, s6 _ _ (s5 _ _ e3), ?_, fun a o ha => ?_, ?_⟩
            · have n1 := len (la.take k)
              have n2 : ((lb.take z).filter (b (la.getD k 0))).length ≤ z := by
                have := List.length_filter_le (b (la.getD k 0)) (lb.take z)
                rw [List.length_take] at this
                omega
              rw [List.length_append, List.length_map]
              rw [List.length_take, Nat.min_eq_left (by omega)] at n1
              have n3 : k * lb.length + lb.length ≤ la.length * lb.length := by
                rw [← Nat.succ_mul]
                exact Nat.mul_le_mul_right _ c
              exact szlt (by omega)
            · rw [upd_ne (ne_of_none ha hD)]
              exact s6 _ _ (s5 _ _ (s3 _ _ ha))
            · rw [upd_same, et, List.filter_append, List.map_append, List.append_assoc, List.filter_cons, if_pos cb]
              rfl
          · rw [if_neg cb]
            refine ⟨s3.trans s5, ?_⟩
            rw [s5 _ _ e3, et, List.filter_append, List.filter_cons, if_neg cb, List.filter_nil, List.append_nil]
      · rintro H' ⟨s', e'⟩
        refine ⟨s', ?_⟩
        rw [e', take_getD c, List.flatMap_append, List.take_of_length_le (Nat.le_refl _)]
        simp
  · have e : k = la.length := by omega
    subst e
    refine Or.inl ⟨w.stops H1 trivial, q D H1 hD s1 ?_⟩
    rw [e1, List.take_of_length_le (Nat.le_refl _)]
end
end Cw
set_option Elab.async false
set_option linter.all false
set_option maxRecDepth 100000
set_option maxHeartbeats 4000000
/-! plain words about plans -/
namespace Cw
open PySem L2
def LET : List Nat := [97, 98, 99, 100, 101, 102, 103, 104, 105, 106, 107, 108, 109, 110, 111, 112, 113, 114, 115, 116, 117, 118, 119, 120, 121, 122]
def ascOf (l : List Nat) : List Nat := LET.filter fun c => decide (c ∈ l)
def pairsOf (found : List (List Nat)) : List (List Nat) := LET.flatMap fun a => (LET.filter fun b => decide ([a, b] ∈ found)).map fun b => [a, b]
def crossOf (ks : List Nat) (ps : List (List Nat)) (k : Nat) : List Nat := ks.filter fun o => decide ([k, o] ∈ ps) || decide ([o, k] ∈ ps)
/-- the pairs that a plan may be told by: two different kinds each -/
def PairsIn (ks : List Nat) (ps : List (List Nat)) : Prop := ∀ p ∈ ps, ∃ a b, p = [a, b] ∧ a ≠ b ∧ a ∈ ks ∧ b ∈ ks
def crossKV (ks : List Nat) (ps : List (List Nat)) (l : List Nat) : List (Key × V) := l.map fun k => (Sum.inr (tx [k]), V.str (tx (crossOf ks ps k)))
/-- a list of texts as values -/
abbrev strsV (ls : List (List Nat)) : List V := ls.map fun l => V.str (tx l)
theorem LET_lt {c : Nat} (h : c ∈ LET) : 97 ≤ c ∧ c < 123 := by
  unfold LET at h
  simp only [List.mem_cons, List.not_mem_nil, or_false] at h
  omega
theorem LET_mem {c : Nat} : c ∈ LET ↔ 97 ≤ c ∧ c < 123 := by
  refine ⟨LET_lt, fun h => ?_⟩
  unfold LET
  simp only [List.mem_cons, List.not_mem_nil, or_false]
  omega
theorem ascOf_mem {l : List Nat} {c : Nat} : c ∈ ascOf l ↔ c ∈ LET ∧ c ∈ l := by
  unfold ascOf
  rw [List.mem_filter, decide_eq_true_iff]
theorem ascOf_len (l : List Nat) : (ascOf l).length ≤ 26 := List.length_filter_le _ _
theorem LET_nodup : LET.Nodup := by decide
theorem ascOf_nodup (l : List Nat) : (ascOf l).Nodup := LET_nodup.filter _
theorem pairsOf_mem {f : List (List Nat)} {p : List Nat} : p ∈ pairsOf f ↔ ∃ a b, p = [a, b] ∧ a ∈ LET ∧ b ∈ LET ∧ [a, b] ∈ f := by
  unfold pairsOf
  simp only [List.mem_flatMap, List.mem_map, List.mem_filter, decide_eq_true_iff]
  constructor
  · rintro ⟨a, ha, b, ⟨hb, hf⟩, rfl⟩
    exact ⟨a, b, rfl, ha, hb, hf⟩
  · rintro ⟨a, b, rfl, ha, hb, hf⟩
    exact ⟨a, ha, b, ⟨hb, hf⟩, rfl⟩
theorem pairsOf_len (f : List (List Nat)) : (pairsOf f).length ≤ 676 := by
  have h : ∀ l : List Nat, (l.flatMap fun a => (LET.filter fun b => decide ([a, b] ∈ f)).map fun b => [a, b]).length ≤ l.length * 26 := by
    intro l
    induction l with
    | nil => simp
    | cons c r ih =>
      rw [List.flatMap_cons, List.length_append, List.length_map, List.length_cons, Nat.succ_mul]
      have := List.length_filter_le (fun b => decide ([c, b] ∈ f)) LET
      have e : LET.length = 26 := rfl
      omega
  exact h LET
theorem pairsOf_congr {f g : List (List Nat)} (h : ∀ a b, a ∈ LET → b ∈ LET → ([a, b] ∈ f ↔ [a, b] ∈ g)) : pairsOf f = pairsOf g := by
  unfold pairsOf
  have h2 : ∀ l : List Nat, (∀ a ∈ l, a ∈ LET) → (l.flatMap fun a => (LET.filter fun b => decide ([a, b] ∈ f)).map fun b => [a, b]) = (l.flatMap fun a => (LET.filter fun b => decide ([a, b] ∈ g)).map fun b => [a, b]) := by
    intro l
    induction l with
    | nil => intro _; rfl
    | cons c r ih =>
      intro hm
      rw [List.flatMap_cons, List.flatMap_cons, ih fun a ha => hm a (List.mem_cons_of_mem _ ha)]
      congr 2
      refine List.filter_congr fun b hb => ?_
      exact decide_eq_decide.mpr (h c b (hm c (List.mem_cons_self ..)) hb)
  exact h2 LET fun a ha => ha
theorem filter_yes {α : Type} (l : List α) : l.filter (fun _ => true) = l := List.filter_eq_self.mpr fun _ _ => rfl
theorem flat_ones (l : List Nat) : (l.map fun c => [c]).flatten = l := by
  induction l with
  | nil => rfl
  | cons c r ih => rw [List.map_cons, List.flatten_cons, ih]; rfl
theorem strs_ones (l : List Nat) : (l.map fun c => V.str (tx [c])) = strsV (l.map fun c => [c]) := by
  unfold strsV
  rw [List.map_map]
  rfl
theorem nodup_ones {l : List Nat} : (l.map fun c => tx [c]).Nodup ↔ l.Nodup := by
  induction l with
  | nil => simp
  | cons c r ih =>
    rw [List.map_cons, List.nodup_cons, List.nodup_cons, ih]
    refine and_congr_left fun _ => not_congr ?_
    rw [List.mem_map]
    constructor
    · rintro ⟨d, hd, e⟩
      have : [d] = [c] := tx_inj.mp e
      injection this with e _
      exact e ▸ hd
    · intro h
      exact ⟨c, h, rfl⟩
theorem metOf_ones (l : List Nat) : ((metOf (l.map fun c => tx [c])).length = l.length) ↔ l.Nodup := by
  by_cases h : l.Nodup
  · rw [metOf_nodup (nodup_ones.mpr h), List.length_map]
    exact ⟨fun _ => h, fun _ => rfl⟩
  · have := metOf_lt (fun n => h (nodup_ones.mp n))
    rw [List.length_map] at this
    exact ⟨fun e => by omega, fun n => absurd n h⟩
theorem crossOf_sub {ks : List Nat} {ps : List (List Nat)} {k c : Nat} (h : c ∈ crossOf ks ps k) : c ∈ ks := (List.mem_filter.mp h).1
theorem crossOf_len (ks : List Nat) (ps : List (List Nat)) (k : Nat) : (crossOf ks ps k).length ≤ ks.length := List.length_filter_le _ _
section
variable {σ : L2.St} {H : Hp} {Q : VK} {te : TE} {K : PySem.W.Frag}
theorem e_iStr {R : It → Hp → Prop} (q : te σ H fun v H1 => ∃ x, v = .str x ∧ R (Its x) H1) : iStr te σ H R := q
theorem e_iL {R : It → Hp → Prop} (q : te σ H fun x H1 => ∃ a, x = .ref a ∧ (∃ xs, SqL K H1 a xs) ∧ R (Itl K a) H1) : iList K te σ H R := q
theorem v_iL {P : Addr → Prop} {a : Addr} {xs : List V} (h : H a = some (.lst xs)) (q : P a) : ∃ a', V.ref a = .ref a' ∧ (∃ xs, SqL K H a' xs) ∧ P a' := ⟨a, rfl, ⟨xs, SqL.of h⟩, q⟩
theorem e_iR1 {ta : TA} {R : It → Hp → Prop} (q : ta σ H fun vs H1 => ∃ j : Int, vs = [.int j] ∧ -(2 ^ 62) ≤ j ∧ j < 2 ^ 62 ∧ R (Itr 0 j.toNat) H1) : iRng1 ta σ H R := q
theorem v_iR1 {P : Int → Prop} {j : Int} (h1 : -1000000 ≤ j) (h2 : j < 1000000) (q : P j) : ∃ j' : Int, [V.int j] = [.int j'] ∧ -(2 ^ 62) ≤ j' ∧ j' < 2 ^ 62 ∧ P j' := ⟨j, rfl, by omega, by omega, q⟩
theorem e_iR2 {ta : TA} {R : It → Hp → Prop} (q : ta σ H fun vs H1 => ∃ i j : Int, vs = [.int i, .int j] ∧ (-(2 ^ 62) ≤ i ∧ i < 2 ^ 62 ∧ -(2 ^ 62) ≤ j ∧ j < 2 ^ 62) ∧ R (Itr i (j - i).toNat) H1) : iRng2 ta σ H R := q
theorem v_iR2 {P : Int → Int → Prop} {i j : Int} (h1 : -1000000 ≤ i ∧ i < 1000000 ∧ -1000000 ≤ j ∧ j < 1000000) (q : P i j) : ∃ i' j' : Int, [V.int i, V.int j] = [.int i', .int j'] ∧ (-(2 ^ 62) ≤ i' ∧ i' < 2 ^ 62 ∧ -(2 ^ 62) ≤ j' ∧ j' < 2 ^ 62) ∧ P i' j' := ⟨i, j, rfl, by omega, q⟩
theorem e_for {wi : TI} {g : TG} {tb : TS} {D : Ends} (q : wi σ H fun J H1 => ∃ W : Nat → Nat → L2.St → Hp → Prop, (∃ m, W 0 m σ H1) ∧ ∀ i m σ H, W i m σ H →
    (J.stop i H ∧ D.nx σ H) ∨ (J.go i H ∧ ∃ N : L2.St → Hp → Prop, (∀ σ' H', N σ' H' → ∃ m', m' < m ∧ W (i + 1) m' σ' H') ∧ ∀ x H', J.yld i H x H' → g x σ H' fun s2 H2 => tb { D with nx := N, ct := N, bk := D.nx } s2 H2)) : tFor wi g tb D σ H := q
theorem iteNT {A B : Prop} (h : B) : if (!true) = true then A else B := by
  rw [if_neg (by decide)]
  exact h
theorem iteNF {A B : Prop} (h : A) : if (!false) = true then A else B := by
  rw [if_pos (by decide)]
  exact h
theorem e_yes {Q : Bool → Hp → Prop} (q : Q true H) : tYes σ H Q := q
theorem v_isiS {x : Str} (q : Q (.bl true) H) : rIsi K [.str x, .ty "str"] H Q := ⟨.str x, .ty "str", .type "str", .type "str", true, rfl, .ty "str", .base (.str x), kit_ty (by decide +kernel), q⟩
theorem v_all {p : Addr} {bs : List Bool} (h : H p = some (.lst (bs.map V.bl))) (q : Q (.bl (bs.all id)) H) : rAll K [.ref p] H Q := ⟨p, bs, rfl, SqL.of h, q⟩
theorem v_fld {P : V → Prop} {a C dx : Addr} {fs : List (Str × V)} {f : Str} {v : V} (h : H a = some (.ins C dx fs)) (c : Cls K C) (n : NoAttr K C f) (l : fs.lookup f = some v) (q : P v) : ∃ a' C dx fs v, V.ref a = .ref a' ∧ H a' = some (.ins C dx fs) ∧ Cls K C ∧ NoAttr K C f ∧ fs.lookup f = some v ∧ P v := ⟨a, C, dx, fs, v, rfl, h, c, n, l, q⟩
theorem e_sfld {ta tv : TE} {f : Str} {D : Ends} (q : tv σ H fun y H1 => ta σ H1 fun x H2 => ∃ a C dx fs, x = .ref a ∧ H2 a = some (.ins C dx fs) ∧ Cls K C ∧ NoAttr K C f ∧ fs.length < 1000 ∧ D.nx σ (upd H2 a (.ins C dx (putF f y fs)))) : sFld K ta tv f D σ H := q
theorem v_sfld {P : Hp → Prop} {a C dx : Addr} {fs : List (Str × V)} {f : Str} {y : V} (h : H a = some (.ins C dx fs)) (c : Cls K C) (n : NoAttr K C f) (l : fs.length < 1000) (q : ∀ H', Keep a H H' → H' a = some (.ins C dx (putF f y fs)) → P H') :
    ∃ a' C dx fs, V.ref a = .ref a' ∧ H a' = some (.ins C dx fs) ∧ Cls K C ∧ NoAttr K C f ∧ fs.length < 1000 ∧ P (upd H a' (.ins C dx (putF f y fs))) := ⟨a, C, dx, fs, rfl, h, c, n, l, q _ Keep.put upd_same⟩
/-- a class of the text -/
structure ClsF (K : PySem.W.Frag) (mg : Str → Option Value) (x : Str) (C : Addr) : Prop where
  «at» : mg x = some (.ref C)
  cl : Cls K C
  mks : PySem.W.makesIn K C = true
  kp : PySem.W.keepIn K (.ref C) = true
  ha : PySem.W.findIn K (.ref C) "__class__" = some (some (.builtin "object.__class__"))
  hn : PySem.W.specialIn K (.builtin "object.__class__") "__get__" = some (some (.builtin "getset_descriptor.__get__"))
  ht : PySem.W.takesIn K (.builtin "object.__class__") = some true
  hm : PySem.W.mroIn K C (.type "object") = some true
  ob : PySem.W.subIn K (.ref C) (.type "object") = some true
  ne : PySem.W.findIn K (.ref C) "__ne__" = some (some (.builtin "object.__ne__"))
theorem kit_same {C : Addr} : PySem.W.kitOne K (.ref C) (.ref C) = some true := by
  unfold PySem.W.kitOne
  rw [if_pos (by simp)]
theorem v_isiC {mg : Str → Option Value} {x : Str} {a C dx : Addr} {fs : List (Str × V)} (F : ClsF K mg x C) (h : H a = some (.ins C dx fs)) (q : Q (.bl true) H) : rIsi K [.ref a, .ref C] H Q :=
  ⟨.ref a, .ref C, .ref C, .ref C, true, rfl, .own C, .base (.ins h F.cl F.ha F.hn F.ht F.hm), kit_same, q⟩
theorem v_isiL {p t : Addr} {xs : List V} (h : H p = some (.lst xs)) (ht : H t = some (.tup [.ty "list", .ty "tuple"])) (q : Q (.bl true) H) : rIsiT K [.ref p, .ref t] H Q :=
  ⟨.ref p, t, _, .type "list", [.type "list", .type "tuple"], true, rfl, ht, .cons (.ty _) (.cons (.ty _) .nil), .base (.lst h), kitAny_cons (b := true) (kit_ty (by decide +kernel)) (fun z => nomatch z) (fun _ => rfl), q⟩
end
def rTuple (K : PySem.W.Frag) : List V → Hp → VK → Prop := fun xs H Q => ∃ p ys, xs = [.ref p] ∧ ((SqL K H p ys ∧ ∀ l, H l = none → Q (.ref l) (upd H l (.tup ys))) ∨ (SqT K H p ys ∧ Q (.ref p) H))
theorem c_tuple {X : Cx} : CallR X (.type "tuple") (rTuple X.K) := call_tuple_of
theorem v_tuple {K : PySem.W.Frag} {H : Hp} {Q : VK} {p : Addr} {ys : List V} (h : H p = some (.lst ys)) (q : ∀ l H', H l = none → Same H H' → H' l = some (.tup ys) → Q (.ref l) H') : rTuple K [.ref p] H Q :=
  ⟨p, ys, rfl, .inl ⟨SqL.of h, fun l hl => q l _ hl (Same.new hl) upd_same⟩⟩
def rList (K : PySem.W.Frag) : List V → Hp → VK → Prop := fun xs H Q => ∃ p ys, xs = [.ref p] ∧ (SqL K H p ys ∨ SqT K H p ys) ∧ ∀ l, H l = none → Q (.ref l) (upd H l (.lst ys))
theorem c_list {X : Cx} : CallR X (.type "list") (rList X.K) := call_list_of
theorem v_list {K : PySem.W.Frag} {H : Hp} {Q : VK} {p : Addr} {ys : List V} (h : SqL K H p ys) (q : ∀ l H', H l = none → Same H H' → H' l = some (.lst ys) → Q (.ref l) H') : rList K [.ref p] H Q :=
  ⟨p, ys, rfl, .inl h, fun l hl => q l _ hl (Same.new hl) upd_same⟩
section
variable {σ : L2.St} {H : Hp} {Q : VK} {K : PySem.W.Frag}
theorem e_bm {T : String} {r : V → List V → Hp → VK → Prop} {to : TE} {t : TA} (q : to σ H fun x H1 => tyV K T x H1 ∧ t σ H1 fun xs H2 => r x xs H2 Q) : tBM K T r to t σ H Q := q
theorem e_bm0 {T : String} {r : V → List V → Hp → VK → Prop} {to : TE} (q : to σ H fun x H1 => tyV K T x H1 ∧ r x [] H1 Q) : tBM0 K T r to σ H Q := q
theorem v_tyL {P : Prop} {p : Addr} {xs : List V} (h : H p = some (.lst xs)) (q : P) : tyV K "list" (.ref p) H ∧ P := ⟨.inl ⟨rfl, _, SqL.of h⟩, q⟩
theorem v_app {p : Addr} {xs : List V} {y : V} (h : H p = some (.lst xs)) (hl : xs.length < 1000000) (q : ∀ H', Keep p H H' → H' p = some (.lst (xs ++ [y])) → Q .non H') : rAppend (.ref p) [y] H Q :=
  ⟨p, xs, y, rfl, rfl, h, szlt hl, q _ Keep.put upd_same⟩
end
/-! ### rules with the written part named (in a comprehension's block too) -/
section
variable {X : Cx} {K : PySem.W.Frag}
theorem op_inLK (h : X.K = K) : OpR X (compareOp .In) (rIn K false) := h ▸ op_in_seq
theorem op_notInLK (h : X.K = K) : OpR X (compareOp .NotIn) (rIn K true) := h ▸ op_notIn_seq
theorem ix_LK (h : X.K = K) : IxR X (rIxL K) := h ▸ ix_list
theorem ix_TK (h : X.K = K) : IxR X (rIxT K) := h ▸ ix_tup
theorem pe_flK {e : Expr} {f : Str} {pos : PySem.Pos} {ta : TE} (h : X.K = K) (he : PE X e ta) (hb : attributeBase e f X.env (eval e X.env) = eval e X.env) : PE X (.Attribute e f pos) (tFld K ta f) := h ▸ pe_fld he hb
theorem ps_flK {o value : Expr} {f : Str} {pos pos' : PySem.Pos} {ta tv : TE} (h : X.K = K) (ha : PE X o ta) (hv : PE X value tv) (hs : swapsWith value (some (.Attribute o f pos')) pos.line X.env = pure false) : PS X (.Assign [.Attribute o f pos'] value pos) (sFld K ta tv f) := h ▸ ps_fld ha hv hs
theorem pe_joinK {o e : Expr} {to te : TE} {apos pos : PySem.Pos} (h : X.K = K) (ho : PE X o to) (he : PE X e te) (hs : starEach [e] X.env = [(false, eval e X.env)] := by rfl) (hbase : attributeBase o "join" X.env (eval o X.env) = eval o X.env := by rfl) (hline : (apos.endLine == pos.line) = true := by rfl) :
    PE X (.Call (.Attribute o "join" apos) [e] [] pos) (tM1 (rJoinT K) to te) := h ▸ pe_joinT ho he hs hbase hline
theorem c_lenK (h : X.K = K) : CallR X (.builtin "len") (rLen K) := h ▸ c_len
theorem c_isiK (h : X.K = K) : CallR X (.builtin "isinstance") (rIsi K) := h ▸ call_isi
theorem c_isiTK (h : X.K = K) : CallR X (.builtin "isinstance") (rIsiT K) := h ▸ call_isiT
theorem c_listK (h : X.K = K) : CallR X (.type "list") (rList K) := h ▸ c_list
theorem c_tupleK (h : X.K = K) : CallR X (.type "tuple") (rTuple K) := h ▸ c_tuple
theorem c_allK (h : X.K = K) (hc : X.calm = true) : CallR X (.builtin "all") (rAll K) := h ▸ cr_all hc
theorem c_anyK (h : X.K = K) (hc : X.calm = true) : CallR X (.builtin "any") (rAny K) := h ▸ cr_any hc
theorem sl_LK (h : X.K = K) : SlR X (rSlL K) := h ▸ sl_list
theorem op_eqDK (h : X.K = K) (hu : X.A.units + 64 < cLine) : OpR X (compareOp .Eq) (rEqD K) := h ▸ op_eqD hu
theorem op_neDK (h : X.K = K) (hu : X.A.units + 64 < cLine) : OpR X (compareOp .NotEq) (rNeD K) := h ▸ op_neD hu
theorem pi_listK {tg e : Expr} {te : TE} (h : X.K = K) (he : PE X e te) : PI X tg e (iList K te) := h ▸ pi_list he
theorem pi_tupK {tg e : Expr} {te : TE} (h : X.K = K) (he : PE X e te) : PI X tg e (iTup K te) := h ▸ pi_tup he
theorem pe_appK {o e : Expr} {to te : TE} {apos cpos : PySem.Pos} (h : X.K = K) (ho : PE X o to) (he : PE X e te) (hbase : attributeBase o "append" X.env (eval o X.env) = eval o X.env := by rfl)
    (hfew : ((backTo cpos (starEach [e] X.env)).all (fun x => !x.1) && (backToKw cpos (keywordEach [] X.env)).all (fun x => x.1.isSome) && decide ([e].length + ([] : List Keyword).length + (if ([] : List Keyword).isEmpty then 0 else 1) < 30)) = true := by rfl)
    (hline : (apos.endLine == cpos.line) = true := by rfl) (hs : starEach [e] X.env = (false, eval e X.env) :: starEach [] X.env := by rfl) (hplain : (backTo cpos (starEach [] X.env)).any (·.1) = false := by rfl) :
    PE X (.Call (.Attribute o "append" apos) [e] [] cpos) (tBM K "list" rAppend to (tCons te tNil)) := h ▸ pe_bm PySem.F.plainAttrs_list PySem.F.slot_list_append PySem.F.type_list_append mt_append ho (pa_cons he pa_nil hs) hbase hfew hline hs hplain
end
/-- two readings of one walk -/
def iOr (a b : TI) : TI := fun σ H R => a σ H R ∨ b σ H R
theorem pi_or {X : Cx} {tg e : Expr} {a b : TI} (h1 : PI X tg e a) (h2 : PI X tg e b) : PI X tg e (iOr a b) :=
  ⟨fun pos s σ H R I h => h.elim (h1.run pos s σ H R I) (h2.run pos s σ H R I)⟩
def rIsi2 (a b : List V → Hp → VK → Prop) : List V → Hp → VK → Prop := fun xs H Q => a xs H Q ∨ b xs H Q
/-- a list or a tuple, or the empty tuple of the top -/
def SeqO (K : PySem.W.Frag) (H : Hp) (p : Addr) (xs : List V) : Prop := H p = some (.lst xs) ∨ H p = some (.tup xs) ∨ (xs = [] ∧ ∃ o n, K.lookup p = some o ∧ o.cls = .type "tuple" ∧ o.data = .seq #[] n)
section
variable {K : PySem.W.Frag} {H H' : Hp} {p x : Addr} {xs : List V}
theorem SeqO.go (h : SeqO K H p xs) (s : ∀ o, H p = some o → H' p = some o) : SeqO K H' p xs := h.imp (s _) (fun z => z.imp (s _) id)
theorem SeqO.same (h : SeqO K H p xs) (s : Same H H') : SeqO K H' p xs := h.go (s _)
theorem SeqO.keepI {C dx : Addr} {fs : List (Str × V)} (h : SeqO K H p xs) (s : Keep x H H') (hx : H x = some (.ins C dx fs)) : SeqO K H' p xs := by
  rcases h with h | h | h
  · exact .inl (s _ _ h (ne_of h hx (by intro z; cases z)))
  · exact .inr (.inl (s _ _ h (ne_of h hx (by intro z; cases z))))
  · exact .inr (.inr h)
theorem v_isiQ {Q : VK} {t : Addr} (h : SeqO K H p xs) (ht : H t = some (.tup [.ty "list", .ty "tuple"])) (q : Q (.bl true) H) : rIsiT K [.ref p, .ref t] H Q := by
  have key : TyX K H (.ref p) (.type "tuple") → rIsiT K [.ref p, .ref t] H Q := fun ty => ⟨.ref p, t, _, .type "tuple", [.type "list", .type "tuple"], true, rfl, ht, .cons (.ty _) (.cons (.ty _) .nil), ty, kitAny_cons (b := false) (kit_ty (by decide +kernel)) (fun _ => kitAny_cons (b := true) (kit_ty (by decide +kernel)) (fun z => nomatch z) (fun _ => rfl)) (fun z => nomatch z), q⟩
  rcases h with h | h | ⟨_, o, n, h, c, _⟩
  · exact v_isiL h ht q
  · exact key (.base (.tup h))
  · exact key (.kTuple h c)
/-- a for over a list or a tuple -/
theorem e_forSeq {te : TE} {g : TG} {tb : TS} {D : Ends} {σ : L2.St} {H0 : Hp} (hp : SeqO K H0 p xs) (s0 : Same H0 H) (ht : ∀ Q : VK, Q (.ref p) H → te σ H Q) (Pv : Nat → L2.St → Hp → Prop) (h0 : Pv 0 σ H) (hG : ∀ i σ' H', Pv i σ' H' → Same H0 H')
    (hs : ∀ i x σ H H', i < xs.length → Pv i σ H → YAt xs i H x H' → g x σ H' fun σ2 H2 => tb { D with nx := Pv (i + 1), ct := Pv (i + 1), bk := D.nx } σ2 H2) (hd : ∀ σ H, Pv xs.length σ H → D.nx σ H) : tFor (iOr (iList K te) (iTup K te)) g tb D σ H := by
  rcases hp with hp | hp | ⟨rfl, o, n, h, c, e⟩
  · exact Or.inl (ht _ ⟨p, rfl, ⟨xs, SqL.of (s0 _ _ hp)⟩, for_it walk_list Pv h0 (fun i σ' H' _ z => SqL.of (hG i σ' H' z _ _ hp)) hs hd⟩)
  · exact Or.inr (ht _ ⟨p, rfl, ⟨xs, SqT.of (s0 _ _ hp)⟩, for_it walk_tup Pv h0 (fun i σ' H' _ z => SqT.of (hG i σ' H' z _ _ hp)) hs hd⟩)
  · have k : ∀ H', SqT K H' p [] := fun H' => .inr ⟨o, #[], n, h, c, e, by decide, .nil⟩
    exact Or.inr (ht _ ⟨p, rfl, ⟨[], k _⟩, for_it walk_tup Pv h0 (fun i σ' H' _ z => k _) hs hd⟩)
end
theorem DPut.cross {H : Hp} {a : Addr} {kvs : List (Key × V)} {l : List Nat} {v : V} (e : H a = some (.dK kvs)) (hn : valV kvs (Sum.inr (tx l)) = none) (hl : kvs.length < 1000000) : DPut H a (.str (tx l)) v (upd H a (.dK (kvs ++ [(Sum.inr (tx l), v)]))) := by
  have h := DPut.k (k := Sum.inr (tx l)) (v := v) e (szlt hl)
  rw [putK_new v hn] at h
  exact h
theorem key_tx {a b : List Nat} : (Sum.inr (tx a) : Key) = Sum.inr (tx b) ↔ a = b := by
  constructor
  · intro h
    injection h with h
    exact tx_inj.mp h
  · intro h
    rw [h]
/-- a dict by letters -/
theorem letV_none {g : Nat → V} {k : Nat} : ∀ {l : List Nat}, ¬ k ∈ l → valV (l.map fun c => ((Sum.inr (tx [c]) : Key), g c)) (Sum.inr (tx [k])) = none
  | [], _ => rfl
  | c :: r, h => by
    rw [List.map_cons, valV_neg, letV_none fun z => h (List.mem_cons_of_mem _ z)]
    intro e
    have := key_tx.mp e
    injection this with e _
    exact h (e ▸ List.mem_cons_self ..)
theorem letV_some {g : Nat → V} {k : Nat} : ∀ {l : List Nat}, k ∈ l → valV (l.map fun c => ((Sum.inr (tx [c]) : Key), g c)) (Sum.inr (tx [k])) = some (g k)
  | [], h => by cases h
  | c :: r, h => by
    by_cases e : c = k
    · subst e
      rw [List.map_cons, valV_pos rfl]
    · rw [List.map_cons, valV_neg, letV_some ((List.mem_cons.mp h).resolve_left fun z => e z.symm)]
      intro z
      have := key_tx.mp z
      injection this with z _
      exact e z
theorem dget_let {H : Hp} {d : Addr} {g : Nat → V} {k : Nat} {l : List Nat} (h : H d = some (.dK (l.map fun c => ((Sum.inr (tx [c]) : Key), g c)))) (hk : k ∈ l) : DGet H d (.str (tx [k])) (some (g k)) := by
  have e := DGet.k (k := Sum.inr (tx [k])) h
  rw [letV_some hk] at e
  exact e
theorem take_notin {l : List Nat} (h : l.Nodup) {i : Nat} (hi : i < l.length) : ¬ l.getD i 0 ∈ l.take i := by
  intro m
  obtain ⟨j, hj, e⟩ := List.mem_iff_getElem.mp m
  rw [List.length_take] at hj
  rw [List.getElem_take, List.getD_eq_getElem?_getD, List.getElem?_eq_getElem hi] at e
  have := (List.getElem_inj h).mp e
  omega
end Cw
set_option Elab.async false
set_option linter.all false
set_option maxRecDepth 100000
set_option maxHeartbeats 4000000
/-! the same steps, what is to be found asked behind the match -/
namespace Cw
open PySem PySem.Spec L2
section
variable {σ : St} {H : Hp} {Q : VK} {i : Nat} {y : V} {K : PySem.W.Frag}
theorem e_varG (q : ∃ v, σ[i]? = some (some v) ∧ Q v H) : tVar i σ H Q := q
theorem v_lenG {p : Addr} (q : ∃ ys, H p = some (.lst ys) ∧ Q (.int (ys.length : Nat)) H) : rLen K [.ref p] H Q := by
  obtain ⟨ys, h, q⟩ := q
  exact v_len h q
theorem v_inLG {x : List Nat} {p : Addr} (q : ∃ ls : List (List Nat), H p = some (.lst (ls.map fun l => V.str (tx l))) ∧ Q (.bl (decide (x ∈ ls))) H) : rIn K false (.str (tx x)) (.ref p) H Q := by
  obtain ⟨ys, h, q⟩ := q
  exact v_inL h q
theorem v_lenSetG {P : Program} {w : World} {p : Addr} (q : ∃ l : List Str, H p = some (SetT P w p l) ∧ Q (.int (l.length : Nat)) H) : rLenSet P w [.ref p] H Q := by
  obtain ⟨ys, h, q⟩ := q
  exact v_lenSet h q
theorem v_tyLG {P : Prop} {p : Addr} (q : ∃ xs, H p = some (.lst xs) ∧ P) : tyV K "list" (.ref p) H ∧ P := by
  obtain ⟨ys, h, q⟩ := q
  exact v_tyL h q
theorem v_iLG {P : Addr → Prop} {a : Addr} (q : ∃ xs, H a = some (.lst xs) ∧ P a) : ∃ a', V.ref a = .ref a' ∧ (∃ xs, SqL K H a' xs) ∧ P a' := by
  obtain ⟨ys, h, q⟩ := q
  exact v_iL h q
theorem v_dgetG {P : V → Prop} {a : Addr} (q : ∃ v, DGet H a y (some v) ∧ P v) : ∃ a' v, V.ref a = .ref a' ∧ DGet H a' y (some v) ∧ P v := by
  obtain ⟨v, h, q⟩ := q
  exact v_dget h q
end
end Cw
set_option Elab.async false
set_option linter.all false
set_option maxRecDepth 100000
set_option maxHeartbeats 4000000
namespace Cw
open PySem PySem.Spec L2
def top (i : Nat) : Stmt := PySem.Challenge.pw_crosswalls_k06_least_of_all_shortest_way.main.body.getD i (.Pass ⟨0, 0, 0, 0⟩)
local macro_rules | `(tactic| walk_at "side") => `(tactic| first | omega | assumption | (dsimp only; omega) | (unfold CMul; omega) | exact ⟨by decide, by decide, by decide⟩ | exact wdiv (by first | assumption | decide | omega) (by first | assumption | decide | omega) | (simp only [List.length_cons, List.length_nil]; omega) | rfl)
local macro_rules | `(tactic| walk_at "hl") => `(tactic| first | assumption | exact upd_same | ((refine Cw.Same.at (by assumption) ?_); walk_at "hl") | ((refine Cw.Keep.at (by assumption) ?_ (by assumption)); walk_at "hl"))
local macro_rules | `(tactic| walk_at "st") => `(tactic| first
  | (with_reducible refine s_seq ?_) | (with_reducible refine g_nm ?_) | (with_reducible refine s_next ?_) | (with_reducible refine s_set ?_) | (with_reducible refine s_drop ?_) | (with_reducible refine s_ret ?_) | (with_reducible refine s_if ?_)
  | ((with_reducible refine e_varG ?_); refine ⟨_, (by with_unfolding_all rfl), ?_⟩) | (with_reducible refine e_c ?_) | (with_reducible refine e_op ?_) | (with_reducible refine e_un ?_)
  | (with_reducible refine e_cons ?_) | (with_reducible refine e_nil ?_) | (with_reducible refine e_cb ?_) | (with_reducible refine e_call ?_) | (with_reducible refine e_md ?_)
  | (with_reducible refine t_test ?_) | (with_reducible refine t_B ?_) | (with_reducible refine t_and ?_) | (with_reducible refine t_or ?_) | (with_reducible refine t_not ?_)
  | (with_reducible refine e_andV ?_) | (with_reducible refine e_orV ?_) | (with_reducible refine e_notV ?_) | (with_reducible refine e_if ?_)
  | (with_reducible refine v_I0 ?_) | ((with_reducible refine v_I ?c ?_); try (case c => walk_at "side")) | (with_reducible refine v_bl ?_)
  | ((with_reducible refine v_eq ?c ?_); (case c => with_unfolding_all rfl)) | ((with_reducible refine v_ne ?c ?_); (case c => with_unfolding_all rfl))
  | (with_reducible refine v_inti ?_) | (with_reducible refine v_intb ?_) | ((with_reducible refine v_lenG ?_); refine ⟨_, (by walk_at "hl"), ?_⟩)
  | ((with_reducible refine v_lenS ?c ?_); try (case c => walk_at "side"))
  | (with_reducible refine e_dnew ?_) | (with_reducible refine e_dget ?_) | (with_reducible refine s_dput ?_) | (with_reducible refine e_lst ?_) | (with_reducible refine e_tup ?_)
  | ((with_reducible refine v_lst ?c ?_); (case c => walk_at "side")) | ((with_reducible refine v_tup ?c ?_); (case c => walk_at "side"))
  | ((with_reducible refine v_dgetG ?_); refine ⟨_, (by assumption), ?_⟩)
  | (with_reducible refine e_sl ?_) | (with_reducible refine e_nopart ?_) | (with_reducible refine e_part ?_) | (with_reducible refine e_m1 ?_) | (with_reducible refine v_isS ?_) | (with_reducible refine v_int ?_)
  | (with_reducible refine e_lc ?_) | (with_reducible refine e_iStr ?_) | (with_reducible refine e_iEnumS ?_) | (with_reducible refine v_iEnumS ?_) | (with_reducible refine v_str ?_) | (with_reducible refine e_yes ?_) | (with_reducible refine e_fld ?_) | (with_reducible refine e_sfld ?_)
  | ((with_reducible refine v_addS ?c ?_); try (case c => walk_at "side")) | (with_reducible refine v_inS ?_) | (with_reducible refine v_notInS ?_) | (with_reducible refine v_ltS ?_)
  | ((with_reducible refine v_inLG ?_); refine ⟨_, (by walk_at "hl"), ?_⟩) | (with_reducible refine v_isiS ?_) | (with_reducible refine e_revS ?_) | ((with_reducible refine v_revS ?c ?_); try (case c => walk_at "side"))
  | ((with_reducible refine v_lenSetG ?_); refine ⟨_, (by walk_at "hl"), ?_⟩)
  | (with_reducible refine e_bm ?_) | (with_reducible refine e_bm0 ?_) | ((with_reducible refine v_tyLG ?_); refine ⟨_, (by walk_at "hl"), ?_⟩)
  | (with_reducible refine iteNT ?_) | (with_reducible refine iteNF ?_) | (with_reducible refine e_for ?_)
  | (with_reducible refine e_iL ?_) | (with_reducible refine e_iT ?_) | ((with_reducible refine v_iLG ?_); refine ⟨_, (by walk_at "hl"), ?_⟩) | (with_reducible refine e_iR1 ?_) | ((with_reducible refine v_iR1 ?c1 ?c2 ?_); try (case c1 => walk_at "side"); try (case c2 => walk_at "side"))
  | (with_reducible refine e_iR2 ?_) | ((with_reducible refine v_iR2 ?c1 ?_); try (case c1 => walk_at "side"))
  | (with_reducible refine e_pr0 ?_) | (with_reducible refine e_pr ?_) | (with_reducible refine e_disp ?_) | (with_reducible refine s_asgT ?_) | (with_reducible refine e_tryA ?_) | (with_reducible refine e_callS ?_) | (with_reducible refine e_mdS ?_) | (with_reducible refine e_par ?_) | (with_reducible refine v_par ?_) | (with_reducible refine e_par3 ?_) | (with_reducible refine v_par3 ?_) | (with_reducible refine e_iK ?_) | (with_reducible refine e_dnotin ?_)
  | (with_reducible refine iteT ?_) | (with_reducible refine iteF ?_))
local macro_rules | `(tactic| walk_at "go") => `(tactic| repeat walk_at "st")
/-! ### the pen -/
def penL (cl : Addr) (a r : Int) : List (Key × V) := [(Sum.inr "cells", .ref cl), (Sum.inr "place", .int a), (Sum.inr "rest", .int r)]
structure Pen where
  p : Addr
  cl : Addr
  cells : List Int
structure PenAt (g : Pen) (H : Hp) (n : Nat) : Prop where
  ex : ∃ (a r : Int), H g.p = some (.dK (penL g.cl a r)) ∧ H g.cl = some (.lst (g.cells.map V.int)) ∧ g.cells.length ≤ 63 ∧ 0 ≤ a ∧ a ≤ n ∧ 0 ≤ r
section
variable {g : Pen} {H H' : Hp} {n m : Nat} {q : Addr}
theorem PenAt.mono (h : PenAt g H n) (l : n ≤ m) : PenAt g H m := by
  obtain ⟨a, r, h1, h2, h3, h4, h5, h6⟩ := h.ex
  exact ⟨a, r, h1, h2, h3, h4, by omega, h6⟩
theorem PenAt.same (h : PenAt g H n) (s : Same H H') : PenAt g H' n := by
  obtain ⟨a, r, h1, h2, h3, h4, h5, h6⟩ := h.ex
  exact ⟨a, r, s _ _ h1, s _ _ h2, h3, h4, h5, h6⟩
theorem PenAt.keep (h : PenAt g H n) (s : Keep q H H') (n1 : g.p ≠ q) (n2 : g.cl ≠ q) : PenAt g H' n := by
  obtain ⟨a, r, h1, h2, h3, h4, h5, h6⟩ := h.ex
  exact ⟨a, r, s _ _ h1 n1, s _ _ h2 n2, h3, h4, h5, h6⟩
theorem PenAt.p_ne (h : PenAt g H n) (s : H q = none) : g.p ≠ q := by
  obtain ⟨a, r, h1, h2, h3, h4, h5, h6⟩ := h.ex
  exact ne_of_none h1 s
theorem PenAt.cl_ne (h : PenAt g H n) (s : H q = none) : g.cl ≠ q := by
  obtain ⟨a, r, h1, h2, h3, h4, h5, h6⟩ := h.ex
  exact ne_of_none h2 s
end
theorem kcp : ¬ ((Sum.inr ("cells" : Str) : Key) = Sum.inr ("place" : Str)) := by decide +kernel
theorem kcr : ¬ ((Sum.inr ("cells" : Str) : Key) = Sum.inr ("rest" : Str)) := by decide +kernel
theorem kpr : ¬ ((Sum.inr ("place" : Str) : Key) = Sum.inr ("rest" : Str)) := by decide +kernel
section
variable {H : Hp} {p cl : Addr} {a r z : Int}
theorem pen_cells (h : H p = some (.dK (penL cl a r))) : DGet H p (.str "cells") (some (.ref cl)) := by
  have e := DGet.k (k := Sum.inr "cells") h
  rw [penL, valV_pos rfl] at e
  exact e
theorem pen_place (h : H p = some (.dK (penL cl a r))) : DGet H p (.str "place") (some (.int a)) := by
  have e := DGet.k (k := Sum.inr "place") h
  rw [penL, valV_neg kcp, valV_pos rfl] at e
  exact e
theorem pen_rest (h : H p = some (.dK (penL cl a r))) : DGet H p (.str "rest") (some (.int r)) := by
  have e := DGet.k (k := Sum.inr "rest") h
  rw [penL, valV_neg kcr, valV_neg kpr, valV_pos rfl] at e
  exact e
theorem put_place : putK (penL cl a r) (Sum.inr "place") (.int z) = penL cl z r := by
  unfold putK penL
  rw [if_pos (by rw [valV_any]; first | (rw [valV_neg kcp, valV_pos rfl] <;> rfl) | (rw [valV_neg kcr, valV_neg kpr, valV_pos rfl] <;> rfl))]
  show [(if _ then _ else _), (if _ then _ else _), (if _ then _ else _)] = _
  rw [if_neg kcp, if_pos rfl, if_neg (fun e => kpr e.symm)]
theorem put_rest : putK (penL cl a r) (Sum.inr "rest") (.int z) = penL cl a z := by
  unfold putK penL
  rw [if_pos (by rw [valV_any]; first | (rw [valV_neg kcp, valV_pos rfl] <;> rfl) | (rw [valV_neg kcr, valV_neg kpr, valV_pos rfl] <;> rfl))]
  show [(if _ then _ else _), (if _ then _ else _), (if _ then _ else _)] = _
  rw [if_neg kcr, if_neg kpr, if_pos rfl]
theorem pen_setPlace (h : H p = some (.dK (penL cl a r))) : DPut H p (.str "place") (.int z) (upd H p (.dK (penL cl z r))) := by
  have e := DPut.k (k := Sum.inr "place") (v := .int z) h (by show 3 < sizeLine; decide)
  rw [put_place] at e
  exact e
theorem pen_setRest (h : H p = some (.dK (penL cl a r))) : DPut H p (.str "rest") (.int z) (upd H p (.dK (penL cl a z))) := by
  have e := DPut.k (k := Sum.inr "rest") (v := .int z) h (by show 3 < sizeLine; decide)
  rw [put_rest] at e
  exact e
end
/-! ### the module's built-in names -/
structure Txt (K : PySem.W.Frag) (mg : Str → Option Value) : Prop where
  len : mg "len" = none
  int : mg "int" = none
  list : mg "list" = none
def spDraw : Sp := fun vs H Q _ => ∃ (g : Pen) (m : Int) (n : Nat), vs = [.ref g.p, .int m] ∧ 0 < m ∧ m < 1000000 ∧ PenAt g H n ∧ n < 1000000 ∧
  ∀ (z : Int) (H' : Hp), 0 ≤ z → z < m → PenAt g H' (n + 1) → Keep g.p H H' → Q (.int z) H'
section
variable {P : Program} {w : World} {K : PySem.W.Frag} {mg : Str → Option Value} {base : Heap}
abbrev stdraw : Stmt := (top 37)
abbrev Ndraw : List Str := ["_law_pen_here", "_law_number", "_law_digit", "_law_at", "_law_cell", "_law_mixed"]
theorem scdraw : FnScope Ndraw ["_law_pen_here", "_law_number"] (defScope stdraw) := ⟨rfl, rfl, rfl, by decide +kernel, rfl, by decide +kernel, by decide +kernel⟩

theorem ok_draw (F : FnAt K mg "_law_draw" stdraw) (T : Txt K mg) : Def P w K mg base CX0 1 "_law_draw" ["_law_pen_here", "_law_number"] spDraw := by
  refine F.ok scdraw (fun _ _ _ _ _ _ us hl => match us, hl with | [_, _], _ => rfl) (fun vs H Q E h => ?_) (fun f cdv A outer s H vs Q E hr h => ?_)
  · obtain ⟨p, m, n, rfl, _⟩ := h
    rfl
  obtain ⟨⟨p, cl, cells⟩, m, n, rfl, hm0, hm1, hp, hn, k⟩ := h
  have hu := hu_of hr
  have nd := scdraw.nd
  refine ⟨_, (pss_cons (ps_if (pt_cmpR op_ge (pe_dget hu (pv 0) pe_str (fun _ _ => rfl)) (pv 1) (nomark _))
      (pss_cons (ps_set (i := 2) nd rfl (Or.inl rfl) (pe_op op_mod (pe_callTy c_int (by rfl) T.int (by decide +kernel) (pa_cons (pe_dget hu (pv 0) pe_str (fun _ _ => rfl)) pa_nil)) (pv 1)))
        (pss_cons (ps_dput hu (pv 0) pe_str (pe_op op_fdivW (pe_dget hu (pv 0) pe_str (fun _ _ => rfl)) (pv 1)) rfl)
        (pss_one (ps_ret (pv 2)))))
      pss_nil)
      (pss_cons (ps_set (i := 3) nd rfl (Or.inl rfl) (pe_dget hu (pv 0) pe_str (fun _ _ => rfl)))
      (pss_cons (ps_dput hu (pv 0) pe_str (pe_op op_add (pv 3) pe_int) rfl)
      (pss_cons (ps_set (i := 4) nd rfl (Or.inl rfl) (pe_op op_add (pe_op op_mul pe_int (pv 3)) pe_int))
      (pss_cutS (ps_if (pt_cmpR (op_neDK (K := K) rfl hr.units) (pe_dget hu (pv 0) pe_str (fun _ _ => rfl)) (pe_lst pa_nil) (nomark _))
      (pss_one (ps_set (i := 4) nd rfl (Or.inl rfl) (pe_ix (ix_LK (K := K) rfl) (pe_dget hu (pv 0) pe_str (fun _ _ => rfl)) (pe_op op_mod (pe_callTy c_int (by rfl) T.int (by decide +kernel) (pa_cons (pv 3) pa_nil)) (pe_callB (c_lenK (K := K) rfl) (by rfl) T.len PySem.boot_len (pa_cons (pe_dget hu (pv 0) pe_str (fun _ _ => rfl)) pa_nil))) (fun _ _ => rfl))))
      pss_nil)
      (pss_cutS (ps_if (PW.pt (pw_and (pt_cmpR op_lt (pv 3) (pe_callB (c_lenK (K := K) rfl) (by rfl) T.len PySem.boot_len (pa_cons (pe_dget hu (pv 0) pe_str (fun _ _ => rfl)) pa_nil)) (nomark _)) (pw_and1 (pt_cmpR op_ge (pv 4) (pe_op op_pow pe_int pe_int) (nomark _)))))
      (pss_cons (ps_dput hu (pv 0) pe_str (pe_op op_fdivW (pe_op op_sub (pv 4) (pe_op op_pow pe_int pe_int)) (pv 1)) rfl)
        (pss_one (ps_ret (pe_op op_mod (pe_callTy c_int (by rfl) T.int (by decide +kernel) (pa_cons (pe_op op_sub (pv 4) (pe_op op_pow pe_int pe_int)) pa_nil)) (pv 1)))))
      pss_nil)
      (pss_cons (ps_set (i := 5) nd rfl (Or.inl rfl) (pe_op op_mod (pe_callTy c_int (by rfl) T.int (by decide +kernel) (pa_cons (pe_op op_add (pe_op op_add (pe_op op_add (pe_op op_mul (pe_op op_mod (pe_callTy c_int (by rfl) T.int (by decide +kernel) (pa_cons (pv 4) pa_nil)) pe_int) pe_int) (pe_op op_mul (pe_op op_mul pe_int (pv 3)) (pv 3))) (pe_op op_mul pe_int (pv 3))) pe_int) pa_nil)) pe_int))
      (pss_cons (ps_set (i := 5) nd rfl (Or.inl rfl) (pe_op op_mod (pe_callTy c_int (by rfl) T.int (by decide +kernel) (pa_cons (pe_op op_add (pe_op op_mul (pv 5) (pe_op op_add (pv 5) pe_int)) (pe_op op_mul pe_int (pv 3))) pa_nil)) pe_int))
      (pss_one (ps_ret (pe_op op_mod (pe_callTy c_int (by rfl) T.int (by decide +kernel) (pa_cons (pe_op op_fdivW (pe_op op_mod (pe_callTy c_int (by rfl) T.int (by decide +kernel) (pa_cons (pe_op op_add (pe_op op_mul (pv 5) (pv 5)) (pe_op op_mul pe_int (pv 5))) pa_nil)) pe_int) pe_int) pa_nil)) (pv 1)))))))))))), ?_⟩
  refine s_start [some _, some _, none, none, none, none] rfl ?_
  obtain ⟨a, r, h1, h2, h3, h4, h5, h6⟩ := hp.ex
  dsimp only at h1 h2 h3 k ⊢
  have g1 := pen_rest h1
  have g2 := pen_place h1
  have g3 := pen_cells h1
  have fin : ∀ (H2 : Hp) (a2 r2 z : Int), H2 p = some (.dK (penL cl a2 r2)) → Keep p H H2 → 0 ≤ a2 → a2 ≤ a + 1 → 0 ≤ r2 → 0 ≤ z → z < m → Q (.int z) H2 := by
    intro H2 a2 r2 z e1 e2 e3 e4 e5 e6 e7
    have ne : cl ≠ p := ne_of h2 h1 (by intro z; cases z)
    exact k z H2 e6 e7 ⟨a2, r2, e1, e2 _ _ h2 ne, h3, e3, by omega, e5⟩ e2
  walk_at "go"
  refine if_dec (fun c => ?_) (fun c => ?_)
  · walk_at "go"
    refine v_put (pen_setRest h1) fun H1 s1 e1 => ?_
    walk_at "go"
    refine fin H1 _ _ _ e1 s1 h4 (by omega) (Int.ediv_nonneg h6 (by omega)) (Int.emod_nonneg _ (by omega)) (Int.emod_lt_of_pos _ hm0)
  · walk_at "go"
    refine v_put (pen_setPlace h1) fun H1 s1 e1 => ?_
    have ne : cl ≠ p := ne_of h2 h1 (by intro z; cases z)
    have h2' := s1 _ _ h2 ne
    have g1 := pen_rest e1
    have g3 := pen_cells e1
    walk_at "go"
    refine s_cut (fun σ' H' => ∃ c : Int, σ' = [some (.ref p), some (.int m), none, some (.int a), some (.int c), none] ∧ Same H1 H') ?_ ?_
    · walk_at "go"
      intro q H2 hq s2 e2
      refine v_neNilI (s2 _ _ h2') e2 ?_
      have g3 := pen_cells (s2 _ _ e1)
      walk_at "go"
      refine if_bool (fun c => ?_) (fun c => ?_)
      · have hne : 0 < cells.length := by
          cases cells with
          | nil => simp at c
          | cons _ _ => simp
        walk_at "go"
        · rw [List.length_map]; omega
        walk_at "go"
        rw [List.length_map]
        have hz0 : 0 ≤ a % (cells.length : Int) := Int.emod_nonneg _ (by omega)
        have hz1 : a % (cells.length : Int) < cells.length := Int.emod_lt_of_pos _ (by omega)
        have hlt : (a % (cells.length : Int)).toNat < cells.length := by omega
        refine v_ixL (s2 _ _ h2') (at_of (j := (a % (cells.length : Int)).toNat) (by omega) (by rw [List.getElem?_map, List.getElem?_eq_getElem hlt]; rfl)) ?_
        exact ⟨_, rfl, s2⟩
      · walk_at "go"
        exact ⟨_, rfl, s2⟩
    · rintro σ' H2 ⟨c, rfl, s2⟩
      have e2 := s2 _ _ e1
      have h22 := s2 _ _ h2'
      have g3 := pen_cells e2
      have kk : Keep p H H2 := s1.trans (Keep.of s2)
      have ze : (10 : Int) ^ (18 : Int).toNat = 1000000000000000000 := by decide
      refine s_cut (fun σ' H' => σ' = [some (.ref p), some (.int m), none, some (.int a), some (.int c), none] ∧ H' = H2) ?_ ?_
      · walk_at "go"
        refine if_dec (fun c1 => ?_) (fun c1 => ?_)
        · walk_at "go"
          rw [ze]
          refine if_dec (fun c2 => ?_) (fun c2 => ?_)
          · walk_at "go"
            rw [ze]
            refine v_put (pen_setRest e2) fun H3 s3 e3 => ?_
            walk_at "go"
            rw [ze]
            exact fin H3 _ _ _ e3 (kk.trans s3) (by omega) (by omega) (Int.ediv_nonneg (by omega) (by omega)) (Int.emod_nonneg _ (by omega)) (Int.emod_lt_of_pos _ hm0)
          · walk_at "go"
            exact ⟨rfl, rfl⟩
        · walk_at "go"
          exact ⟨rfl, rfl⟩
      · rintro σ' H' ⟨rfl, rfl⟩
        walk_at "go"
        exact fin H' _ _ _ e2 kk (by omega) (by omega) h6 (Int.emod_nonneg _ (by omega)) (Int.emod_lt_of_pos _ hm0)
end
end Cw
set_option Elab.async false
set_option linter.all false
set_option maxRecDepth 100000
set_option maxHeartbeats 4000000
/-! C(..) as a call with a promise of its own -/
namespace Cw
open PySem PySem.Spec L2
/-- from what a caller wants of C(..) to what __init__ promises -/
def Conv (C : Addr) (sp0 sp : Sp) : Prop := ∀ vs H Q E, sp vs H Q E → ∀ x dx, H x = none → H dx = none → dx ≠ x → sp0 (.ref x :: vs) (upd (upd H dx (.own x)) x (.ins C dx [])) (fun v H2 => v = .non ∧ Q (.ref x) H2) E
structure CDef (P : Program) (w : World) (K : PySem.W.Frag) (mg : Str → Option Value) (base : Heap) (CX : CXT) (k : Nat) (x : Str) (C : Addr) (sp : Sp) : Prop where
  ex : ∃ f fd ps sp0, mg x = some (.ref C) ∧ Mk K C f ∧ Binds K fd ps [] ∧ FnOk P w K mg base CX k f fd ps sp0 ∧ Conv C sp0 sp
section
variable {X : Cx} {CX : CXT} {k : Nat} {sp : Sp} {E : XK} {x : Str} {C : Addr} {p pos : PySem.Pos} {e : Expr} {es : List Expr} {t : TA}
theorem pe_mk (D : CDef X.prog X.w X.K X.mg X.base CX k x C sp) (hr : Room (k + 1) X.A) (hx : Passes CX X E) (ha : PA X (e :: es) t) (hg : Gl X x := by rfl) (hdb : (x == ("__debug__" : Str)) = false := by decide)
    (he : starEach (e :: es) X.env = (false, eval e X.env) :: starEach es X.env := by rfl) (hpl : (backTo pos (starEach es X.env)).any (·.1) = false := by rfl) : PE X (.Call (.Name x p) (e :: es) [] pos) (tCall sp [] E t) := by
  obtain ⟨f, fd, ps, sp0, hm, M, hb, F, cv⟩ := D.ex
  refine ⟨fun pins s σ H Q I h => ?_⟩
  refine wpAny_Call_Name_kw (ld_glob I hg hm ?_ hdb)
  refine PySem.W.callWith_K (h₀ := X.base) I.ok.mod.kin M.kp (thn (ha.run pos pins s σ H _ I h) fun us s1 ⟨vs, H1, I1, r, q⟩ => ⟨I1.kIn, ?_⟩) he hpl
  refine run_make M F hr hb .nil hx I1 r fun a da n1 n2 n3 => ?_
  have q : sp (vs ++ []) H1 Q E := q
  rw [List.append_nil] at q ⊢
  exact cv vs H1 Q E q a da n1 n2 n3
end
/-- a method with defaults, all parameters given -/
structure MAtD (K : PySem.W.Frag) (C : Addr) (m qual : Str) (st : Stmt) (dvs : List V) : Prop where
  ex : ∃ f fd, PySem.W.findIn K (.ref C) m = some (some (.ref f)) ∧ PySem.W.isFn K (.ref f) = true ∧ FunD K m qual (defArgs st) (defBody st) (defScope st) dvs [] f fd
section
variable {P : Program} {w : World} {K : PySem.W.Frag} {mg : Str → Option Value} {base : Heap} {CX : CXT} {k : Nat} {C : Addr} {x qual : Str} {ps N : List Str} {sp sp0 : Sp} {st : Stmt} {dvs : List V}
/-- C(..) by its __init__ -/
structure CMk (P : Program) (w : World) (K : PySem.W.Frag) (mg : Str → Option Value) (base : Heap) (CX : CXT) (k : Nat) (x : Str) (C : Addr) (sp : Sp) (ps : List Str) (qual : Str) (st : Stmt) (dvs : List V) : Prop where
  ex : ∃ f fd sp0, mg x = some (.ref C) ∧ Mk K C f ∧ Binds K fd ps [] ∧ FnOk P w K mg base CX k f fd ps sp0 ∧ Conv C sp0 sp ∧ FunD K "__init__" qual (defArgs st) (defBody st) (defScope st) dvs [] f fd
theorem CMk.cdef (D : CMk P w K mg base CX k x C sp ps qual st dvs) : CDef P w K mg base CX k x C sp := by
  obtain ⟨f, fd, sp0, a, b, c, d, e, _⟩ := D.ex
  exact ⟨f, fd, ps, sp0, a, b, c, d, e⟩
/-- C(..) by its __init__, that lets nothing out; h: how the arguments bind where all are given -/
theorem MAtD.make (F : MAtD K C "__init__" qual st dvs) (cf : ClsF K mg x C) (S : FnScope N ps (defScope st)) (hd : dvs ≠ [])
    (hb : ∀ (T : Addr) (kV doc pm : Value) (an : Option Addr) (cdv ct : Value) (us its : List Value), us.length = ps.length → its.length = dvs.length →
      ∃ k, bindArgs (PySem.W.fnOf "__init__" qual (defArgs st) (defBody st) (defScope st) (.ref T) kV doc pm an cdv ct) ⟨us, []⟩ = seqItems? (.ref T) >>= k ∧ k (some its.toArray) = pure (ps.zip (us ++ its.drop dvs.length)))
    (len : ∀ vs H Q E, sp0 vs H Q E → vs.length = ps.length) (cv : Conv C sp0 sp)
    (hbody : ∀ (f : Addr) (cdv : Value) (A : Around) (outer : List Env) (s : Shared) (H : Hp) (vs : List V) (Q : VK) (E : XK), Room k (A.deeper (PyProof.Rows.envOfC qual (defScope st) s.heap.objs.size f cdv)) → sp0 vs H Q E →
      ∃ t, PSs (cxOf CX0 P w K mg base N qual (defScope st) f cdv A outer s H E).nox (defBody st) t ∧ t { nx := fun _ H' => Q .non H', rt := Q } (start N vs) H) : CMk P w K mg base CX0 (k + 1) x C sp ps qual st dvs := by
  obtain ⟨f, fd, h1, h2, F⟩ := F.ex
  have B : Binds K fd ps [] := by
    obtain ⟨ds, r, b⟩ := F.binds1 (ps := ps) ps.length dvs.length hd (by omega) fun T kV doc pm an cdv ct us its l1 l2 => hb T kV doc pm an cdv ct us its l1 l2
    rw [List.drop_of_length_le (Nat.le_refl _)] at r
    cases r
    exact b
  refine ⟨f, fd, sp0, cf.at, ⟨cf.mks, h1, h2, cf.kp⟩, B, F.ok S len fun cdv A outer s H vs Q E hr h => ?_, cv, F⟩
  obtain ⟨t, a, b⟩ := hbody f cdv A outer s H vs Q E hr h
  exact ⟨t, a.nox, b⟩
theorem CDef.mono {j : Nat} (D : CDef P w K mg base CX j x C sp) (h : j ≤ k) : CDef P w K mg base CX k x C sp := by
  obtain ⟨f, fd, ps, sp0, a, b, c, d, e⟩ := D.ex
  exact ⟨f, fd, ps, sp0, a, b, c, d.mono h, e⟩
end
end Cw
set_option Elab.async false
set_option linter.all false
set_option maxRecDepth 100000
set_option maxHeartbeats 4000000
/-! enumerate(text) -/
namespace Cw
open PySem PySem.Spec L2
def Itx (l : List Nat) : It := ⟨fun i _ => i < l.length, fun i H v H' => ∃ T c, v = .ref T ∧ H T = none ∧ H' = upd H T (.tup [.int (i : Nat), .str (tx [c])]) ∧ l[i]? = some c, fun i _ => l.length ≤ i⟩
theorem turn_enumS {P : Program} {w : World} {K : PySem.W.Frag} {elts : List Expr} {kk : Nat} {tpos : PySem.Pos} (l : List Nat) (t : Tok) (e it : Addr) (hne : e ≠ it) :
    Turn P w K (.Tuple elts kk tpos) (Itx l) [e, it] e (fun i h => i ≤ l.length ∧ (∃ old, IsEnum h e it (i : Nat) old) ∧ h.IsStrIter it (strIterType (tx l)) (tx l) t i) where
  mem := by simp
  obj := fun i h st b hb => by
    obtain ⟨_, ⟨old, he⟩, ⟨o, ho, hc, hd⟩⟩ := st
    simp only [List.mem_cons, List.not_mem_nil, or_false] at hb
    rcases hb with z | z
    · subst z; exact ⟨_, he, fun v q => nomatch q⟩
    · subst z; exact ⟨o, ho, fun v q => by rw [hd] at q; cases q⟩
  keep := fun i h h' st k => by
    obtain ⟨a, ⟨old, he⟩, ⟨o, ho, r⟩⟩ := st
    exact ⟨a, ⟨old, k e (by simp) _ he⟩, ⟨o, k it (by simp) o ho, r⟩⟩
  item := by
    intro X hP hw hK hc i pins s σ H E I hf st hg
    subst hP hw hK
    obtain ⟨hi, st⟩ := st
    have hg : i < l.length := hg
    have W := WalksT.enumerateD (A := X.A) (Draws.text (prog := X.prog) (w := X.w) (A := X.A.in1) (I.ok.hd hc) it (tx l) t) e hne (by simp [hne]) (by simp)
    have hel : e < s.heap.objs.size := by obtain ⟨⟨_, he⟩, _⟩ := st; exact Heap.lt_size he
    have hil : it < s.heap.objs.size := by obtain ⟨_, ⟨_, q, _⟩⟩ := st; exact Heap.lt_size q
    refine W.item i s _ E (by simpa using hg) st fun T vals h' tk hv hT isT mid kp => ⟨_, rfl, W.go elts kk tpos i T { s with heap := h', toks := tk } _ E mid fun h2 st2 kp2 => ?_⟩
    obtain ⟨t', x, hx, rfl⟩ := hv
    obtain ⟨c, u, hc', rfl⟩ := hx
    have hTw := W.apart i T h' mid
    obtain ⟨o, ho, r⟩ := isT
    have isT2 : h2.IsTuple T #[.int i t', .str ⟨#[c]⟩ u] := ⟨o, kp2 T o hTw ho, r⟩
    have new : ObjOk X.prog X.w (upd H T (.tup [.int (i : Nat), .str (tx [c])])) h2 T (.tup [.int (i : Nat), .str (tx [c])]) := ⟨by show 2 ≤ sizeLine; decide, [.int i t', .str ⟨#[c]⟩ u], .cons ⟨_, rfl⟩ (.cons ⟨_, rfl⟩ .nil), isT2⟩
    refine ⟨.ref T, _, I.turnedNew (ch := [e, it]) (t' := tk) (fun b ob hb q => kp2 b ob hb (kp b ob hb q)) hf hT new, rfl, ⟨T, c, rfl, I.hok.fresh hT, rfl, by simpa using hc'⟩, ⟨hg, st2⟩, fun b hb => ?_⟩
    have hb2 : b < T := by
      simp only [List.mem_cons, List.not_mem_nil, or_false] at hb
      rcases hb with z | z
      · rw [z]; exact Nat.lt_of_lt_of_le hel hT
      · rw [z]; exact Nat.lt_of_lt_of_le hil hT
    rw [upd_ne (Nat.ne_of_lt hb2)]
    exact (hf b hb).1
  done := by
    intro X hP hw hK hc i pins s σ H E I hf st hg
    subst hP hw hK
    obtain ⟨hi, st⟩ := st
    have hg : l.length ≤ i := hg
    have e1 : i = (tx l).cps.size := by
      have : (tx l).cps.size = l.length := by simp
      omega
    subst e1
    have W := WalksT.enumerateD (A := X.A) (Draws.text (prog := X.prog) (w := X.w) (A := X.A.in1) (I.ok.hd hc) it (tx l) t) e hne (by simp [hne]) (by simp)
    exact W.done s _ E st fun h' tk kp => ⟨rfl, I.turnedL kp hf⟩
  self := fun A i s Q E st h => by
    obtain ⟨_, ⟨_, he⟩, _⟩ := st
    exact wpAny_pyIter_enum he h
def iEnumS (ta : TA) : TI := fun σ H R => ta σ H fun vs H1 => ∃ l : List Nat, vs = [.str (tx l)] ∧ R (Itx l) H1
theorem pi_enumS {X : Cx} {e : Expr} {ta : TA} {p pos tpos : PySem.Pos} {elts : List Expr} {kk : Nat} (hg : Gl X "enumerate") (hm : X.mg "enumerate" = none) (ha : PA X [e] ta) (hs : starEach [e] X.env = [(false, eval e X.env)] := by rfl) :
    PI X (.Tuple elts kk tpos) (.Call (.Name "enumerate" p) [e] [] pos) (iEnumS ta) := by
  refine ⟨fun pins s σ H R I h => ?_⟩
  refine PyProof.Rows.Call_ (ld_blt I hg hm PyProof.Rows.boot_enumerate (PyProof.Rows.callWith_type1 (thn (ha.run pos pins s σ H _ I h) fun us s1 ⟨vs, H1, I1, r1, l, ex, q⟩ => ?_) hs rfl))
  subst ex
  obtain ⟨u, rfl, t, rfl⟩ := vals1 r1
  refine call_enumerate_str fun h' he hit hsz hk => wpAny_pyIter_enum he ?_
  have I2 : L2.Inv X pins σ H1 { s1 with heap := h' } := I1.kept (t' := s1.toks) hk
  refine ⟨s1.heap.objs.size + 1, [s1.heap.objs.size + 1, s1.heap.objs.size], _, _, H1, rfl, I2, turn_enumS l t (s1.heap.objs.size + 1) s1.heap.objs.size (Nat.succ_ne_self _), ⟨Nat.zero_le _, ⟨.none, he⟩, hit⟩, fun b hb => ?_, q⟩
  have hle : s1.heap.objs.size ≤ b := by
    simp only [List.mem_cons, List.not_mem_nil, or_false] at hb
    rcases hb with z | z
    · rw [z]; exact Nat.le_succ _
    · rw [z]; exact Nat.le_refl _
  exact I1.fpOk hle (I1.hok.fresh hle)
theorem walk_enumS (l : List Nat) : Walk (Itx l) l.length (fun _ => True) (fun i H v H' => ∃ T c, v = .ref T ∧ H T = none ∧ H' = upd H T (.tup [.int (i : Nat), .str (tx [c])]) ∧ l[i]? = some c) :=
  ⟨fun _ _ hi _ => hi, fun _ _ => Nat.le_refl _, fun _ _ _ _ _ _ y => y⟩
section
variable {σ : St} {H : Hp}
theorem e_iEnumS {ta : TA} {R : It → Hp → Prop} (q : ta σ H fun vs H1 => ∃ l : List Nat, vs = [.str (tx l)] ∧ R (Itx l) H1) : iEnumS ta σ H R := q
theorem v_iEnumS {P : List Nat → Prop} {l : List Nat} (q : P l) : ∃ l' : List Nat, [V.str (tx l)] = [.str (tx l')] ∧ P l' := ⟨l, rfl, q⟩
end
end Cw
set_option Elab.async false
set_option linter.all false
set_option maxRecDepth 100000
set_option maxHeartbeats 4000000
/-! pairs of a number and a text, compared -/
namespace Cw
open PySem PySem.Spec L2
def pairCmp (ri : Int → Int → Bool) (rs : List Nat → List Nat → Bool) (z : Bool) (n : Int) (a : List Nat) (m : Int) (b : List Nat) : Bool := if n = m then (if a = b then z else rs a b) else ri n m
def rPair (f : Int → List Nat → Int → List Nat → Bool) : R2 := fun x y H Q => ∃ (p q : Addr) (n m : Int) (a b : List Nat), x = .ref p ∧ y = .ref q ∧ H p = some (.tup [.int n, .str (tx a)]) ∧ H q = some (.tup [.int m, .str (tx b)]) ∧ Q (.bl (f n a m b)) H
theorem v_pair {f : Int → List Nat → Int → List Nat → Bool} {H : Hp} {Q : VK} {p q : Addr} {n m : Int} {a b : List Nat} (h1 : H p = some (.tup [.int n, .str (tx a)])) (h2 : H q = some (.tup [.int m, .str (tx b)])) (k : Q (.bl (f n a m b)) H) : rPair f (.ref p) (.ref q) H Q := ⟨p, q, n, m, a, b, rfl, rfl, h1, h2, k⟩
abbrev cmpLt := pairCmp (fun i j => decide (i < j)) (fun a b => decide (a < b)) false
abbrev cmpLe := pairCmp (fun i j => decide (i ≤ j)) (fun a b => !decide (b < a)) true
abbrev cmpGt := pairCmp (fun i j => decide (j < i)) (fun a b => decide (b < a)) false
abbrev cmpGe := pairCmp (fun i j => decide (j ≤ i)) (fun a b => !decide (a < b)) true
theorem eqAt_two {A : Around} {s : Shared} {n m : Int} {a b : List Nat} {t t' u u' : Tok} (j : Nat) (h1 : j < #[Value.int n t, Value.str (tx a) u].size) (h2 : j < #[Value.int m t', Value.str (tx b) u'].size) :
    SeqAt.EqAt A s #[Value.int n t, Value.str (tx a) u][j] #[Value.int m t', Value.str (tx b) u'][j] (if j = 0 then decide (n = m) else decide (a = b)) := by
  have hj : j = 0 ∨ j = 1 := by
    have : j < 2 := h1
    omega
  rcases hj with e | e
  · subst e
    show SeqAt.EqAt A s (.int n t) (.int m t') (decide (n = m))
    have z : (n == m) = decide (n = m) := by rw [Bool.eq_iff_iff]; simp
    rw [← z]
    exact SeqAt.EqAt.int_int _ _ _ _
  · subst e
    show SeqAt.EqAt A s (.str (tx a) u) (.str (tx b) u') (decide (a = b))
    have z : (tx a == tx b) = decide (a = b) := by rw [Bool.eq_iff_iff, beq_iff_eq, decide_eq_true_iff, tx_inj]
    rw [← z]
    exact SeqAt.EqAt.str_str _ _ _ _
section
variable {X : Cx} {op : CmpOp} {ri : Int → Int → Bool} {rs : List Nat → List Nat → Bool} {z : Bool}
theorem pair_op (hop : ∀ u v, compareOp op u v = richCompare op u v)
    (hi : ∀ (A : Around) (s : Shared) (i j : Int) (t u : Tok), Ob.RcOp op A s (.int i t) (.int j u) (ri i j))
    (hs : ∀ (A : Around) (s : Shared) (a b : List Nat) (t u : Tok), Ob.RcOp op A s (.str (tx a) t) (.str (tx b) u) (rs a b))
    (ht : ∀ {A : Around} {s : Shared} {l b : Addr} {it it2 : Array Value} {e r : Nat → Bool}, s.heap.IsTuple l it → s.heap.IsTuple b it2 → A.units < cLine → (∀ j (h1 : j < it.size) (h2 : j < it2.size), SeqAt.EqAt A.in1 s it[j] it2[j] (e j)) →
      (∀ j (h1 : j < it.size) (h2 : j < it2.size), e j = false → Ob.RcOp op A.in1 s it[j] it2[j] (r j)) → it.size = 2 → it2.size = 2 → Ob.RcOp op A s (.ref l) (.ref b) (Ob.lexAt e r z 0 2))
    (hu : X.A.units < cLine) : OpR X (compareOp op) (rPair (pairCmp ri rs z)) := by
  intro pins s σ H x y v u Q I rx ry h
  obtain ⟨p, q, n, m, a, b, rfl, rfl, h1, h2, k⟩ := h
  cases rx
  cases ry
  obtain ⟨its, r1, p1, _⟩ := I.tuple (SqT.of h1)
  obtain ⟨its2, r2, p2, _⟩ := I.tuple (SqT.of h2)
  obtain ⟨w1, w2, rfl, ⟨t, rfl⟩, ⟨t2, rfl⟩⟩ := vals2 r1
  obtain ⟨w3, w4, rfl, ⟨t3, rfl⟩, ⟨t4, rfl⟩⟩ := vals2 r2
  have R := ht (A := X.A) (s := s) (e := fun j => if j = 0 then decide (n = m) else decide (a = b)) (r := fun j => if j = 0 then ri n m else rs a b) p1 p2 hu (fun j g1 g2 => eqAt_two j g1 g2) (fun j g1 g2 _ => by
    have hj : j = 0 ∨ j = 1 := by
      have : j < 2 := g1
      omega
    rcases hj with e | e
    · subst e; exact hi _ _ _ _ _ _
    · subst e; exact hs _ _ _ _ _ _) rfl rfl
  have e : Ob.lexAt (fun j => if j = 0 then decide (n = m) else decide (a = b)) (fun j => if j = 0 then ri n m else rs a b) z 0 2 = pairCmp ri rs z n a m b := by
    unfold pairCmp
    rw [Ob.lexAt_succ, Ob.lexAt_succ, Ob.lexAt_zero]
    simp only [if_true, decide_eq_true_eq, Nat.zero_add, Nat.one_ne_zero, if_false]
  rw [e] at R
  rw [hop]
  exact R X.prog X.w X.xe (EP X pins σ Q) ⟨.bl _, H, I, rfl, k⟩
theorem op_pairLt (hu : X.A.units < cLine) : OpR X (compareOp .Lt) (rPair cmpLt) :=
  pair_op (fun _ _ => rfl) (fun _ _ i j t u => Ob.RcOp.lt_int i j t u) (fun A s a b t u prog w E Q h => by
    have h : Q (.bool (decide ((tx a).cps.toList < (tx b).cps.toList))) s := by simpa using h
    exact PySem.P.lt_str h) (fun h1 h2 h3 h4 h5 e1 e2 => by
    have R := Ob.RcOp.tuples_lt h1 h2 h3 h4 h5
    rw [e1, e2] at R
    exact R) hu
theorem op_pairLe (hu : X.A.units < cLine) : OpR X (compareOp .LtE) (rPair cmpLe) :=
  pair_op (fun _ _ => rfl) (fun _ _ i j t u => Ob.RcOp.le_int i j t u) (fun A s a b t u prog w E Q h => by
    have h : Q (.bool (!decide ((tx b).cps.toList < (tx a).cps.toList))) s := by simpa using h
    exact PySem.P.le_str h) (fun h1 h2 h3 h4 h5 e1 e2 => by
    have R := Ob.RcOp.tuples_le h1 h2 h3 h4 h5
    rw [e1, e2] at R
    exact R) hu
theorem op_pairGt (hu : X.A.units < cLine) : OpR X (compareOp .Gt) (rPair cmpGt) :=
  pair_op (fun _ _ => rfl) (fun _ _ i j t u => Ob.RcOp.gt_int i j t u) (fun A s a b t u prog w E Q h => by
    have h : Q (.bool (decide ((tx b).cps.toList < (tx a).cps.toList))) s := by simpa using h
    exact PySem.P.gt_str h) (fun h1 h2 h3 h4 h5 e1 e2 => by
    have R := Ob.RcOp.tuples_gt h1 h2 h3 h4 h5
    rw [e1, e2] at R
    exact R) hu
theorem op_pairGe (hu : X.A.units < cLine) : OpR X (compareOp .GtE) (rPair cmpGe) :=
  pair_op (fun _ _ => rfl) (fun _ _ i j t u => Ob.RcOp.ge_int i j t u) (fun A s a b t u prog w E Q h => by
    have h : Q (.bool (!decide ((tx a).cps.toList < (tx b).cps.toList))) s := by simpa using h
    exact PySem.P.ge_str h) (fun h1 h2 h3 h4 h5 e1 e2 => by
    have R := Ob.RcOp.tuples_ge h1 h2 h3 h4 h5
    rw [e1, e2] at R
    exact R) hu
end
end Cw
set_option Elab.async false
set_option linter.all false
set_option maxRecDepth 100000
set_option maxHeartbeats 4000000
/-! names: one step, as a plain function -/
namespace Cw
open PySem PySem.Spec L2
/-- the name (turned about) without its last letters out of part, and these -/
def splitB (part : List Nat) : List Nat → List Nat → List Nat × List Nat
  | [], b => ([], b)
  | x :: r, b => if x ∈ part then splitB part r (x :: b) else (x :: r, b)
def putIn (k : Nat) (b : List Nat) : List Nat := b.takeWhile (fun c => decide (c < k)) ++ k :: b.dropWhile (fun c => decide (c < k))
def stepAt (k : Nat) (ra b : List Nat) : List Nat := if ra.head? = some k then ra.tail.reverse ++ b else ra.reverse ++ putIn k b
def stepOf (part name : List Nat) (k : Nat) : List Nat := stepAt k (splitB part name.reverse []).1 (splitB part name.reverse []).2
def joinOf (ks : List Nat) (ps : List (List Nat)) (name way : List Nat) : List Nat := way.foldl (fun n k => stepOf (crossOf ks ps k) n k) name
def backOf (ks : List Nat) (ps : List (List Nat)) (name : List Nat) : List Nat := joinOf ks ps [] name.reverse
def wayOf (ks : List Nat) (ps : List (List Nat)) (name goal : List Nat) : List Nat := joinOf ks ps (backOf ks ps name) goal
theorem splitB_eq (part : List Nat) : ∀ ra b : List Nat, (splitB part ra b).1.reverse ++ (splitB part ra b).2 = ra.reverse ++ b
  | [], b => rfl
  | x :: r, b => by
    unfold splitB
    by_cases h : x ∈ part
    · rw [if_pos h, splitB_eq part r (x :: b), List.reverse_cons, List.append_assoc]
      rfl
    · rw [if_neg h]
theorem putIn_len (k : Nat) (b : List Nat) : (putIn k b).length = b.length + 1 := by
  unfold putIn
  have h : (b.takeWhile (fun c => decide (c < k)) ++ b.dropWhile (fun c => decide (c < k))).length = b.length := by rw [List.takeWhile_append_dropWhile]
  rw [List.length_append] at h
  rw [List.length_append, List.length_cons]
  omega
theorem putIn_mem {k c : Nat} {b : List Nat} (h : c ∈ putIn k b) : c = k ∨ c ∈ b := by
  unfold putIn at h
  rw [List.mem_append, List.mem_cons] at h
  rcases h with h | h | h
  · exact .inr (List.takeWhile_sublist _ |>.subset h)
  · exact .inl h
  · exact .inr (List.dropWhile_sublist _ |>.subset h)
theorem stepAt_len (k : Nat) (ra b : List Nat) : (stepAt k ra b).length ≤ ra.length + b.length + 1 := by
  unfold stepAt
  split
  · rw [List.length_append, List.length_reverse, List.length_tail]
    omega
  · rw [List.length_append, List.length_reverse, putIn_len]
    omega
theorem stepAt_mem {k c : Nat} {ra b : List Nat} (h : c ∈ stepAt k ra b) : c = k ∨ c ∈ ra.reverse ++ b := by
  unfold stepAt at h
  split at h
  · rw [List.mem_append, List.mem_reverse] at h
    rcases h with h | h
    · exact .inr (List.mem_append_left _ (List.mem_reverse.mpr (List.mem_of_mem_tail h)))
    · exact .inr (List.mem_append_right _ h)
  · rw [List.mem_append] at h
    rcases h with h | h
    · exact .inr (List.mem_append_left _ h)
    · rcases putIn_mem h with e | e
      · exact .inl e
      · exact .inr (List.mem_append_right _ e)
theorem stepOf_len (part name : List Nat) (k : Nat) : (stepOf part name k).length ≤ name.length + 1 := by
  have h := congrArg List.length (splitB_eq part name.reverse [])
  simp only [List.length_append, List.length_reverse, List.length_nil] at h
  have := stepAt_len k (splitB part name.reverse []).1 (splitB part name.reverse []).2
  unfold stepOf
  omega
theorem stepOf_mem {part name : List Nat} {k c : Nat} (h : c ∈ stepOf part name k) : c = k ∨ c ∈ name := by
  have := stepAt_mem h
  rw [splitB_eq, List.reverse_reverse, List.append_nil] at this
  exact this
theorem joinOf_len (ks : List Nat) (ps : List (List Nat)) : ∀ (way name : List Nat), (joinOf ks ps name way).length ≤ name.length + way.length
  | [], name => Nat.le_refl _
  | k :: r, name => by
    show (joinOf ks ps (stepOf (crossOf ks ps k) name k) r).length ≤ _
    have := joinOf_len ks ps r (stepOf (crossOf ks ps k) name k)
    have := stepOf_len (crossOf ks ps k) name k
    rw [List.length_cons]
    omega
theorem joinOf_mem {ks : List Nat} {ps : List (List Nat)} {c : Nat} : ∀ {way name : List Nat}, c ∈ joinOf ks ps name way → c ∈ name ∨ c ∈ way
  | [], name, h => .inl h
  | k :: r, name, h => by
    rcases joinOf_mem (way := r) (name := stepOf (crossOf ks ps k) name k) h with z | z
    · rcases stepOf_mem z with e | e
      · exact .inr (e ▸ List.mem_cons_self ..)
      · exact .inl e
    · exact .inr (List.mem_cons_of_mem _ z)
theorem joinOf_snoc {ks : List Nat} {ps : List (List Nat)} {name way : List Nat} {k : Nat} : joinOf ks ps name (way ++ [k]) = stepOf (crossOf ks ps k) (joinOf ks ps name way) k := by
  unfold joinOf
  rw [List.foldl_append]
  rfl
theorem backOf_len (ks : List Nat) (ps : List (List Nat)) (name : List Nat) : (backOf ks ps name).length ≤ name.length := by
  have := joinOf_len ks ps name.reverse []
  rw [List.length_reverse, List.length_nil] at this
  unfold backOf
  omega
theorem backOf_mem {ks : List Nat} {ps : List (List Nat)} {c : Nat} {name : List Nat} (h : c ∈ backOf ks ps name) : c ∈ name := by
  rcases joinOf_mem h with z | z
  · cases z
  · exact List.mem_reverse.mp z
theorem wayOf_len (ks : List Nat) (ps : List (List Nat)) (name goal : List Nat) : (wayOf ks ps name goal).length ≤ name.length + goal.length := by
  have := joinOf_len ks ps goal (backOf ks ps name)
  have := backOf_len ks ps name
  unfold wayOf
  omega
/-! ### letters at their places -/
theorem at_last {x : Nat} {r b : List Nat} : atI ((x :: r).reverse ++ b) (((x :: r).length : Int) - 1) = some x := by
  have e : (((x :: r).length : Int) - 1) = ((r.length : Nat) : Int) := by
    rw [List.length_cons]
    omega
  rw [e]
  refine atI_nat ?_
  rw [List.reverse_cons, List.append_assoc, List.getElem?_append_right (by rw [List.length_reverse]; exact Nat.le_refl _), List.length_reverse, Nat.sub_self]
  rfl
theorem at_mid {x : Nat} {a b : List Nat} : atI (a ++ x :: b) ((a.length : Nat) : Int) = some x := by
  refine atI_nat ?_
  rw [List.getElem?_append_right (Nat.le_refl _), Nat.sub_self]
  rfl
theorem lt_one {a k : Nat} : decide ([a] < [k]) = decide (a < k) := by
  refine decide_eq_decide.mpr ⟨fun h => ?_, fun h => List.Lex.rel h⟩
  cases h with
  | rel h => exact h
  | cons h => cases h
section
variable {σ : St} {H : Hp} {tb : TS} {D : Ends} {tt : TT}
theorem g_nm {i : Nat} {v : V} {Q : St → Hp → Prop} (q : Q (σ.set i (some v)) H) : gName i v σ H Q := q
theorem s_while (W : Nat → St → Hp → Prop) (m : Nat) (h0 : W m σ H) (hs : ∀ m σ H, W m σ H → tt σ H fun b H1 => if b = true then ∃ N : St → Hp → Prop, (∀ σ' H', N σ' H' → ∃ m', m' < m ∧ W m' σ' H') ∧ tb { D with nx := N, ct := N, bk := D.nx } σ H1 else D.nx σ H1) : tWhile tt tb D σ H := ⟨W, ⟨m, h0⟩, hs⟩
theorem v_turn {W : Nat → St → Hp → Prop} {m : Nat} (q : tb { D with nx := fun σ' H' => ∃ m', m' < m ∧ W m' σ' H', ct := fun σ' H' => ∃ m', m' < m ∧ W m' σ' H', bk := D.nx } σ H) : ∃ N : St → Hp → Prop, (∀ σ' H', N σ' H' → ∃ m', m' < m ∧ W m' σ' H') ∧ tb { D with nx := N, ct := N, bk := D.nx } σ H := ⟨_, fun _ _ h => h, q⟩
end
section
variable {H : Hp} {Q : VK} {K : PySem.W.Frag} {p q : Addr}
theorem ok_strs {ls : List (List Nat)} (h : ∀ l ∈ ls, ∀ c ∈ l, c < 1000) : ∀ x ∈ ls.map tx, PyData.strOk x = true := by
  intro x hx
  obtain ⟨l, hl, rfl⟩ := List.mem_map.mp hx
  exact ok_tx (h l hl)
theorem map_tx_inj {a b : List (List Nat)} : a.map tx = b.map tx ↔ a = b := by
  constructor
  · intro h
    induction a generalizing b with
    | nil => cases b with
      | nil => rfl
      | cons y b => cases h
    | cons x a ih => cases b with
      | nil => cases h
      | cons y b =>
        rw [List.map_cons, List.map_cons] at h
        injection h with h1 h2
        rw [tx_inj.mp h1, ih h2]
  · intro h
    rw [h]
theorem strsV_map (ls : List (List Nat)) : strsV ls = (ls.map tx).map V.str := by
  unfold strsV
  rw [List.map_map]
  rfl
theorem v_eqT {a b : List (List Nat)} (h1 : H p = some (.tup (strsV a))) (h2 : H q = some (.tup (strsV b))) (ha : ∀ l ∈ a, ∀ c ∈ l, c < 1000) (hb : ∀ l ∈ b, ∀ c ∈ l, c < 1000) (k : Q (.bl (decide (a = b))) H) : rEqD K (.ref p) (.ref q) H Q := by
  rw [strsV_map] at h1 h2
  refine ⟨.tuple ((a.map tx).map PyData.str), .tuple ((b.map tx).map PyData.str), .tup (SqT.of h1) (dp_strs _), .tup (SqT.of h2) (dp_strs _), shaped_strsT _ (ok_strs ha), shaped_strsT _ (ok_strs hb), ?_⟩
  have e : PyData.eqv (.tuple ((a.map tx).map PyData.str)) (.tuple ((b.map tx).map PyData.str)) = decide (a = b) := by
    show PyData.eqvAll _ _ = _
    rw [eqvAll_strs, decide_eq_decide]
    exact map_tx_inj
  rw [e]
  exact k
end
end Cw
set_option Elab.async false
set_option linter.all false
set_option maxRecDepth 100000
set_option maxHeartbeats 4000000
/-! errors of one's own without values -/
namespace Cw
open PySem PySem.Spec L2
/-- an error class of the text, down from ValueError, without an __init__ -/
structure ExcF (K : PySem.W.Frag) (mg : Str → Option Value) (x : Str) (C : Addr) : Prop where
  «at» : mg x = some (.ref C)
  exc : PySem.W.excIn K C [.type "ValueError", .type "Exception", .type "BaseException", .type "object"] "ValueError.__new__" = true
  kp : PySem.W.keepIn K (.ref C) = true
  ty : PySem.W.typeIn K (.ref C) = some (.type "type")
  ec : ExcC K C
section
variable {X : Cx} {C : Addr} {x : Str} {p pos : PySem.Pos}
theorem pmk_own0 (F : ExcF X.K X.mg x C) (hg : Gl X x := by rfl) (hdb : (x == ("__debug__" : Str)) = false := by decide) : PMk X (.Call (.Name x p) [] [] pos) (fun _ H Q => Q (.ref C) none H) := by
  intro pins s σ H Q I h
  refine PySem.wpAny_Call_Name_kw (ld_glob I hg F.at ?_ hdb)
  refine PySem.W.callWith_K0 I.kIn F.kp ?_
  show wpAny _ _ (call (.ref C) []) _ _ _
  obtain ⟨bm, N, nm, qn, bs, hdct, sn, sub, ab, col, dd, k0, k1, k2, k3, k5, mN, hC, hN, hni, T⟩ := exc_obj I.kIn F.exc
  refine wpAny_call_exc_subT PySem.F.excBase_ValueError T hC hN hni (fun h' e hm => ?_) (Nat.zero_le _)
  exact mk_of I hm (raises_own F.ec.hs F.ty) h (I.hok.gone hm.new)
end
theorem v_gTup2 {K : PySem.W.Frag} {n i j : Nat} {σ : St} {H : Hp} {Q : St → Hp → Prop} {p : Addr} {a b : V} (hn : n = 2) (h : H p = some (.tup [a, b])) (q : Q ((σ.set i (some a)).set j (some b)) H) : gTup K n (gCons (gName i) (gCons (gName j) gNil)) (.ref p) σ H Q :=
  ⟨p, _, rfl, SqT.of h, hn.symm, a, [b], rfl, b, [], rfl, rfl, q⟩
theorem e_md {C : Addr} {m : Str} {sp : Sp} {E : XK} {ta : TE} {t : TA} {σ : St} {H : Hp} {Q : VK} (q : ta σ H fun x H1 => ∃ a dx fs, x = .ref a ∧ H1 a = some (.ins C dx fs) ∧ fs.lookup m = none ∧ t σ H1 fun vs H2 => sp (x :: vs) H2 Q E) : tMeth C m sp [] E ta t σ H Q := by
  have e : tMeth C m sp [] E ta t = fun σ H Q => ta σ H fun x H1 => ∃ a dx fs, x = .ref a ∧ H1 a = some (.ins C dx fs) ∧ fs.lookup m = none ∧ t σ H1 fun vs H2 => sp (x :: vs) H2 Q E := by
    unfold tMeth
    simp only [List.append_nil]
  rw [e]
  exact q
theorem v_md {P : Addr → Prop} {C a dx : Addr} {fs : List (Str × V)} {m : Str} {H : Hp} (h : H a = some (.ins C dx fs)) (hn : fs.lookup m = none) (q : P a) : ∃ a' dx fs, V.ref a = .ref a' ∧ H a' = some (.ins C dx fs) ∧ fs.lookup m = none ∧ P a' := ⟨a, dx, fs, rfl, h, hn, q⟩
/-- a suite that is walked only where q holds -/
theorem pss_given {X : Cx} {b : List Stmt} {t : TS} {q : Prop} (h : q → PSs X b t) : PSs X b (fun D σ H => q ∧ t D σ H) := by
  by_cases e : q
  · exact ⟨fun pins s σ H D I z => (h e).run pins s σ H D I z.2⟩
  · exact ⟨fun pins s σ H D I z => absurd z.1 e⟩
end Cw
set_option Elab.async false
set_option linter.all false
set_option maxRecDepth 100000
set_option maxHeartbeats 4000000
/-! what the laws' own helpers need: copies of dicts, pop, several names at once, walks over dicts -/
namespace Cw
open PySem PySem.Spec L2
section
variable {σ : St} {H : Hp} {Q : VK} {D : Ends} {K : PySem.W.Frag} {X : Cx}
def rDictD : List V → Hp → VK → Prop := fun xs H Q => ∃ (a : Addr) (kvs : List (Key × V)), xs = [.ref a] ∧ Rd H a (.dK kvs) ∧ ∀ p, H p = none → Q (.ref p) (upd H p (.dK kvs))
theorem c_dict : CallR X (.type "dict") rDictD := call_dictD
theorem v_dict {a : Addr} {kvs : List (Key × V)} (h : H a = some (.dK kvs)) (q : ∀ p H', H p = none → Same H H' → H' p = some (.dK kvs) → Q (.ref p) H') : rDictD [.ref a] H Q := ⟨a, kvs, rfl, .inl h, fun p hp => q p _ hp (Same.new hp) upd_same⟩
theorem v_listD {a : Addr} {kvs : List (Key × V)} (h : H a = some (.dK kvs)) (q : ∀ p H', H p = none → Same H H' → H' p = some (.lst (kvs.map fun kv => kV kv.1)) → Q (.ref p) H') : rListD [.ref a] H Q := ⟨a, kvs, rfl, h, fun p hp => q p _ hp (Same.new hp) upd_same⟩
theorem pe_popK {o e : Expr} {to te : TE} {apos cpos : PySem.Pos} (h : X.K = K) (ho : PE X o to) (he : PE X e te) (hbase : attributeBase o "pop" X.env (eval o X.env) = eval o X.env := by rfl)
    (hfew : ((backTo cpos (starEach [e] X.env)).all (fun x => !x.1) && (backToKw cpos (keywordEach [] X.env)).all (fun x => x.1.isSome) && decide ([e].length + ([] : List Keyword).length + (if ([] : List Keyword).isEmpty then 0 else 1) < 30)) = true := by rfl)
    (hline : (apos.endLine == cpos.line) = true := by rfl) (hs : starEach [e] X.env = (false, eval e X.env) :: starEach [] X.env := by rfl) (hplain : (backTo cpos (starEach [] X.env)).any (·.1) = false := by rfl) :
    PE X (.Call (.Attribute o "pop" apos) [e] [] cpos) (tBM K "list" rPopAt to (tCons te tNil)) := h ▸ pe_bm PySem.F.plainAttrs_list PySem.F.slot_list_pop PySem.F.type_list_pop mt_popAt ho (pa_cons he pa_nil hs) hbase hfew hline hs hplain
theorem v_pop {p : Addr} {xs : List V} {i : Int} {y : V} (h : H p = some (.lst xs)) (h0 : 0 ≤ i) (h1 : i < xs.length) (h2 : xs.length ≤ 1000000) (hy : xs[i.toNat]? = some y) (q : ∀ H', Keep p H H' → H' p = some (.lst (xs.eraseIdx i.toNat)) → Q y H') : rPopAt (.ref p) [.int i] H Q := by
  refine ⟨p, xs, i, i.toNat, y, rfl, rfl, h, by omega, by omega, ?_, hy, q _ Keep.put upd_same⟩
  unfold seqIndex?
  simp only [if_neg (show ¬ i < 0 by omega)]
  first
    | rw [if_pos (by omega)]
    | simp [h0, h1]
theorem e_par {i j : Nat} {ta : TA} (q : ta σ H fun vs H1 => ∃ v w, vs = [v, w] ∧ D.nx ((σ.set i (some v)).set j (some w)) H1) : tPar i j ta D σ H := q
theorem v_par {v w : V} {P : V → V → Prop} (q : P v w) : ∃ v' w', [v, w] = [v', w'] ∧ P v' w' := ⟨v, w, rfl, q⟩
theorem e_par3 {i j l : Nat} {ta : TA} (q : ta σ H fun vs H1 => ∃ u v w, vs = [u, v, w] ∧ D.nx (((σ.set i (some u)).set j (some v)).set l (some w)) H1) : tPar3 i j l ta D σ H := q
theorem v_par3 {u v w : V} {P : V → V → V → Prop} (q : P u v w) : ∃ u' v' w', [u, v, w] = [u', v', w'] ∧ P u' v' w' := ⟨u, v, w, rfl, q⟩
theorem e_lock {t : TS} {d : Addr} {u : HO} (h : H d = some u) (m : Mut (some u)) (q : ∀ od, t ⟨fun σ' H' => H' d = some (.frz od u) ∧ D.nx σ' (upd H' d u), fun v H' => H' d = some (.frz od u) ∧ D.rt v (upd H' d u), fun σ' H' => H' d = some (.frz od u) ∧ D.bk σ' (upd H' d u), fun σ' H' => H' d = some (.frz od u) ∧ D.ct σ' (upd H' d u)⟩ σ (upd H d (.frz od u))) : tLock t D σ H := ⟨d, u, h, m, q⟩
theorem e_iK {td : TE} {R : It → Hp → Prop} (q : td σ H fun x H1 => ∃ d o, x = .ref d ∧ ((∃ kvs, H1 d = some (.frz o (.dK kvs)) ∧ R (Itk d o kvs) H1) ∨ ∃ kvs, H1 d = some (.frz o (.dT kvs)) ∧ R (Itkt d o kvs) H1)) : iKeys td σ H R := q
theorem v_iK {d : Addr} {od : Obj} {kvs : List (Key × V)} {R : It → Hp → Prop} (h : H d = some (.frz od (.dK kvs))) (q : R (Itk d od kvs) H) : ∃ d' o, V.ref d = .ref d' ∧ ((∃ kvs, H d' = some (.frz o (.dK kvs)) ∧ R (Itk d' o kvs) H) ∨ ∃ kvs, H d' = some (.frz o (.dT kvs)) ∧ R (Itkt d' o kvs) H) := ⟨d, od, rfl, .inl ⟨kvs, h, q⟩⟩
theorem e_dnotin {ty td : TE} (q : ty σ H fun y H1 => td σ H1 fun x H2 => ∃ a o, x = .ref a ∧ DGet H2 a y o ∧ Q (.bl (!o.isSome)) H2) : tDNotIn ty td σ H Q := q
theorem v_dnotin {a : Addr} {y : V} {o : Option V} {P : Option V → Prop} (h : DGet H a y o) (q : P o) : ∃ a' o, V.ref a = .ref a' ∧ DGet H a' y o ∧ P o := ⟨a, o, rfl, h, q⟩
end
theorem erase_perm {α : Type} : ∀ (l : List α) (i : Nat) (h : i < l.length), (l[i] :: l.eraseIdx i).Perm l
  | x :: r, 0, _ => .refl _
  | x :: r, i + 1, h => by
    have h' : i < r.length := by simpa using h
    have ih := erase_perm r i h'
    show (r[i] :: x :: r.eraseIdx i).Perm (x :: r)
    exact (List.Perm.swap x _ _).trans (ih.cons x)
theorem erase_map {α β : Type} (f : α → β) : ∀ (l : List α) (i : Nat), (l.map f).eraseIdx i = (l.eraseIdx i).map f
  | [], _ => rfl
  | x :: r, 0 => rfl
  | x :: r, i + 1 => by
    show f x :: (r.map f).eraseIdx i = f x :: (r.eraseIdx i).map f
    rw [erase_map f r i]
/-! ### tables by letters -/
def tabKV (ls : List Nat) (f : Nat → List Nat) : List (Key × V) := ls.map fun c => ((Sum.inr (tx [c]) : Key), V.str (tx (f c)))
structure Tab (ls : List Nat) (f : Nat → List Nat) : Prop where
  nd : ls.Nodup
  lt : ∀ c ∈ ls, c ∈ LET
  len : ls.length ≤ 8
  sub : ∀ a ∈ ls, ∀ b ∈ f a, b ∈ ls ∧ b ≠ a ∧ a ∈ f b
  gl : ∀ a ∈ ls, (f a).length ≤ 8
def tabPairs (ls : List Nat) (f : Nat → List Nat) : List (List Nat) := pairsOf (ls.flatMap fun a => (f a).map fun b => ascOf [a, b])
theorem tab_get {H : Hp} {d : Addr} {ls : List Nat} {f : Nat → List Nat} {k : Nat} (h : H d = some (.dK (tabKV ls f))) (hk : k ∈ ls) : DGet H d (.str (tx [k])) (some (.str (tx (f k)))) := dget_let (g := fun c => V.str (tx (f c))) h hk
theorem tab_getF {H : Hp} {d : Addr} {o : Obj} {ls : List Nat} {f : Nat → List Nat} {k : Nat} (h : H d = some (.frz o (.dK (tabKV ls f)))) (hk : k ∈ ls) : DGet H d (.str (tx [k])) (some (.str (tx (f k)))) :=
  .inl ⟨_, Sum.inr (tx [k]), .inr ⟨o, h⟩, rfl, (letV_some (g := fun c => V.str (tx (f c))) hk).symm⟩
theorem tab_keys (ls : List Nat) (f : Nat → List Nat) : ((tabKV ls f).map fun kv => kV kv.1) = ls.map fun c => V.str (tx [c]) := by
  unfold tabKV
  rw [List.map_map]
  rfl
theorem putTab {f : Nat → List Nat} {k : Nat} {z : List Nat} : ∀ {ls : List Nat}, k ∈ ls → putK (tabKV ls f) (Sum.inr (tx [k])) (V.str (tx z)) = tabKV ls (fun c => if c = k then z else f c) := by
  intro ls hk
  unfold putK
  have h1 : valV (tabKV ls f) (Sum.inr (tx [k])) = some (V.str (tx (f k))) := letV_some (g := fun c => V.str (tx (f c))) hk
  rw [if_pos (by rw [valV_any, h1]; rfl)]
  unfold tabKV
  rw [List.map_map]
  refine List.map_congr_left fun c _ => ?_
  show (if (Sum.inr (tx [c]) : Key) = Sum.inr (tx [k]) then _ else _) = _
  by_cases e : c = k
  · subst e
    rw [if_pos rfl]
    show (_, _) = (_, V.str (tx (if c = c then z else f c)))
    rw [if_pos rfl]
  · rw [if_neg (fun z => e (by have := key_tx.mp z; injection this))]
    show (_, _) = (_, V.str (tx (if c = k then z else f c)))
    rw [if_neg e]
theorem tab_put {H : Hp} {d : Addr} {ls : List Nat} {f : Nat → List Nat} {k : Nat} {z : List Nat} (h : H d = some (.dK (tabKV ls f))) (hk : k ∈ ls) (hl : ls.length < 1000000) : DPut H d (.str (tx [k])) (.str (tx z)) (upd H d (.dK (tabKV ls (fun c => if c = k then z else f c)))) := by
  have e := DPut.k (k := Sum.inr (tx [k])) (v := V.str (tx z)) h (szlt (by unfold tabKV; rw [List.length_map]; exact hl))
  rw [putTab hk] at e
  exact e
theorem tab_new {H : Hp} {d : Addr} {ls : List Nat} {f : Nat → List Nat} {k : Nat} (h : H d = some (.dK (tabKV ls f))) (hk : ¬ k ∈ ls) (hf : f k = []) (hl : ls.length < 1000000) : DPut H d (.str (tx [k])) (.str (tx [])) (upd H d (.dK (tabKV (ls ++ [k]) f))) := by
  have e := DPut.cross (l := [k]) (v := V.str (tx [])) h (letV_none (g := fun c => V.str (tx (f c))) hk) (by unfold tabKV; rw [List.length_map]; exact hl)
  have e2 : tabKV (ls ++ [k]) f = tabKV ls f ++ [((Sum.inr (tx [k]) : Key), V.str (tx []))] := by
    unfold tabKV
    rw [List.map_append]
    show _ ++ [((Sum.inr (tx [k]) : Key), V.str (tx (f k)))] = _
    rw [hf]
  rw [e2]
  exact e
theorem asc2_all : ∀ a ∈ LET, ∀ b ∈ LET, a < b → ascOf [a, b] = [a, b] ∧ ascOf [b, a] = [a, b] := by decide +kernel
theorem asc2 {a b : Nat} (ha : a ∈ LET) (hb : b ∈ LET) (h : a < b) : ascOf [a, b] = [a, b] ∧ ascOf [b, a] = [a, b] := asc2_all a ha b hb h
theorem pairsOf_small (f : List (List Nat)) : ∀ l ∈ pairsOf f, ∀ c ∈ l, c < 1000 := by
  intro l hl c hc
  obtain ⟨a, b, rfl, ha, hb, _⟩ := pairsOf_mem.mp hl
  have h1 := LET_lt ha
  have h2 := LET_lt hb
  simp only [List.mem_cons, List.not_mem_nil, or_false] at hc
  rcases hc with rfl | rfl <;> omega
end Cw
set_option Elab.async false
set_option linter.all false
set_option maxRecDepth 100000
set_option maxHeartbeats 4000000
namespace Cw
open PySem PySem.Spec L2
local macro_rules | `(tactic| walk_at "side") => `(tactic| first | omega | assumption | (dsimp only; omega) | (unfold CMul; omega) | exact ⟨by decide, by decide, by decide⟩ | exact wdiv (by first | assumption | decide | omega) (by first | assumption | decide | omega) | (simp only [List.length_cons, List.length_nil]; omega) | rfl)
local macro_rules | `(tactic| walk_at "hl") => `(tactic| first | assumption | exact upd_same | ((refine Cw.Same.at (by assumption) ?_); walk_at "hl") | ((refine Cw.Keep.at (by assumption) ?_ (by assumption)); walk_at "hl"))
local macro_rules | `(tactic| walk_at "st") => `(tactic| first
  | (with_reducible refine s_seq ?_) | (with_reducible refine g_nm ?_) | (with_reducible refine s_next ?_) | (with_reducible refine s_set ?_) | (with_reducible refine s_drop ?_) | (with_reducible refine s_ret ?_) | (with_reducible refine s_if ?_)
  | ((with_reducible refine e_varG ?_); refine ⟨_, (by with_unfolding_all rfl), ?_⟩) | (with_reducible refine e_c ?_) | (with_reducible refine e_op ?_) | (with_reducible refine e_un ?_)
  | (with_reducible refine e_cons ?_) | (with_reducible refine e_nil ?_) | (with_reducible refine e_cb ?_) | (with_reducible refine e_call ?_) | (with_reducible refine e_md ?_)
  | (with_reducible refine t_test ?_) | (with_reducible refine t_B ?_) | (with_reducible refine t_and ?_) | (with_reducible refine t_or ?_) | (with_reducible refine t_not ?_)
  | (with_reducible refine e_andV ?_) | (with_reducible refine e_orV ?_) | (with_reducible refine e_notV ?_) | (with_reducible refine e_if ?_)
  | (with_reducible refine v_I0 ?_) | ((with_reducible refine v_I ?c ?_); try (case c => walk_at "side")) | (with_reducible refine v_bl ?_)
  | ((with_reducible refine v_eq ?c ?_); (case c => with_unfolding_all rfl)) | ((with_reducible refine v_ne ?c ?_); (case c => with_unfolding_all rfl))
  | (with_reducible refine v_inti ?_) | (with_reducible refine v_intb ?_) | ((with_reducible refine v_lenG ?_); refine ⟨_, (by walk_at "hl"), ?_⟩)
  | ((with_reducible refine v_lenS ?c ?_); try (case c => walk_at "side"))
  | (with_reducible refine e_dnew ?_) | (with_reducible refine e_dget ?_) | (with_reducible refine s_dput ?_) | (with_reducible refine e_lst ?_) | (with_reducible refine e_tup ?_)
  | ((with_reducible refine v_lst ?c ?_); (case c => walk_at "side")) | ((with_reducible refine v_tup ?c ?_); (case c => walk_at "side"))
  | ((with_reducible refine v_dgetG ?_); refine ⟨_, (by assumption), ?_⟩)
  | (with_reducible refine e_sl ?_) | (with_reducible refine e_nopart ?_) | (with_reducible refine e_part ?_) | (with_reducible refine e_m1 ?_) | (with_reducible refine v_isS ?_) | (with_reducible refine v_int ?_)
  | (with_reducible refine e_lc ?_) | (with_reducible refine e_iStr ?_) | (with_reducible refine e_iEnumS ?_) | (with_reducible refine v_iEnumS ?_) | (with_reducible refine v_str ?_) | (with_reducible refine e_yes ?_) | (with_reducible refine e_fld ?_) | (with_reducible refine e_sfld ?_)
  | ((with_reducible refine v_addS ?c ?_); try (case c => walk_at "side")) | (with_reducible refine v_inS ?_) | (with_reducible refine v_notInS ?_) | (with_reducible refine v_ltS ?_)
  | ((with_reducible refine v_inLG ?_); refine ⟨_, (by walk_at "hl"), ?_⟩) | (with_reducible refine v_isiS ?_) | (with_reducible refine e_revS ?_) | ((with_reducible refine v_revS ?c ?_); try (case c => walk_at "side"))
  | ((with_reducible refine v_lenSetG ?_); refine ⟨_, (by walk_at "hl"), ?_⟩)
  | (with_reducible refine e_bm ?_) | (with_reducible refine e_bm0 ?_) | ((with_reducible refine v_tyLG ?_); refine ⟨_, (by walk_at "hl"), ?_⟩)
  | (with_reducible refine iteNT ?_) | (with_reducible refine iteNF ?_) | (with_reducible refine e_for ?_)
  | (with_reducible refine e_iL ?_) | (with_reducible refine e_iT ?_) | ((with_reducible refine v_iLG ?_); refine ⟨_, (by walk_at "hl"), ?_⟩) | (with_reducible refine e_iR1 ?_) | ((with_reducible refine v_iR1 ?c1 ?c2 ?_); try (case c1 => walk_at "side"); try (case c2 => walk_at "side"))
  | (with_reducible refine e_iR2 ?_) | ((with_reducible refine v_iR2 ?c1 ?_); try (case c1 => walk_at "side"))
  | (with_reducible refine e_pr0 ?_) | (with_reducible refine e_pr ?_) | (with_reducible refine e_disp ?_) | (with_reducible refine s_asgT ?_) | (with_reducible refine e_tryA ?_) | (with_reducible refine e_callS ?_) | (with_reducible refine e_mdS ?_) | (with_reducible refine e_par ?_) | (with_reducible refine v_par ?_) | (with_reducible refine e_par3 ?_) | (with_reducible refine v_par3 ?_) | (with_reducible refine e_iK ?_) | (with_reducible refine e_dnotin ?_)
  | (with_reducible refine iteT ?_) | (with_reducible refine iteF ?_))
local macro_rules | `(tactic| walk_at "go") => `(tactic| repeat walk_at "st")
def spPick : Sp := fun vs H Q _ => ∃ (g : Pen) (n : Nat) (q : Addr) (xs : List V), vs = [.ref g.p, .ref q] ∧ H q = some (.lst xs) ∧ 0 < xs.length ∧ xs.length < 1000000 ∧ PenAt g H n ∧ n < 1000000 ∧ q ≠ g.p ∧
  ∀ v H', v ∈ xs → PenAt g H' (n + 1) → Keep g.p H H' → Q v H'
def spShuffled : Sp := fun vs H Q _ => ∃ (g : Pen) (n : Nat) (q : Addr) (ls : List Nat), vs = [.ref g.p, .ref q] ∧ H q = some (.lst (ls.map fun c => V.str (tx [c]))) ∧ ls.length ≤ 1000 ∧ (∀ c ∈ ls, c < 1000) ∧ PenAt g H n ∧ n < 950000 ∧
  ∀ (l : Addr) (ys : List Nat) (H' : Hp), H l = none → ys.Perm ls → H' l = some (.lst (ys.map fun c => V.str (tx [c]))) → PenAt g H' (n + ls.length) → Keep g.p H H' → Q (.ref l) H'
section
variable {P : Program} {w : World} {K : PySem.W.Frag} {mg : Str → Option Value} {base : Heap}
abbrev stpick : Stmt := (top 38)
abbrev Npick : List Str := ["_law_pen_here", "_law_items"]
theorem scpick : FnScope Npick ["_law_pen_here", "_law_items"] (defScope stpick) := ⟨rfl, rfl, rfl, by decide +kernel, rfl, by decide +kernel, by decide +kernel⟩

theorem ok_pick (F : FnAt K mg "_law_pick" stpick) (T : Txt K mg) (D_draw : Def P w K mg base CX0 1 "_law_draw" ["_law_pen_here", "_law_number"] spDraw) : Def P w K mg base CX0 2 "_law_pick" ["_law_pen_here", "_law_items"] spPick := by
  refine F.ok scpick (fun _ _ _ _ _ _ us hl => match us, hl with | [_, _], _ => rfl) (fun vs H Q E h => ?_) (fun f cdv A outer s H vs Q E hr h => ?_)
  · obtain ⟨g, n, q, xs, rfl, _⟩ := h
    rfl
  obtain ⟨g, n, q, xs, rfl, hq, h0, h1, hp, hn, hne, k⟩ := h
  have hu := hu_of hr
  have nd := scpick.nd
  refine ⟨_, (pss_one (ps_ret (pe_ix (ix_LK (K := K) rfl) (pv 1) (pe_cd D_draw hr pass0 (pa_cons (pv 0) (pa_cons (pe_callB (c_lenK (K := K) rfl) (by rfl) T.len PySem.boot_len (pa_cons (pv 1) pa_nil)) pa_nil))) (fun _ _ => rfl)))), ?_⟩
  refine s_start [some _, some _] rfl ?_
  walk_at "go"
  refine ⟨g, xs.length, n, rfl, by omega, by omega, hp, hn, fun z H1 z0 z1 p1 k1 => ?_⟩
  walk_at "go"
  have hz : z.toNat < xs.length := by omega
  refine v_ixL (k1 _ _ hq hne) (at_of (j := z.toNat) (by omega) (List.getElem?_eq_getElem hz)) ?_
  exact k _ H1 (List.getElem_mem hz) p1 k1
abbrev stshuffled : Stmt := (top 39)
abbrev Nshuffled : List Str := ["_law_pen_here", "_law_items", "_law_left", "_law_found"]
theorem scshuffled : FnScope Nshuffled ["_law_pen_here", "_law_items"] (defScope stshuffled) := ⟨rfl, rfl, rfl, by decide +kernel, rfl, by decide +kernel, by decide +kernel⟩

theorem ok_shuffled (F : FnAt K mg "_law_shuffled" stshuffled) (T : Txt K mg) (D_draw : Def P w K mg base CX0 1 "_law_draw" ["_law_pen_here", "_law_number"] spDraw) : Def P w K mg base CX0 2 "_law_shuffled" ["_law_pen_here", "_law_items"] spShuffled := by
  refine F.ok scshuffled (fun _ _ _ _ _ _ us hl => match us, hl with | [_, _], _ => rfl) (fun vs H Q E h => ?_) (fun f cdv A outer s H vs Q E hr h => ?_)
  · obtain ⟨g, n, q, xs, rfl, _⟩ := h
    rfl
  obtain ⟨g, n, q, ls, rfl, hq, h1, h2, hp, hn, k⟩ := h
  have hu := hu_of hr
  have nd := scshuffled.nd
  refine ⟨_, (pss_cons (ps_par (i := 2) (j := 3) (by rfl) nd rfl rfl (by decide) rfl rfl (pa_cons (pe_callTy (c_listK (K := K) rfl) (by rfl) T.list (by decide +kernel) (pa_cons (pv 1) pa_nil)) (pa_cons (pe_lst pa_nil) pa_nil)) (by rfl))
      (pss_cutS (ps_while PassesOwn.never (pt_cmpR (op_neDK (K := K) rfl hr.units) (pv 2) (pe_lst pa_nil) (nomark _))
      (pss_one (ps_expr (pe_appK (K := K) rfl (pv 3) (pe_popK (K := K) rfl (pv 2) (pe_cd D_draw hr pass0 (pa_cons (pv 0) (pa_cons (pe_callB (c_lenK (K := K) rfl) (by rfl) T.len PySem.boot_len (pa_cons (pv 2) pa_nil)) pa_nil))))))))
      (pss_one (ps_ret (pv 3))))), ?_⟩
  refine s_start [some _, some _, none, none] rfl ?_
  walk_at "go"
  refine v_list (SqL.of hq) fun a H1 ha s1 e1 => ?_
  walk_at "go"
  intro b H2 hb s2 e2
  walk_at "go"
  have hab : a ≠ b := ne_of_none e1 hb
  refine s_cut (fun σ H' => ∃ ys : List Nat, σ = [some (.ref g.p), some (.ref q), some (.ref a), some (.ref b)] ∧ ys.Perm ls ∧ H' b = some (.lst (ys.map fun c => V.str (tx [c]))) ∧ PenAt g H' (n + ls.length) ∧ Keep g.p H H') ?_ ?_
  · refine s_while (fun m σ H' => ∃ xs ys : List Nat, m = xs.length ∧ σ = [some (.ref g.p), some (.ref q), some (.ref a), some (.ref b)] ∧ (ys ++ xs).Perm ls ∧ H' a = some (.lst (xs.map fun c => V.str (tx [c]))) ∧ H' b = some (.lst (ys.map fun c => V.str (tx [c]))) ∧ PenAt g H' (n + ys.length) ∧ Keep g.p H H') ls.length ⟨ls, [], rfl, rfl, .refl _, s2 _ _ e1, e2, hp.same (s1.trans s2), Keep.of (s1.trans s2)⟩ ?_
    rintro m σ H3 ⟨xs, ys, rfl, rfl, pm, ea, eb, p3, k3⟩
    have hl := pm.length_eq
    rw [List.length_append] at hl
    walk_at "go"
    intro e H4 he s4 e4
    have ea4 := s4 _ _ ea
    have eb4 := s4 _ _ eb
    have ea5 : H4 a = some (.lst ((xs.map fun c => tx [c]).map V.str)) := by
      rw [ea4, List.map_map]
      rfl
    refine v_neNilS ea5 (fun x hx => ?_) e4 ?_
    · obtain ⟨c, hc, rfl⟩ := List.mem_map.mp hx
      refine ok_tx fun d hd => ?_
      rw [List.mem_singleton] at hd
      subst hd
      exact h2 _ (pm.subset (List.mem_append_right _ hc))
    walk_at "go"
    rw [List.isEmpty_map]
    cases xs with
    | nil =>
      walk_at "go"
      refine ⟨ys, rfl, by simpa using pm, eb4, (p3.same s4).mono (by omega), fun c o hc nc => s4 _ _ (k3 _ _ hc nc)⟩
    | cons x0 xr =>
      walk_at "go"
      refine v_turn ?_
      walk_at "go"
      refine ⟨g, _, n + ys.length, rfl, ?_, ?_, p3.same s4, by omega, fun z H5 z0 z1 p5 k5 => ?_⟩
      · rw [List.length_map, List.length_map, List.length_cons]; omega
      · rw [List.length_map, List.length_map]; omega
      rw [List.length_map, List.length_map] at z1
      have nag : a ≠ g.p := (hp.p_ne ha).symm
      have nbg : b ≠ g.p := ((hp.same s1).p_ne hb).symm
      have hz : z.toNat < (x0 :: xr).length := by omega
      walk_at "go"
      refine v_pop (k5 _ _ ea4 nag) z0 (by rw [List.length_map]; omega) (by rw [List.length_map]; omega) (y := V.str (tx [(x0 :: xr)[z.toNat]])) (by rw [List.getElem?_map, List.getElem?_eq_getElem hz]; rfl) fun H6 k6 e6 => ?_
      walk_at "go"
      have eb6 := k6 _ _ (k5 _ _ eb4 nbg) hab.symm
      refine v_app eb6 (by rw [List.length_map]; omega) fun H7 k7 e7 => ?_
      walk_at "go"
      refine ⟨xr.length, by simp, (x0 :: xr).eraseIdx z.toNat, ys ++ [(x0 :: xr)[z.toNat]], ?_, rfl, ?_, ?_, ?_, ?_, ?_⟩
      · rw [List.length_eraseIdx_of_lt hz]
        rfl
      · refine .trans ?_ pm
        rw [List.append_assoc]
        refine .append_left _ ?_
        exact erase_perm _ _ hz
      · rw [k7 _ _ e6 hab]
        rw [erase_map]
      · rw [e7, List.map_append]
        rfl
      · have q6 := p5.keep k6 (hp.p_ne ha) (hp.cl_ne ha)
        have q7 := q6.keep k7 ((hp.same s1).p_ne hb) ((hp.same s1).cl_ne hb)
        rw [List.length_append]
        exact q7
      · intro c o hc nc
        exact k7 _ _ (k6 _ _ (k5 _ _ (s4 _ _ (k3 _ _ hc nc)) nc) (ne_of_none hc ha)) (ne_of_none (s1 _ _ hc) hb)
  rintro σ H3 ⟨ys, rfl, pm, eb, p3, k3⟩
  walk_at "go"
  exact k b ys H3 (L2.Same.free s1 hb) pm eb p3 k3
end
end Cw
set_option Elab.async false
set_option linter.all false
set_option maxRecDepth 100000
set_option maxHeartbeats 4000000
/-! the drawn tables, in plain words -/
namespace Cw
open PySem PySem.Spec L2
def ABC : List (List Nat) := [[97, 98, 99, 100, 101, 102, 103, 104], [98, 100, 102, 104, 106, 108, 110, 112], [115, 116, 117, 118, 119, 120, 121, 122]]
def addRel (rel : Nat → Nat → Bool) (x y : Nat) : Nat → Nat → Bool := fun a b => rel a b || (a == x && b == y) || (a == y && b == x)
/-- which kinds cross: both ways, never with itself, kinds alone -/
structure RelOk (ls : List Nat) (rel : Nat → Nat → Bool) : Prop where
  sym : ∀ a b, rel a b = rel b a
  «in» : ∀ a b, rel a b = true → a ∈ ls ∧ b ∈ ls ∧ a ≠ b
/-- only pairs up to here -/
def Upto (ls : List Nat) (rel : Nat → Nat → Bool) (i j : Nat) : Prop := ∀ i1 j1, i1 < j1 → j1 < ls.length → rel (ls.getD i1 0) (ls.getD j1 0) = true → i1 < i ∨ (i1 = i ∧ j1 < j)
def crossBy (ls : List Nat) (rel : Nat → Nat → Bool) (c : Nat) : List Nat := ls.filter (rel c)
theorem getD_inj {ls : List Nat} (h : ls.Nodup) {i j : Nat} (hi : i < ls.length) (hj : j < ls.length) (e : ls.getD i 0 = ls.getD j 0) : i = j := by
  rw [List.getD_eq_getElem?_getD, List.getD_eq_getElem?_getD, List.getElem?_eq_getElem hi, List.getElem?_eq_getElem hj] at e
  exact (List.getElem_inj h).mp e
theorem mem_getD {ls : List Nat} {c : Nat} (h : c ∈ ls) : ∃ i, i < ls.length ∧ ls.getD i 0 = c := by
  obtain ⟨i, hi, e⟩ := List.mem_iff_getElem.mp h
  refine ⟨i, hi, ?_⟩
  rw [List.getD_eq_getElem?_getD, List.getElem?_eq_getElem hi]
  exact e
theorem filter_snoc {ls : List Nat} {p : Nat → Bool} {j : Nat} (hn : ls.Nodup) (hj : j < ls.length) (hz : ∀ j', j ≤ j' → j' < ls.length → p (ls.getD j' 0) = false) : ls.filter (fun c => p c || c == ls.getD j 0) = ls.filter p ++ [ls.getD j 0] := by
  have e : ls = ls.take j ++ ls.getD j 0 :: ls.drop (j + 1) := by
    rw [List.getD_eq_getElem?_getD, List.getElem?_eq_getElem hj]
    show ls = ls.take j ++ ls[j] :: ls.drop (j + 1)
    rw [← List.drop_eq_getElem_cons hj, List.take_append_drop]
  have hd : ∀ c ∈ ls.drop (j + 1), p c = false ∧ c ≠ ls.getD j 0 := by
    intro c hc
    obtain ⟨k, hk, e⟩ := List.mem_iff_getElem.mp hc
    rw [List.length_drop] at hk
    rw [List.getElem_drop] at e
    have hk2 : j + 1 + k < ls.length := by omega
    have e2 : ls.getD (j + 1 + k) 0 = c := by
      rw [List.getD_eq_getElem?_getD, List.getElem?_eq_getElem hk2]
      exact e
    refine ⟨e2 ▸ hz _ (by omega) hk2, fun z => ?_⟩
    have := getD_inj hn hk2 hj (e2.trans z)
    omega
  have ht : ∀ c ∈ ls.take j, c ≠ ls.getD j 0 := fun c hc z => take_notin hn hj (z ▸ hc)
  have hpy : p (ls.getD j 0) = false := hz j (Nat.le_refl _) hj
  generalize ls.getD j 0 = y at *
  have h1 : ls.filter (fun c => p c || c == y) = (ls.take j).filter p ++ [y] := by
    conv => lhs; rw [e]
    rw [List.filter_append, List.filter_cons_of_pos (by simp)]
    congr 1
    · refine List.filter_congr fun c hc => ?_
      have := ht c hc
      simp [this]
    · congr 1
      rw [List.filter_eq_nil_iff]
      intro c hc
      obtain ⟨a, b⟩ := hd c hc
      simp [a, b]
  have h2 : ls.filter p = (ls.take j).filter p := by
    conv => lhs; rw [e]
    rw [List.filter_append, List.filter_cons_of_neg (by rw [hpy]; decide)]
    have : (ls.drop (j + 1)).filter p = [] := by
      rw [List.filter_eq_nil_iff]
      intro c hc
      rw [(hd c hc).1]
      decide
    rw [this, List.append_nil]
  rw [h1, h2]
section
variable {ls : List Nat} {rel : Nat → Nat → Bool} {i j : Nat}
theorem tabStep (hn : ls.Nodup) (ok : RelOk ls rel) (hij : i < j) (hj : j < ls.length) (up : Upto ls rel i j) :
    ∀ c ∈ ls, (if c = ls.getD j 0 then (if ls.getD j 0 = ls.getD i 0 then crossBy ls rel (ls.getD i 0) ++ [ls.getD j 0] else crossBy ls rel (ls.getD j 0)) ++ [ls.getD i 0] else if c = ls.getD i 0 then crossBy ls rel (ls.getD i 0) ++ [ls.getD j 0] else crossBy ls rel c) = crossBy ls (addRel rel (ls.getD i 0) (ls.getD j 0)) c := by
  intro c hc
  have hi : i < ls.length := by omega
  have ne : ls.getD j 0 ≠ ls.getD i 0 := fun z => by have := getD_inj hn hj hi z; omega
  by_cases e1 : c = ls.getD j 0
  · subst e1
    rw [if_pos rfl, if_neg ne]
    unfold crossBy
    rw [← filter_snoc hn hi]
    · refine List.filter_congr fun b _ => ?_
      unfold addRel
      have e : (ls.getD j 0 == ls.getD i 0) = false := beq_eq_false_iff_ne.mpr ne
      rw [e]
      simp
    · intro j' h1 h2
      by_cases h3 : j' = j
      · subst h3
        cases z : rel (ls.getD j' 0) (ls.getD j' 0) with
        | false => rfl
        | true => exact absurd rfl (ok.in _ _ z).2.2
      · cases z : rel (ls.getD j 0) (ls.getD j' 0) with
        | false => rfl
        | true =>
          rcases Nat.lt_or_gt_of_ne h3 with h4 | h4
          · rw [ok.sym] at z
            have := up j' j h4 hj z
            omega
          · have := up j j' h4 h2 z
            omega
  · rw [if_neg e1]
    by_cases e2 : c = ls.getD i 0
    · subst e2
      rw [if_pos rfl]
      unfold crossBy
      rw [← filter_snoc hn hj]
      · refine List.filter_congr fun b _ => ?_
        unfold addRel
        have e : (ls.getD i 0 == ls.getD j 0) = false := beq_eq_false_iff_ne.mpr e1
        rw [e]
        simp
      · intro j' h1 h2
        cases z : rel (ls.getD i 0) (ls.getD j' 0) with
        | false => rfl
        | true =>
          have := up i j' (by omega) h2 z
          omega
    · rw [if_neg e2]
      unfold crossBy
      refine List.filter_congr fun b _ => ?_
      unfold addRel
      have a1 : (c == ls.getD i 0) = false := beq_eq_false_iff_ne.mpr e2
      have a2 : (c == ls.getD j 0) = false := beq_eq_false_iff_ne.mpr e1
      rw [a1, a2]
      simp
theorem RelOk.add (ok : RelOk ls rel) {x y : Nat} (hx : x ∈ ls) (hy : y ∈ ls) (ne : x ≠ y) : RelOk ls (addRel rel x y) where
  sym a b := by
    unfold addRel
    rw [ok.sym a b, Bool.or_assoc, Bool.or_assoc]
    congr 1
    rw [Bool.or_comm, Bool.and_comm, Bool.and_comm (a == x)]
  «in» a b h := by
    unfold addRel at h
    simp only [Bool.or_eq_true, Bool.and_eq_true, beq_iff_eq] at h
    rcases h with (h | ⟨rfl, rfl⟩) | ⟨rfl, rfl⟩
    · exact ok.in a b h
    · exact ⟨hx, hy, ne⟩
    · exact ⟨hy, hx, ne.symm⟩
theorem Upto.add (hn : ls.Nodup) (hij : i < j) (hj : j < ls.length) (up : Upto ls rel i j) : Upto ls (addRel rel (ls.getD i 0) (ls.getD j 0)) i (j + 1) := by
  intro i1 j1 h1 h2 h3
  unfold addRel at h3
  simp only [Bool.or_eq_true, Bool.and_eq_true, beq_iff_eq] at h3
  rcases h3 with (h | ⟨h4, h5⟩) | ⟨h4, h5⟩
  · have := up i1 j1 h1 h2 h
    omega
  · have a := getD_inj hn (by omega) (by omega) h4
    have b := getD_inj hn h2 hj h5
    omega
  · have a := getD_inj hn (by omega) hj h4
    have b := getD_inj hn h2 (by omega) h5
    omega
theorem Upto.more (up : Upto ls rel i j) : Upto ls rel i (j + 1) := fun i1 j1 h1 h2 h3 => by
  have := up i1 j1 h1 h2 h3
  omega
theorem Upto.turn {k : Nat} (up : Upto ls rel i j) (h : ls.length ≤ j) : Upto ls rel (i + 1) k := fun i1 j1 h1 h2 h3 => by
  have := up i1 j1 h1 h2 h3
  omega
end
theorem walk_rI {lo : Int} {n : Nat} (f : Nat → Int) (h : ∀ k : Nat, lo + (k : Int) = f k) : Walk (Itr lo n) n (fun _ => True) (YFn fun k => .int (f k)) :=
  walk_range.mono (fun _ h => h) fun i H x H' _ _ y => ⟨y.1, by show x = V.int (f i); rw [← h i]; exact y.2⟩
theorem at_getD {ls : List Nat} {i : Nat} (h : i < ls.length) : atI ls ((i : Nat) : Int) = some (ls.getD i 0) := by
  refine atI_nat ?_
  rw [List.getD_eq_getElem?_getD, List.getElem?_eq_getElem h]
  rfl
theorem tabKV_congr {ls : List Nat} {f g : Nat → List Nat} (h : ∀ c ∈ ls, f c = g c) : tabKV ls f = tabKV ls g := by
  unfold tabKV
  refine List.map_congr_left fun c hc => ?_
  rw [h c hc]
theorem ascOf_congr {a b : List Nat} (h : ∀ c, c ∈ a ↔ c ∈ b) : ascOf a = ascOf b := by
  unfold ascOf
  exact List.filter_congr fun c _ => decide_eq_decide.mpr (h c)
/-- the pairs that the laws tell a plan by -/
theorem tabPairs_eq {ls : List Nat} {f : Nat → List Nat} {ps : List (List Nat)} (T : Tab ls f) (h1 : ∀ p ∈ ps, ∃ a b, p = [a, b] ∧ a ∈ ls ∧ b ∈ f a) (h2 : ∀ a ∈ ls, ∀ b ∈ f a, a < b → [a, b] ∈ ps) : pairsOf (ps.map ascOf) = tabPairs ls f := by
  unfold tabPairs
  refine pairsOf_congr fun a b _ _ => ?_
  rw [List.mem_map, List.mem_flatMap]
  constructor
  · rintro ⟨p, hp, e⟩
    obtain ⟨x, y, rfl, hx, hy⟩ := h1 p hp
    exact ⟨x, hx, List.mem_map.mpr ⟨y, hy, e⟩⟩
  · rintro ⟨x, hx, hm⟩
    obtain ⟨y, hy, e⟩ := List.mem_map.mp hm
    obtain ⟨y1, y2, y3⟩ := T.sub x hx y hy
    by_cases h : x < y
    · exact ⟨_, h2 x hx y hy h, e⟩
    · have hlt : y < x := by omega
      refine ⟨_, h2 y y1 x y3 hlt, ?_⟩
      have := asc2 (T.lt y y1) (T.lt x hx) hlt
      rw [this.1, ← this.2]
      exact e
/-- a drawn table: a beginning of one of the three texts -/
structure Flr (num : Nat) (ls : List Nat) (rel : Nat → Nat → Bool) : Prop where
  cut : ∃ t ∈ ABC, ∃ m, 1 ≤ m ∧ m ≤ num ∧ ls = t.take m
  ok : RelOk ls rel
theorem abc_ok : ∀ t ∈ ABC, t.Nodup ∧ (∀ c ∈ t, c ∈ LET) ∧ t.length = 8 ∧ t.Pairwise (· < ·) := by decide +kernel
section
variable {num : Nat} {ls : List Nat} {rel : Nat → Nat → Bool}
theorem cut_nd (h : ∃ t ∈ ABC, ∃ m, 1 ≤ m ∧ m ≤ num ∧ ls = t.take m) : ls.Nodup := by
  obtain ⟨t, ht, m, h1, h2, rfl⟩ := h
  exact (List.take_sublist m t).nodup (abc_ok t ht).1
theorem cut_lt (h : ∃ t ∈ ABC, ∃ m, 1 ≤ m ∧ m ≤ num ∧ ls = t.take m) : ∀ c ∈ ls, c ∈ LET := by
  obtain ⟨t, ht, m, h1, h2, rfl⟩ := h
  exact fun c hc => (abc_ok t ht).2.1 c ((List.take_sublist m t).subset hc)
theorem cut_len (h : ∃ t ∈ ABC, ∃ m, 1 ≤ m ∧ m ≤ num ∧ ls = t.take m) : ls.length ≤ 8 ∧ ls.length ≤ num ∧ 1 ≤ ls.length := by
  obtain ⟨t, ht, m, h1, h2, rfl⟩ := h
  have := (abc_ok t ht).2.2.1
  rw [List.length_take]
  omega
theorem cut_lt' (h : ∃ t ∈ ABC, ∃ m, 1 ≤ m ∧ m ≤ num ∧ ls = t.take m) : ls.Pairwise (· < ·) := by
  obtain ⟨t, ht, m, h1, h2, rfl⟩ := h
  exact List.Pairwise.sublist (List.take_sublist m t) (abc_ok t ht).2.2.2
theorem Flr.tab (h : Flr num ls rel) : Tab ls (crossBy ls rel) where
  nd := cut_nd h.cut
  lt := cut_lt h.cut
  len := (cut_len h.cut).1
  sub a ha b hb := by
    obtain ⟨h1, h2⟩ := List.mem_filter.mp hb
    refine ⟨h1, (h.ok.in a b h2).2.2.symm, List.mem_filter.mpr ⟨ha, ?_⟩⟩
    rw [h.ok.sym]
    exact h2
  gl a ha := Nat.le_trans (List.length_filter_le _ _) (cut_len h.cut).1
end
end Cw
set_option Elab.async false
set_option linter.all false
set_option maxRecDepth 100000
set_option maxHeartbeats 4000000
namespace Cw
open PySem PySem.Spec L2
local macro_rules | `(tactic| walk_at "side") => `(tactic| first | omega | assumption | (dsimp only; omega) | (unfold CMul; omega) | exact ⟨by decide, by decide, by decide⟩ | exact wdiv (by first | assumption | decide | omega) (by first | assumption | decide | omega) | (simp only [List.length_cons, List.length_nil]; omega) | rfl)
local macro_rules | `(tactic| walk_at "hl") => `(tactic| first | assumption | exact upd_same | ((refine Cw.Same.at (by assumption) ?_); walk_at "hl") | ((refine Cw.Keep.at (by assumption) ?_ (by assumption)); walk_at "hl"))
local macro_rules | `(tactic| walk_at "st") => `(tactic| first
  | (with_reducible refine s_seq ?_) | (with_reducible refine g_nm ?_) | (with_reducible refine s_next ?_) | (with_reducible refine s_set ?_) | (with_reducible refine s_drop ?_) | (with_reducible refine s_ret ?_) | (with_reducible refine s_if ?_)
  | ((with_reducible refine e_varG ?_); refine ⟨_, (by with_unfolding_all rfl), ?_⟩) | (with_reducible refine e_c ?_) | (with_reducible refine e_op ?_) | (with_reducible refine e_un ?_)
  | (with_reducible refine e_cons ?_) | (with_reducible refine e_nil ?_) | (with_reducible refine e_cb ?_) | (with_reducible refine e_call ?_) | (with_reducible refine e_md ?_)
  | (with_reducible refine t_test ?_) | (with_reducible refine t_B ?_) | (with_reducible refine t_and ?_) | (with_reducible refine t_or ?_) | (with_reducible refine t_not ?_)
  | (with_reducible refine e_andV ?_) | (with_reducible refine e_orV ?_) | (with_reducible refine e_notV ?_) | (with_reducible refine e_if ?_)
  | (with_reducible refine v_I0 ?_) | ((with_reducible refine v_I ?c ?_); try (case c => walk_at "side")) | (with_reducible refine v_bl ?_)
  | ((with_reducible refine v_eq ?c ?_); (case c => with_unfolding_all rfl)) | ((with_reducible refine v_ne ?c ?_); (case c => with_unfolding_all rfl))
  | (with_reducible refine v_inti ?_) | (with_reducible refine v_intb ?_) | ((with_reducible refine v_lenG ?_); refine ⟨_, (by walk_at "hl"), ?_⟩)
  | ((with_reducible refine v_lenS ?c ?_); try (case c => walk_at "side"))
  | (with_reducible refine e_dnew ?_) | (with_reducible refine e_dget ?_) | (with_reducible refine s_dput ?_) | (with_reducible refine e_lst ?_) | (with_reducible refine e_tup ?_)
  | ((with_reducible refine v_lst ?c ?_); (case c => walk_at "side")) | ((with_reducible refine v_tup ?c ?_); (case c => walk_at "side"))
  | ((with_reducible refine v_dgetG ?_); refine ⟨_, (by assumption), ?_⟩)
  | (with_reducible refine e_sl ?_) | (with_reducible refine e_nopart ?_) | (with_reducible refine e_part ?_) | (with_reducible refine e_m1 ?_) | (with_reducible refine v_isS ?_) | (with_reducible refine v_int ?_)
  | (with_reducible refine e_lc ?_) | (with_reducible refine e_iStr ?_) | (with_reducible refine e_iEnumS ?_) | (with_reducible refine v_iEnumS ?_) | (with_reducible refine v_str ?_) | (with_reducible refine e_yes ?_) | (with_reducible refine e_fld ?_) | (with_reducible refine e_sfld ?_)
  | ((with_reducible refine v_addS ?c ?_); try (case c => walk_at "side")) | (with_reducible refine v_inS ?_) | (with_reducible refine v_notInS ?_) | (with_reducible refine v_ltS ?_)
  | ((with_reducible refine v_inLG ?_); refine ⟨_, (by walk_at "hl"), ?_⟩) | (with_reducible refine v_isiS ?_) | (with_reducible refine e_revS ?_) | ((with_reducible refine v_revS ?c ?_); try (case c => walk_at "side"))
  | ((with_reducible refine v_lenSetG ?_); refine ⟨_, (by walk_at "hl"), ?_⟩)
  | (with_reducible refine e_bm ?_) | (with_reducible refine e_bm0 ?_) | ((with_reducible refine v_tyLG ?_); refine ⟨_, (by walk_at "hl"), ?_⟩)
  | (with_reducible refine iteNT ?_) | (with_reducible refine iteNF ?_) | (with_reducible refine e_for ?_)
  | (with_reducible refine e_iL ?_) | (with_reducible refine e_iT ?_) | ((with_reducible refine v_iLG ?_); refine ⟨_, (by walk_at "hl"), ?_⟩) | (with_reducible refine e_iR1 ?_) | ((with_reducible refine v_iR1 ?c1 ?c2 ?_); try (case c1 => walk_at "side"); try (case c2 => walk_at "side"))
  | (with_reducible refine e_iR2 ?_) | ((with_reducible refine v_iR2 ?c1 ?_); try (case c1 => walk_at "side"))
  | (with_reducible refine e_pr0 ?_) | (with_reducible refine e_pr ?_) | (with_reducible refine e_disp ?_) | (with_reducible refine s_asgT ?_) | (with_reducible refine e_tryA ?_) | (with_reducible refine e_callS ?_) | (with_reducible refine e_mdS ?_) | (with_reducible refine e_par ?_) | (with_reducible refine v_par ?_) | (with_reducible refine e_par3 ?_) | (with_reducible refine v_par3 ?_) | (with_reducible refine e_iK ?_) | (with_reducible refine e_dnotin ?_)
  | (with_reducible refine iteT ?_) | (with_reducible refine iteF ?_))
local macro_rules | `(tactic| walk_at "go") => `(tactic| repeat walk_at "st")
def spFloor : Sp := fun vs H Q _ => ∃ (g : Pen) (n num : Nat), vs = [.ref g.p, .int num] ∧ 1 ≤ num ∧ num ≤ 8 ∧ PenAt g H n ∧ n < 900000 ∧
  ∀ (d : Addr) (ls : List Nat) (rel : Nat → Nat → Bool) (H' : Hp), H d = none → Flr num ls rel → H' d = some (.dK (tabKV ls (crossBy ls rel))) → PenAt g H' (n + 300) → Keep g.p H H' → Q (.ref d) H'
structure TxtH (K : PySem.W.Frag) (mg : Str → Option Value) : Prop extends Txt K mg where
  range : mg "range" = none
section
variable {P : Program} {w : World} {K : PySem.W.Frag} {mg : Str → Option Value} {base : Heap}
abbrev stfloor : Stmt := (top 40)
abbrev Nfloor : List Str := ["_law_pen_here", "_law_number", "_law_letters", "_law_sort", "_law_table", "_law_item", "_law_at", "_law_far", "_law_is_side", "_law_is_drawn", "_law_is_often", "_law_peer"]
theorem scfloor : FnScope Nfloor ["_law_pen_here", "_law_number"] (defScope stfloor) := ⟨rfl, rfl, rfl, by decide +kernel, rfl, by decide +kernel, by decide +kernel⟩

theorem ok_floor (F : FnAt K mg "_law_floor" stfloor) (T : TxtH K mg) (D_draw : Def P w K mg base CX0 1 "_law_draw" ["_law_pen_here", "_law_number"] spDraw) (D_pick : Def P w K mg base CX0 2 "_law_pick" ["_law_pen_here", "_law_items"] spPick) : Def P w K mg base CX0 3 "_law_floor" ["_law_pen_here", "_law_number"] spFloor := by
  refine F.ok scfloor (fun _ _ _ _ _ _ us hl => match us, hl with | [_, _], _ => rfl) (fun vs H Q E h => ?_) (fun f cdv A outer s H vs Q E hr h => ?_)
  · obtain ⟨g, n, num, rfl, _⟩ := h
    rfl
  obtain ⟨g, n, num, rfl, n1, n8, hp, hn, k⟩ := h
  have hu := hu_of hr
  have nd := scfloor.nd
  replace D_draw := D_draw.mono (show 1 ≤ 2 by decide)
  refine ⟨_, (pss_cons (ps_set (i := 2) nd rfl (Or.inl rfl) (pe_slice sl_S (pe_cd D_pick hr pass0 (pa_cons (pv 0) (pa_cons (pe_lst (pa_cons (pe_tx [97, 98, 99, 100, 101, 102, 103, 104] (by decide +kernel)) (pa_cons (pe_tx [98, 100, 102, 104, 106, 108, 110, 112] (by decide +kernel)) (pa_cons (pe_tx [115, 116, 117, 118, 119, 120, 121, 122] (by decide +kernel)) pa_nil)))) pa_nil))) po_none (po_some (pe_op op_add pe_int (pe_cd D_draw hr pass0 (pa_cons (pv 0) (pa_cons (pv 1) pa_nil)))))))
      (pss_cons (ps_par (i := 3) (j := 4) (by rfl) nd rfl rfl (by decide) rfl rfl (pa_cons (pe_cd D_draw hr pass0 (pa_cons (pv 0) (pa_cons pe_int pa_nil))) (pa_cons pe_dnewK pa_nil)) (by rfl))
      (pss_cons (ps_for PassesOwn.never rfl (pi_str (pv 2)) (pg_name (i := 5) nd rfl (Or.inl rfl))
      (pss_one (ps_dput hu (pv 4) (pv 5) (pe_tx [] (by decide +kernel)) rfl)))
      (pss_cons (ps_for PassesOwn.never rfl (pi_range1 (by rfl) T.range (pa_cons (pe_callB c_lenS (by rfl) T.len PySem.boot_len (pa_cons (pv 2) pa_nil)) pa_nil)) (pg_name (i := 6) nd rfl (Or.inl rfl))
      (pss_one (ps_for PassesOwn.never rfl (pi_range2 (by rfl) T.range (pa_cons (pe_op op_add (pv 6) pe_int) (pa_cons (pe_callB c_lenS (by rfl) T.len PySem.boot_len (pa_cons (pv 2) pa_nil)) pa_nil))) (pg_name (i := 7) nd rfl (Or.inl rfl))
        (pss_cons (ps_set (i := 8) nd rfl (Or.inl rfl) (pe_cut (pe_or (pe_cmpR op_eq (pe_op op_sub (pv 7) (pv 6)) pe_int (nomark _)) (pe_one (pe_cmpR op_eq (pe_op op_sub (pv 7) (pv 6)) (pe_op op_sub (pe_callB c_lenS (by rfl) T.len PySem.boot_len (pa_cons (pv 2) pa_nil)) pe_int) (nomark _))))))
          (pss_cons (ps_set (i := 9) nd rfl (Or.inl rfl) (pe_cmpR op_eq (pe_cd D_draw hr pass0 (pa_cons (pv 0) (pa_cons pe_int pa_nil))) pe_int (nomark _)))
          (pss_cons (ps_set (i := 10) nd rfl (Or.inl rfl) (pe_cut (pe_or (pv 9) (pe_one (pe_cmpR op_eq (pe_cd D_draw hr pass0 (pa_cons (pv 0) (pa_cons pe_int pa_nil))) pe_int (nomark _))))))
          (pss_one (ps_if (pt_val (pe_ix (ix_LK (K := K) rfl) (pe_lst (pa_cons pe_bl (pa_cons pe_bl (pa_cons (pv 8) (pa_cons (pv 10) (pa_cons (pv 9) (pa_cons (pv 9) pa_nil))))))) (pv 3) (fun _ _ => rfl)))
          (pss_cons (ps_par (i := 5) (j := 11) (by rfl) nd rfl rfl (by decide) rfl rfl (pa_cons (pe_ix ix_str (pv 2) (pv 6) (fun _ _ => rfl)) (pa_cons (pe_ix ix_str (pv 2) (pv 7) (fun _ _ => rfl)) pa_nil)) (by rfl))
            (pss_cons (ps_dput hu (pv 4) (pv 5) (pe_op op_addS (pe_dget hu (pv 4) (pv 5) (fun _ _ => rfl)) (pv 11)) rfl)
            (pss_one (ps_dput hu (pv 4) (pv 11) (pe_op op_addS (pe_dget hu (pv 4) (pv 11) (fun _ _ => rfl)) (pv 5)) rfl))))
          pss_nil))))))))
      (pss_one (ps_ret (pv 4))))))), ?_⟩
  refine s_start [some _, some _, none, none, none, none, none, none, none, none, none, none] rfl ?_
  walk_at "go"
  intro q H1 hq s1 e1
  walk_at "go"
  refine ⟨g, n, q, _, rfl, e1, by decide, by decide, hp.same s1, by omega, (hp.p_ne hq).symm, fun v H2 hv p2 k2 => ?_⟩
  obtain ⟨t, ht, rfl⟩ : ∃ t ∈ ABC, v = V.str (tx t) := by
    simp only [List.mem_cons, List.not_mem_nil, or_false] at hv
    rcases hv with rfl | rfl | rfl
    · exact ⟨_, by decide, rfl⟩
    · exact ⟨_, by decide, rfl⟩
    · exact ⟨_, by decide, rfl⟩
  have tl := (abc_ok t ht).2.2.1
  walk_at "go"
  refine ⟨g, num, n + 1, rfl, by omega, by omega, p2, by omega, fun z H3 z0 z1 p3 k3 => ?_⟩
  walk_at "go"
  refine v_slTo (by omega) (by omega) ?_
  have hcut : ∃ t' ∈ ABC, ∃ m, 1 ≤ m ∧ m ≤ num ∧ t.take (1 + z).toNat = t'.take m := ⟨t, ht, (1 + z).toNat, by omega, by omega, rfl⟩
  generalize t.take (1 + z).toNat = ls at hcut ⊢
  have lnd := cut_nd hcut
  have lle := cut_len hcut
  have llt := cut_lt hcut
  walk_at "go"
  refine ⟨g, 6, n + 2, rfl, by omega, by omega, p3, by omega, fun so H4 so0 so1 p4 k4 => ?_⟩
  walk_at "go"
  intro d H5 hd s5 e5
  have kA : Keep g.p H H5 := fun b o hb nb => s5 _ _ (k4 _ _ (k3 _ _ (k2 _ _ (s1 _ _ hb) nb) nb) nb)
  have hd0 : H d = none := by
    cases z : H d with
    | none => rfl
    | some o =>
      by_cases e : d = g.p
      · exact absurd e (p4.p_ne hd).symm
      · have := k4 _ _ (k3 _ _ (k2 _ _ (s1 _ _ z) e) e) e
        rw [hd] at this
        cases this
  have ndp := (p4.p_ne hd)
  have ndc := (p4.cl_ne hd)
  have p5 := p4.same s5
  walk_at "go"
  refine for_it (walk_tx ls) (fun i σ H' => ∃ x, σ = [some (.ref g.p), some (.int num), some (.str (tx ls)), some (.int so), some (.ref d), x, none, none, none, none, none, none] ∧ PenAt g H' (n + 3) ∧ Keep g.p H H' ∧ H' d = some (.dK (tabKV (ls.take i) (crossBy ls fun _ _ => false)))) ⟨_, rfl, p5, kA, e5⟩ (fun _ _ _ _ _ => trivial) ?_ ?_
  · rintro i v σ H6 H7 hi ⟨x, rfl, p6, k6, e6⟩ ⟨rfl, rfl⟩
    walk_at "go"
    refine v_put (tab_new e6 (take_notin lnd hi) (by unfold crossBy; simp) (by rw [List.length_take]; omega)) fun H8 k8 e8 => ?_
    refine ⟨_, rfl, p6.keep k8 ndp ndc, fun b o hb nb => k8 _ _ (k6 _ _ hb nb) (ne_of_none hb hd0), ?_⟩
    rw [take_getD hi]
    exact e8
  rintro σ H6 ⟨x, rfl, p6, k6, e6⟩
  rw [List.take_of_length_le (Nat.le_refl _)] at e6
  have relA : RelOk ls fun _ _ => false := ⟨fun _ _ => rfl, fun _ _ h => by cases h⟩
  walk_at "go"
  refine for_it (walk_rI (fun i => ((i : Nat) : Int)) (fun k => Int.zero_add _)) (fun i σ H' => ∃ x1 x2 x3 x4 x5 x6 x7 rel, σ = [some (.ref g.p), some (.int num), some (.str (tx ls)), some (.int so), some (.ref d), x1, x2, x3, x4, x5, x6, x7] ∧ PenAt g H' (n + 3 + 20 * i) ∧ Keep g.p H H' ∧ RelOk ls rel ∧ Upto ls rel i 0 ∧ H' d = some (.dK (tabKV ls (crossBy ls rel)))) ⟨_, _, _, _, _, _, _, _, rfl, p6, k6, relA, fun _ _ _ _ h => (by cases h), e6⟩ (fun _ _ _ _ _ => trivial) ?_ ?_
  · rintro i v σ H7 H8 hi ⟨x1, x2, x3, x4, x5, x6, x7, rel, rfl, p7, k7, r7, u7, e7⟩ ⟨rfl, rfl⟩
    have hi' : i < ls.length := by omega
    walk_at "go"
    refine for_it (walk_rI (fun j => ((i + 1 + j : Nat) : Int)) (fun k => by omega)) (fun j σ H' => ∃ x1 x3 x4 x5 x6 x7 rel, σ = [some (.ref g.p), some (.int num), some (.str (tx ls)), some (.int so), some (.ref d), x1, some (.int (i : Nat)), x3, x4, x5, x6, x7] ∧ PenAt g H' (n + 3 + 20 * i + 2 * j) ∧ Keep g.p H H' ∧ RelOk ls rel ∧ Upto ls rel i (i + 1 + j) ∧ H' d = some (.dK (tabKV ls (crossBy ls rel)))) ⟨_, _, _, _, _, _, _, rfl, p7, k7, r7, ?_, e7⟩ (fun _ _ _ _ _ => trivial) ?_ ?_
    · intro a b h1 h2 h3
      have := u7 a b h1 h2 h3
      omega
    · rintro j v σ H9 H10 hj ⟨y1, y3, y4, y5, y6, y7, rel, rfl, p9, k9, r9, u9, e9⟩ ⟨rfl, rfl⟩
      have hj' : i + 1 + j < ls.length := by omega
      walk_at "go"
      refine e_cut (fun v H' => (∃ b, v = .bl b) ∧ H' = H10) ?_ ?_
      · walk_at "go"
        refine if_bool (fun _ => ⟨⟨_, rfl⟩, rfl⟩) (fun _ => ?_)
        walk_at "go"
        exact ⟨⟨_, rfl⟩, rfl⟩
      rintro v H11 ⟨⟨b1, rfl⟩, rfl⟩
      walk_at "go"
      refine ⟨g, 2, _, rfl, by omega, by omega, p9, by omega, fun z1 H12 _ _ p12 k12 => ?_⟩
      walk_at "go"
      refine e_cut (fun v H' => (∃ b, v = .bl b) ∧ PenAt g H' (n + 3 + 20 * i + 2 * j + 2) ∧ Keep g.p H12 H') ?_ ?_
      · walk_at "go"
        refine if_bool (fun _ => ⟨⟨_, rfl⟩, p12.mono (by omega), Keep.refl _ _⟩) (fun _ => ?_)
        walk_at "go"
        refine ⟨g, 2, _, rfl, by omega, by omega, p12, by omega, fun z2 H13 _ _ p13 k13 => ?_⟩
        walk_at "go"
        exact ⟨⟨_, rfl⟩, p13, k13⟩
      rintro v H13 ⟨⟨b2, rfl⟩, p13, k13⟩
      have e13 := k13 _ _ (k12 _ _ e9 ndp.symm) ndp.symm
      have k13' : Keep g.p H H13 := fun b o hb nb => k13 _ _ (k12 _ _ (k9 _ _ hb nb) nb) nb
      walk_at "go"
      intro q2 H14 hq2 s14 e14
      walk_at "go"
      obtain ⟨bb, hbb⟩ : ∃ bb, [V.bl false, V.bl true, V.bl b1, V.bl b2, V.bl (decide (V.int z1 = V.int 0)), V.bl (decide (V.int z1 = V.int 0))][so.toNat]? = some (V.bl bb) := by
        have : so.toNat = 0 ∨ so.toNat = 1 ∨ so.toNat = 2 ∨ so.toNat = 3 ∨ so.toNat = 4 ∨ so.toNat = 5 := by omega
        rcases this with e | e | e | e | e | e <;> rw [e] <;> exact ⟨_, rfl⟩
      refine v_ixL e14 (at_of (j := so.toNat) (by omega) hbb) ?_
      walk_at "go"
      have e15 := s14 _ _ e13
      have p15 := p13.same s14
      have k15 : Keep g.p H H14 := fun b o hb nb => s14 _ _ (k13' _ _ hb nb)
      have hx : ls.getD i 0 ∈ ls := getD_mem hi'
      have hy : ls.getD (i + 1 + j) 0 ∈ ls := getD_mem hj'
      have hxy : ls.getD (i + 1 + j) 0 ≠ ls.getD i 0 := fun z => by have := getD_inj lnd hj' hi' z; omega
      cases bb with
      | false =>
        walk_at "go"
        exact ⟨_, _, _, _, _, _, rel, rfl, p15.mono (by omega), k15, r9, u9.more, e15⟩
      | true =>
        walk_at "go"
        refine v_ixS (by omega) (at_getD hi') ?_
        walk_at "go"
        refine v_ixS (by omega) (at_getD hj') ?_
        walk_at "go"
        refine v_dget (tab_get e15 hx) ?_
        have l1 : (crossBy ls rel (ls.getD i 0)).length ≤ ls.length := List.length_filter_le _ _
        have l2 : (crossBy ls rel (ls.getD (i + 1 + j) 0)).length ≤ ls.length := List.length_filter_le _ _
        have l3 : (crossBy ls rel (ls.getD i 0)).length + [ls.getD (i + 1 + j) 0].length ≤ 1000000 := by rw [List.length_singleton]; omega
        have l4 : (crossBy ls rel (ls.getD (i + 1 + j) 0)).length + [ls.getD i 0].length ≤ 1000000 := by rw [List.length_singleton]; omega
        walk_at "go"
        refine v_put (tab_put e15 hx (by omega)) fun H16 k16 e16 => ?_
        walk_at "go"
        refine v_dget (tab_get e16 hy) ?_
        rw [if_neg hxy]
        walk_at "go"
        refine v_put (tab_put e16 hy (by omega)) fun H17 k17 e17 => ?_
        refine ⟨_, _, _, _, _, _, addRel rel (ls.getD i 0) (ls.getD (i + 1 + j) 0), rfl, ((p15.keep k16 ndp ndc).keep k17 ndp ndc).mono (by omega), fun b o hb nb => k17 _ _ (k16 _ _ (k15 _ _ hb nb) (ne_of_none hb hd0)) (ne_of_none hb hd0), r9.add hx hy hxy.symm, u9.add lnd (by omega) hj', ?_⟩
        rw [e17]
        congr 2
        refine tabKV_congr fun c hc => ?_
        rw [← tabStep lnd r9 (show i < i + 1 + j by omega) hj' u9 c hc, if_neg hxy]
    · rintro σ H9 ⟨y1, y3, y4, y5, y6, y7, rel, rfl, p9, k9, r9, u9, e9⟩
      refine ⟨_, _, _, _, _, _, _, rel, rfl, p9.mono (by omega), k9, r9, u9.turn (by omega), e9⟩
  rintro σ H7 ⟨x1, x2, x3, x4, x5, x6, x7, rel, rfl, p7, k7, r7, u7, e7⟩
  walk_at "go"
  refine k d ls rel H7 hd0 ⟨hcut, r7⟩ e7 (p7.mono (by omega)) k7
end
end Cw
set_option Elab.async false
set_option linter.all false
set_option maxRecDepth 100000
set_option maxHeartbeats 4000000
/-! calls within a try; calls that raise nothing after all -/
namespace Cw
open PySem PySem.Spec L2
section
variable {P : Program} {w : World} {K : PySem.W.Frag} {mg : Str → Option Value} {base : Heap} {k : Nat} {f : Addr} {fd : FuncData} {ps : List Str} {sp : Sp}
/-- a promise whose wishes for errors are none -/
def calmOf (sp : Sp) : Sp := fun vs H Q _ => sp vs H Q fun _ _ _ => False
theorem calm_fn (F : FnOk P w K mg base (L2.CX P w) k f fd ps sp) : FnOk P w K mg base CX0 k f fd ps (calmOf sp) := by
  refine ⟨fun vs H Q E h => F.len _ _ _ _ h, fun A outer s H args us vs Q E hr e0 hb hv h => ?_⟩
  refine codeAny_mono (F.run A outer s H args us vs Q (fun _ _ _ => False) hr e0 hb hv h) fun r s' q => ?_
  cases r with
  | ok fl => cases fl <;> exact q
  | error e =>
    obtain ⟨a, B, H', cls, d, _, _, _, _, _, _, _, z⟩ := q
    exact z.elim
theorem Def.calm {x : Str} (D : Def P w K mg base (L2.CX P w) k x ps sp) : Def P w K mg base CX0 k x ps (calmOf sp) := by
  obtain ⟨f, fd, a, b, c, d⟩ := D.ex
  exact ⟨f, fd, a, b, c, calm_fn d⟩
theorem MDef.calm {C : Addr} {m : Str} (D : MDef P w K mg base (L2.CX P w) k C m ps sp) : MDef P w K mg base CX0 k C m ps (calmOf sp) := by
  obtain ⟨f, fd, a, b, c, d, e⟩ := D.ex
  exact ⟨f, fd, a, b, c, d, calm_fn e⟩
end
section
variable {X : Cx} {CX : CXT} {k : Nat} {C : Addr} {x m : Str} {ps : List Str} {sp : Sp} {E : St → XK} {p pos apos : PySem.Pos} {o e : Expr} {es : List Expr} {ta : TE} {t : TA}
theorem pe_cdS (D : Def X.prog X.w X.K X.mg X.base CX k x ps sp) (hr : Room k X.A) (hx : ∀ σ, PassesAt CX X σ (E σ)) (ha : PA X (e :: es) t) (hg : Gl X x := by rfl) (hdb : (x == ("__debug__" : Str)) = false := by decide)
    (he : starEach (e :: es) X.env = (false, eval e X.env) :: starEach es X.env := by rfl) (hpl : (backTo pos (starEach es X.env)).any (·.1) = false := by rfl) : PE X (.Call (.Name x p) (e :: es) [] pos) (tCallS sp E t) := by
  obtain ⟨f, fd, a, b, c, d⟩ := D.ex
  exact pe_callS d hr hg a b c.b hx ha hdb he hpl
def tMethS (C : Addr) (m : Str) (sp : Sp) (E : St → XK) (ta : TE) (t : TA) : TE := fun σ H Q => ta σ H fun x H1 => ∃ a dx fs, x = .ref a ∧ H1 a = some (.ins C dx fs) ∧ fs.lookup m = none ∧ t σ H1 fun vs H2 => sp (x :: vs) H2 Q (E σ)
theorem pe_mdS {pl : Sem Bool} (D : MDef X.prog X.w X.K X.mg X.base CX k C m ps sp) (c : Cls X.K C) (hr : Room k X.A) (hx : ∀ σ, PassesAt CX X σ (E σ)) (he : PE X o ta) (ha : PA X (e :: es) t)
    (hst : starEach (e :: es) X.env = (false, eval e X.env) :: starEach es X.env := by rfl) (hpl : (backTo pos (starEach es X.env)).any (·.1) = false := by rfl)
    (ht : eval (.Call (.Attribute o m apos) (e :: es) [] pos) X.env = (do
      let ov ← eval o X.env
      standAt apos.atName
      let (f, first) ← holding [ov] (getMethod ov m pl)
      callWith pos f first (backTo pos (starEach (e :: es) X.env)) (backToKw pos (keywordEach [] X.env))) := by rfl) :
    PE X (.Call (.Attribute o m apos) (e :: es) [] pos) (tMethS C m sp E ta t) := by
  obtain ⟨f, fd, a1, a2, a3, a4, a5⟩ := D.ex
  refine ⟨fun pins s σ H Q I h => PySem.W.methodCall_KW (pl := pl) (thn (he.run pins s σ H _ I h) fun u s1 z => ?_) ht⟩
  obtain ⟨y, H1, I1, ry, a, dx, fs, ey, ea, l, q⟩ := z
  subst ey
  obtain rfl : u = Value.ref a := ry
  refine getmeth_ok I1 ea c ⟨a1, a2, a3⟩ l (PySem.W.callWith_K (first := [.ref a]) (h₀ := X.base) I.ok.mod.kin a3 (thn (ha.run pos pins s1 σ H1 _ I1 q) fun us s2 z => ?_) hst hpl)
  obtain ⟨vs, H2, I2, r, q2⟩ := z
  exact ⟨I2.kIn, run_fnS (us := .ref a :: us) (vs := .ref a :: vs) a5 hr a4.b (hx σ) I2 (.cons rfl r) q2⟩
end
/-- a try with one clause, its reading by name -/
def tTryA (K : PySem.W.Frag) (c : Value) (i : Nat) (ts : Addr → Value → Option Addr → TS) (Wout : WX) (tb : WX → TS) : TS := fun D σ H => tb (wAs K c i ts Wout D) D σ H
theorem ps_tryA {X : Cx} {x n : Str} {c : Value} {i : Nat} {body suite : List Stmt} {b₀ : Stmt} {np pos pos' : PySem.Pos} {tb : WX → TS} {ts : Addr → Value → Option Addr → TS} {Wout : WX} (hs : X.stack = X.env :: X.outer) (hf : X.env.frame = some X.env.locals) (hN : X.N.Nodup) (hi : X.N[i]? = some n) (hln : X.env.kindOf n = some .local) (hc : Names X x c) (tk : Takes X Wout)
    (hb : ∀ (W : WX) (pn : List (Addr × Obj)) (xe : Value → Shared → Prop), Takes (X.tr pn xe) W → PassesOwn (model X.prog X.w) X.A X.env xe → PSs (X.tr pn xe) body (tb W))
    (hsu : ∀ (a : Addr) (oe : Obj) (cls : Value) (d : Option Addr) (pn : List (Addr × Obj)), Zc cls d oe → (∃ vs, oe.data = .fields vs) → PSs (X.suite a ((a, oe) :: pn)) (b₀ :: suite) (ts a cls d)) :
    PS X (.Try body [.ExceptHandler (some (.Name x np)) (some n) (b₀ :: suite) pos'] [] [] pos) (tTryA X.K c i ts Wout tb) := ps_try_as hs hf hN hi hln hc tk hb hsu
theorem e_tryA {K : PySem.W.Frag} {c : Value} {i : Nat} {ts : Addr → Value → Option Addr → TS} {Wout : WX} {tb : WX → TS} {D : Ends} {σ : St} {H : Hp} (q : tb (wAs K c i ts Wout D) D σ H) : tTryA K c i ts Wout tb D σ H := q
section
variable {σ : St} {H : Hp} {Q : VK} {C : Addr} {m : Str} {sp : Sp} {E : St → XK} {ta : TE} {t : TA}
theorem e_callS (q : t σ H fun vs H1 => sp vs H1 Q (E σ)) : tCallS sp E t σ H Q := q
theorem e_mdS (q : ta σ H fun x H1 => ∃ a dx fs, x = .ref a ∧ H1 a = some (.ins C dx fs) ∧ fs.lookup m = none ∧ t σ H1 fun vs H2 => sp (x :: vs) H2 Q (E σ)) : tMethS C m sp E ta t σ H Q := q
end
theorem sl_TK {X : Cx} {K : PySem.W.Frag} (h : X.K = K) : SlR X (rSlT K) := h ▸ sl_tup
theorem s_asgT {te : TE} {K : PySem.W.Frag} {n : Nat} {t : TGs} {D : Ends} {σ : St} {H : Hp} (q : te σ H fun v H1 => gTup K n t v σ H1 fun σ' H' => D.nx σ' H') : tAsg te (gTup K n t) D σ H := q
theorem e_pr {tk tv : TE} {r : List (TE × TE)} {σ : St} {H : Hp} {Q : List (V × V) → Hp → Prop} (q : tk σ H fun x H1 => tv σ H1 fun y H2 => tPairs r σ H2 fun ps H3 => Q ((x, y) :: ps) H3) : tPairs ((tk, tv) :: r) σ H Q := q
theorem e_pr0 {σ : St} {H : Hp} {Q : List (V × V) → Hp → Prop} (q : Q [] H) : tPairs [] σ H Q := q
theorem e_disp {trs : List (TE × TE)} {σ : St} {H : Hp} {Q : VK} (q : ∀ p, H p = none → tPairs trs σ (upd H p (.dK [])) fun ps H2 => H2 p = some (.dK []) ∧ ∃ kvs : List (Key × V), ps = kvs.map (fun kv => (kV kv.1, kv.2)) ∧ kvs.length ≤ 15 ∧ Q (.ref p) (upd H2 p (.dK (mergeK [] kvs)))) : tDisp trs σ H Q := q
theorem sqL_same {K : PySem.W.Frag} {H H' : Hp} {a : Addr} {xs : List V} (h : SqL K H a xs) (s : Same H H') : SqL K H' a xs := by
  rcases h with (h | ⟨o, h⟩) | h
  · exact .inl (.inl (s _ _ h))
  · exact .inl (.inr ⟨o, s _ _ h⟩)
  · exact .inr h
theorem v_slL {K : PySem.W.Frag} {H : Hp} {Q : VK} {a : Addr} {xs : List V} {lo hi : Option Int} (h : SqL K H a xs) (q : ∀ p H', H p = none → Same H H' → H' p = some (.lst (cutV xs lo hi)) → Q (.ref p) H') : rSlL K (.ref a) lo hi H Q := ⟨a, xs, rfl, h, fun p hp => q p _ hp (Same.new hp) upd_same⟩
end Cw
set_option Elab.async false
set_option linter.all false
set_option maxRecDepth 100000
set_option maxHeartbeats 4000000
/-! plans that are not equal, in plain words -/
namespace Cw
open PySem PySem.Spec L2
/-- the end of a body, by a name: smaller goals -/
theorem s_hide {t : TS} {D0 : Ends} {σ : St} {H : Hp} (h : ∀ D : Ends, (∀ σ H, D0.nx σ H → D.nx σ H) → t D σ H) : t D0 σ H := h D0 fun _ _ z => z
theorem more_ne {ls : List Nat} {z : Nat} (hz : z ∈ LET) (h : ¬ z ∈ ls) : ascOf ls ≠ ascOf (ls ++ [z]) := by
  intro e
  have h1 : z ∈ ascOf (ls ++ [z]) := ascOf_mem.mpr ⟨hz, by simp⟩
  rw [← e] at h1
  exact h (ascOf_mem.mp h1).2
theorem pairsOf_nodup (f : List (List Nat)) : (pairsOf f).Nodup := by
  have h : ∀ l : List Nat, l.Nodup → (l.flatMap fun a => (LET.filter fun b => decide ([a, b] ∈ f)).map fun b => [a, b]).Nodup := by
    intro l
    induction l with
    | nil => intro _; exact List.nodup_nil
    | cons c r ih =>
      intro hn
      rw [List.nodup_cons] at hn
      rw [List.flatMap_cons, List.nodup_append]
      refine ⟨?_, ih hn.2, ?_⟩
      · have : (LET.filter fun b => decide ([c, b] ∈ f)).Nodup := (LET_nodup.filter fun b => decide ([c, b] ∈ f))
        generalize LET.filter (fun b => decide ([c, b] ∈ f)) = m at this ⊢
        induction m with
        | nil => exact List.nodup_nil
        | cons x y ih2 =>
          rw [List.nodup_cons] at this
          rw [List.map_cons, List.nodup_cons]
          refine ⟨?_, ih2 this.2⟩
          intro z
          obtain ⟨w, hw, e⟩ := List.mem_map.mp z
          injection e with _ e
          injection e with e
          exact this.1 (e ▸ hw)
      · intro p hp q hq e
        subst e
        obtain ⟨b, _, e1⟩ := List.mem_map.mp hp
        obtain ⟨a, ha, hm⟩ := List.mem_flatMap.mp hq
        obtain ⟨b', _, e2⟩ := List.mem_map.mp hm
        have e3 := e1.trans e2.symm
        injection e3 with e3
        exact hn.1 (e3 ▸ ha)
  exact h LET LET_nodup
theorem tabPairs_lt {ls : List Nat} {f : Nat → List Nat} (T : Tab ls f) {p : List Nat} (h : p ∈ tabPairs ls f) : ∃ a b, p = [a, b] ∧ a < b ∧ a ∈ ls ∧ b ∈ ls ∧ b ∈ f a := by
  obtain ⟨a, b, rfl, ha, hb, hm⟩ := pairsOf_mem.mp h
  obtain ⟨x, hx, hm⟩ := List.mem_flatMap.mp hm
  obtain ⟨y, hy, e⟩ := List.mem_map.mp hm
  obtain ⟨y1, y2, y3⟩ := T.sub x hx y hy
  by_cases hl : x < y
  · rw [(asc2 (T.lt x hx) (T.lt y y1) hl).1] at e
    injection e with e1 e2
    injection e2 with e2
    subst e1 e2
    exact ⟨_, _, rfl, hl, hx, y1, hy⟩
  · have hl : y < x := by omega
    rw [(asc2 (T.lt y y1) (T.lt x hx) hl).2] at e
    injection e with e1 e2
    injection e2 with e2
    subst e1 e2
    exact ⟨_, _, rfl, hl, y1, hx, y3⟩
theorem less_ne {ls : List Nat} {f : Nat → List Nat} (T : Tab ls f) {h : List Nat} {t : List (List Nat)} (e : tabPairs ls f = h :: t) : tabPairs ls f ≠ pairsOf (t.map ascOf) := by
  intro e2
  have nd : (h :: t).Nodup := e ▸ pairsOf_nodup _
  have hh : h ∈ pairsOf (t.map ascOf) := by
    rw [← e2, e]
    exact List.mem_cons_self ..
  obtain ⟨a, b, rfl, ha, hb, hm⟩ := pairsOf_mem.mp hh
  obtain ⟨p, hp, e3⟩ := List.mem_map.mp hm
  have hp' : p ∈ tabPairs ls f := by
    rw [e]
    exact List.mem_cons_of_mem _ hp
  obtain ⟨x, y, rfl, hl, hx, hy, _⟩ := tabPairs_lt T hp'
  rw [(asc2 (T.lt x hx) (T.lt y hy) hl).1] at e3
  rw [e3] at hp
  exact (List.nodup_cons.mp nd).1 hp
theorem asc_asc (ls : List Nat) : ascOf (ascOf ls) = ascOf ls := by
  unfold ascOf
  refine List.filter_congr fun c hc => decide_eq_decide.mpr ?_
  rw [List.mem_filter, decide_eq_true_iff]
  exact ⟨fun z => z.2, fun z => ⟨hc, z⟩⟩
section
variable {K : PySem.W.Frag} {H : Hp} {Q : VK} {p q : Addr} {n m : Int} {a b : List Nat}
theorem shaped_pair (h : ∀ c ∈ a, c < 1000) : SeqAt.shaped (.tuple [.int n, .str (tx a)]) = true := by
  have h2 : (PyData.tuple [.int n, .str (tx a)]).depth ≤ 64 := by simp [PyData.depth, PyData.depthAll]
  have h3 : (PyData.tuple [.int n, .str (tx a)]).canLay0 = true := by simp [PyData.canLay0, PyData.canLayAll0, ok_tx h]
  simp [SeqAt.shaped, h2, h3]
theorem eqv_pair : PyData.eqv (.tuple [.int n, .str (tx a)]) (.tuple [.int m, .str (tx b)]) = decide (n = m ∧ a = b) := by
  simp only [PyData.eqv, PyData.eqvAll, Bool.and_true]
  rw [Bool.eq_iff_iff, Bool.and_eq_true, beq_iff_eq, beq_iff_eq, decide_eq_true_iff, tx_inj]
theorem v_eqPair (h1 : H p = some (.tup [.int n, .str (tx a)])) (h2 : H q = some (.tup [.int m, .str (tx b)])) (ha : ∀ c ∈ a, c < 1000) (hb : ∀ c ∈ b, c < 1000) (k : Q (.bl (decide (n = m ∧ a = b))) H) : rEqD K (.ref p) (.ref q) H Q := by
  refine ⟨_, _, .tup (SqT.of h1) (.cons (.int n) (.cons (.str _) .nil)), .tup (SqT.of h2) (.cons (.int m) (.cons (.str _) .nil)), shaped_pair ha, shaped_pair hb, ?_⟩
  rw [eqv_pair]
  exact k
theorem v_nePair (h1 : H p = some (.tup [.int n, .str (tx a)])) (h2 : H q = some (.tup [.int m, .str (tx b)])) (ha : ∀ c ∈ a, c < 1000) (hb : ∀ c ∈ b, c < 1000) (k : Q (.bl (!decide (n = m ∧ a = b))) H) : rNeD K (.ref p) (.ref q) H Q := by
  refine ⟨_, _, .tup (SqT.of h1) (.cons (.int n) (.cons (.str _) .nil)), .tup (SqT.of h2) (.cons (.int m) (.cons (.str _) .nil)), shaped_pair ha, shaped_pair hb, ?_⟩
  rw [eqv_pair]
  exact k
theorem dp_bools {K : PySem.W.Frag} {H : Hp} : ∀ bs : List Bool, DpAll K H (bs.map V.bl) (bs.map PyData.bool)
  | [] => .nil
  | b :: r => .cons (.bl b) (dp_bools r)
theorem lay_bools : ∀ bs : List Bool, PyData.canLayAll0 (bs.map PyData.bool) = true
  | [] => rfl
  | b :: r => lay_bools r
theorem dep_bools : ∀ bs : List Bool, PyData.depthAll (bs.map PyData.bool) ≤ 1
  | [] => by decide
  | b :: r => Nat.max_le.mpr ⟨by show PyData.depth (.bool b) ≤ 1; simp [PyData.depth], dep_bools r⟩
theorem shaped_bools (bs : List Bool) : SeqAt.shaped (.list (bs.map PyData.bool)) = true := by
  have h := dep_bools bs
  have h2 : (PyData.list (bs.map PyData.bool)).depth ≤ 64 := by simp only [PyData.depth]; omega
  have h3 : (PyData.list (bs.map PyData.bool)).canLay0 = true := by simp only [PyData.canLay0]; exact lay_bools bs
  simp [SeqAt.shaped, h2, h3]
theorem eqv_bools : ∀ bs : List Bool, PyData.eqvAll (bs.map PyData.bool) (bs.map PyData.bool) = true
  | [] => rfl
  | b :: r => by simp [PyData.eqvAll, PyData.eqv, eqv_bools r]
theorem v_neBools {bs : List Bool} (h1 : H p = some (.lst (bs.map V.bl))) (h2 : H q = some (.lst (bs.map V.bl))) (k : Q (.bl false) H) : rNeD K (.ref p) (.ref q) H Q := by
  refine ⟨_, _, .lst (SqL.of h1) (dp_bools bs), .lst (SqL.of h2) (dp_bools bs), shaped_bools bs, shaped_bools bs, ?_⟩
  have e : PyData.eqv (.list (bs.map PyData.bool)) (.list (bs.map PyData.bool)) = true := by
    show PyData.eqvAll _ _ = _
    exact eqv_bools bs
  rw [e]
  exact k
theorem v_neNilT {ls : List (List Nat)} (h1 : H p = some (.tup (strsV ls))) (h2 : H q = some (.tup [])) (h : ∀ l ∈ ls, ∀ c ∈ l, c < 1000) (k : Q (.bl (!ls.isEmpty)) H) : rNeD K (.ref p) (.ref q) H Q := by
  rw [strsV_map] at h1
  refine ⟨.tuple ((ls.map tx).map PyData.str), .tuple [], .tup (SqT.of h1) (dp_strs _), .tup (SqT.of h2) .nil, shaped_strsT _ (ok_strs h), shaped_strsT [] (by simp), ?_⟩
  have e : PyData.eqv (.tuple ((ls.map tx).map PyData.str)) (.tuple []) = ls.isEmpty := by
    cases ls <;> simp [PyData.eqv, PyData.eqvAll]
  rw [e]
  exact k
theorem cut_tail {x : V} {xs : List V} : cutV (x :: xs) (some 1) none = xs := by
  unfold cutV
  have e1 : HT.sIx (x :: xs).length 0 (some 1) = 1 := by
    simp [HT.sIx]
  have e2 : HT.sIx (x :: xs).length (x :: xs).length none = (x :: xs).length := rfl
  rw [e1, e2]
  show (xs.take ((x :: xs).length - 1)) = xs
  rw [List.length_cons, Nat.add_sub_cancel, List.take_length]
theorem v_tailT {x : V} {xs : List V} (h : H p = some (.tup (x :: xs))) (k : ∀ r H', H r = none → Same H H' → H' r = some (.tup xs) → Q (.ref r) H') : rSlT K (.ref p) (some 1) none H Q := by
  refine ⟨p, _, rfl, SqT.of h, ?_, fun r hr => ?_⟩
  · intro z
    have := z.1
    simp [HT.sIx] at this
  · rw [cut_tail]
    exact k r _ hr (Same.new hr) upd_same
end
end Cw
set_option Elab.async false
set_option linter.all false
set_option maxRecDepth 100000
set_option maxHeartbeats 4000000
/-! names in plain words: no letter stands behind a greater or an equal one that it could be exchanged back to -/
namespace Cw
structure CrOk (cr : Nat → List Nat) : Prop where
  sym : ∀ a b, a ∈ cr b → b ∈ cr a
  irr : ∀ a, ¬ a ∈ cr a
/-- s may stand behind the letters of the list (the nearest first) -/
def okAt (cr : Nat → List Nat) (s : Nat) : List Nat → Prop
  | [] => True
  | t :: r => t ≠ s ∧ (t ∈ cr s → t < s ∧ okAt cr s r)
/-- a name, its last letter first -/
def NFr (cr : Nat → List Nat) : List Nat → Prop
  | [] => True
  | s :: r => okAt cr s r ∧ NFr cr r
def NF (cr : Nat → List Nat) (w : List Nat) : Prop := NFr cr w.reverse
section
variable {cr : Nat → List Nat} {s k x : Nat} {d e : List Nat}
theorem okAt_app : ∀ {q : List Nat}, okAt cr s (q ++ e) → (∀ y ∈ q, y ∈ cr s) → okAt cr s e
  | [], h, _ => h
  | y :: q, h, hq => okAt_app (q := q) (h.2 (hq y (List.mem_cons_self ..))).2 fun z hz => hq z (List.mem_cons_of_mem _ hz)
theorem okAt_lt : ∀ {q : List Nat}, okAt cr s (q ++ e) → (∀ y ∈ q, y ∈ cr s) → ∀ y ∈ q, y < s
  | [], _, _, y, hy => nomatch hy
  | z :: q, h, hq, y, hy => by
    have h2 := h.2 (hq z (List.mem_cons_self ..))
    rcases List.mem_cons.mp hy with rfl | hy
    · exact h2.1
    · exact okAt_lt h2.2 (fun z hz => hq z (List.mem_cons_of_mem _ hz)) y hy
theorem okAt_remove (hk : k ∈ cr s) : ∀ {q : List Nat}, okAt cr s (q ++ k :: e) → okAt cr s (q ++ e)
  | [], h => (h.2 hk).2
  | y :: q, h => ⟨h.1, fun z => ⟨(h.2 z).1, okAt_remove hk (h.2 z).2⟩⟩
theorem okAt_insert (hk : k ≠ s) : ∀ {q : List Nat}, okAt cr s (q ++ e) → ((∀ y ∈ q, y ∈ cr s) → k < s) → okAt cr s (q ++ k :: e)
  | [], h, hl => ⟨hk, fun _ => ⟨hl (fun _ z => nomatch z), h⟩⟩
  | y :: q, h, hl => ⟨h.1, fun z => ⟨(h.2 z).1, okAt_insert hk (h.2 z).2 fun hq => hl fun w hw => by
      rcases List.mem_cons.mp hw with rfl | hw
      · exact z
      · exact hq w hw⟩⟩
theorem NFr_right : ∀ {a b : List Nat}, NFr cr (a ++ b) → NFr cr b
  | [], _, h => h
  | _ :: a, b, h => NFr_right (a := a) h.2
theorem NFr_remove (ok : CrOk cr) : ∀ {d : List Nat}, (∀ y ∈ d, y ∈ cr k) → NFr cr (d ++ k :: e) → NFr cr (d ++ e)
  | [], _, h => h.2
  | y :: d, hd, h => ⟨okAt_remove (ok.sym _ _ (hd y (List.mem_cons_self ..))) h.1, NFr_remove ok (fun z hz => hd z (List.mem_cons_of_mem _ hz)) h.2⟩
theorem NFr_insert (ok : CrOk cr) {h0 : Nat} (hh : k < h0) (hok : okAt cr k e) : ∀ {d : List Nat}, (∀ y ∈ d, y ∈ cr k) → NFr cr (d ++ h0 :: e) → h0 ∈ cr k → NFr cr (d ++ h0 :: k :: e)
  | [], _, h, hc => ⟨okAt_insert (q := []) (by omega) h.1 fun _ => hh, hok, h.2⟩
  | y :: d, hd, h, hc => by
    have hy := hd y (List.mem_cons_self ..)
    refine ⟨?_, NFr_insert ok hh hok (fun z hz => hd z (List.mem_cons_of_mem _ hz)) h.2 hc⟩
    have h1 : okAt cr y ((d ++ [h0]) ++ e) := by
      rw [List.append_assoc]
      exact h.1
    have h2 : okAt cr y ((d ++ [h0]) ++ k :: e) := okAt_insert (fun z : k = y => ok.irr k (by rw [← z] at hy; exact hy)) h1 fun hq => by
      have := okAt_lt h1 hq h0 (by simp)
      omega
    rw [List.append_assoc] at h2
    exact h2
/-! ### what a step does -/
theorem splitB_spec (part : List Nat) : ∀ ra b : List Nat, ∃ c, (splitB part ra b).2 = c ++ b ∧ (∀ y ∈ c, y ∈ part) ∧ ra = c.reverse ++ (splitB part ra b).1 ∧ ∀ y, (splitB part ra b).1.head? = some y → ¬ y ∈ part
  | [], b => ⟨[], rfl, fun _ z => (nomatch z), rfl, fun _ z => (nomatch z)⟩
  | y :: r, b => by
    unfold splitB
    by_cases h : y ∈ part
    · rw [if_pos h]
      obtain ⟨c, h1, h2, h3, h4⟩ := splitB_spec part r (y :: b)
      refine ⟨c ++ [y], by rw [h1, List.append_assoc]; rfl, fun z hz => ?_, ?_, h4⟩
      · rcases List.mem_append.mp hz with z | z
        · exact h2 _ z
        · rw [List.mem_singleton.mp z]
          exact h
      · rw [List.reverse_append]
        show y :: r = y :: (c.reverse ++ _)
        rw [← h3]
    · rw [if_neg h]
      refine ⟨[], rfl, fun _ z => (nomatch z), rfl, fun z hz => ?_⟩
      injection hz with hz
      exact hz ▸ h
/-- the two ways of a step, the name's last letter first: d are exchanged, then the kind is found or not -/
theorem stepOf_cases (part name : List Nat) (k : Nat) : ∃ d e : List Nat, name.reverse = d ++ e ∧ (∀ y ∈ d, y ∈ part) ∧ (∀ y, e.head? = some y → ¬ y ∈ part) ∧
    ((∃ e', e = k :: e' ∧ (stepOf part name k).reverse = d ++ e') ∨ (e.head? ≠ some k ∧ (stepOf part name k).reverse = (putIn k d.reverse).reverse ++ e)) := by
  obtain ⟨c, h1, h2, h3, h4⟩ := splitB_spec part name.reverse []
  rw [List.append_nil] at h1
  refine ⟨c.reverse, (splitB part name.reverse []).1, h3, fun y hy => h2 y (List.mem_reverse.mp hy), h4, ?_⟩
  unfold stepOf
  rw [h1]
  generalize (splitB part name.reverse []).1 = ra
  unfold stepAt
  by_cases hc : ra.head? = some k
  · rw [if_pos hc]
    cases ra with
    | nil => cases hc
    | cons y r =>
      injection hc with hc
      subst hc
      exact .inl ⟨r, rfl, by simp⟩
  · rw [if_neg hc]
    exact .inr ⟨hc, by simp⟩
/-- the letters below k, the others -/
theorem putIn_split (k : Nat) (b : List Nat) : ∃ b1 b2, b = b1 ++ b2 ∧ putIn k b = b1 ++ k :: b2 ∧ (∀ y ∈ b1, y < k) ∧ ∀ y, b2.head? = some y → ¬ y < k := by
  refine ⟨b.takeWhile (fun c => decide (c < k)), b.dropWhile (fun c => decide (c < k)), List.takeWhile_append_dropWhile.symm, rfl, fun y hy => ?_, fun y hy => ?_⟩
  · have := List.all_eq_true.mp (List.all_takeWhile (p := fun c => decide (c < k)) (l := b)) y hy
    exact of_decide_eq_true this
  · have := List.head?_dropWhile_not (fun c => decide (c < k)) b
    rw [hy] at this
    simpa using this
theorem okAt_all : ∀ {q : List Nat}, (∀ y ∈ q, y < k) → okAt cr k e → (∀ y ∈ q, y ∈ cr k) → okAt cr k (q ++ e)
  | [], _, h, _ => h
  | y :: q, hl, h, hq => ⟨by have := hl y (List.mem_cons_self ..); omega, fun _ => ⟨hl y (List.mem_cons_self ..), okAt_all (fun z hz => hl z (List.mem_cons_of_mem _ hz)) h fun z hz => hq z (List.mem_cons_of_mem _ hz)⟩⟩
theorem okAt_stop (h1 : e.head? ≠ some k) (h2 : ∀ y, e.head? = some y → ¬ y ∈ cr k) : okAt cr k e := by
  cases e with
  | nil => trivial
  | cons y r => exact ⟨fun z => h1 (by rw [z]; rfl), fun z => absurd z (h2 y rfl)⟩
theorem NF_step (ok : CrOk cr) {name : List Nat} (h : NF cr name) : NF cr (stepOf (cr k) name k) := by
  obtain ⟨d, e, e1, hd, he, hc⟩ := stepOf_cases (cr k) name k
  unfold NF at h ⊢
  rw [e1] at h
  rcases hc with ⟨e', rfl, e2⟩ | ⟨hk, e2⟩
  · rw [e2]
    exact NFr_remove ok hd h
  · rw [e2]
    obtain ⟨b1, b2, eb, ep, hb1, hb2⟩ := putIn_split k d.reverse
    have ed : d = b2.reverse ++ b1.reverse := by
      have := congrArg List.reverse eb
      rw [List.reverse_reverse, List.reverse_append] at this
      exact this
    rw [ep, List.reverse_append, List.reverse_cons]
    have hd1 : ∀ y ∈ b1.reverse, y ∈ cr k := fun y hy => hd y (by rw [ed]; exact List.mem_append_right _ hy)
    have hok : okAt cr k (b1.reverse ++ e) := okAt_all (fun y hy => hb1 y (List.mem_reverse.mp hy)) (okAt_stop hk he) hd1
    have hn : NFr cr (b1.reverse ++ e) := by
      rw [ed, List.append_assoc] at h
      exact NFr_right h
    cases b2 with
    | nil =>
      show NFr cr (([] ++ [k] ++ b1.reverse) ++ e)
      exact ⟨hok, hn⟩
    | cons y r =>
      have hy : ¬ y < k := hb2 y rfl
      have hyc : y ∈ cr k := hd y (by rw [ed]; simp)
      have hne : y ≠ k := fun z => ok.irr k (z ▸ hyc)
      have e3 : ((y :: r).reverse ++ [k] ++ b1.reverse) ++ e = r.reverse ++ y :: k :: (b1.reverse ++ e) := by simp
      rw [e3]
      refine NFr_insert ok (by omega) hok (fun z hz => hd z (by rw [ed, List.reverse_cons]; exact List.mem_append_left _ (List.mem_append_left _ hz))) ?_ hyc
      rw [ed] at h
      have e4 : ((y :: r).reverse ++ b1.reverse) ++ e = r.reverse ++ y :: (b1.reverse ++ e) := by simp
      rw [e4] at h
      exact h
/-- a name with one letter more, if it is one -/
theorem step_snoc {name : List Nat} (h : okAt cr k name.reverse) : stepOf (cr k) name k = name ++ [k] := by
  obtain ⟨d, e, e1, hd, he, hc⟩ := stepOf_cases (cr k) name k
  rw [e1] at h
  have h2 := okAt_app h hd
  have h3 := okAt_lt h hd
  rcases hc with ⟨e', rfl, e2⟩ | ⟨hk, e2⟩
  · exact absurd rfl h2.1
  · obtain ⟨b1, b2, eb, ep, hb1, hb2⟩ := putIn_split k d.reverse
    have : b2 = [] := by
      cases b2 with
      | nil => rfl
      | cons y r =>
        have hy := hb2 y rfl
        have : y ∈ d := List.mem_reverse.mp (by rw [eb]; simp)
        exact absurd (h3 y this) hy
    rw [this] at ep eb
    rw [List.append_nil] at eb
    rw [ep, ← eb] at e2
    have e5 := congrArg List.reverse e2
    rw [List.reverse_reverse] at e5
    rw [e5]
    have e6 := congrArg List.reverse e1
    rw [List.reverse_reverse] at e6
    rw [e6]
    simp
end
/-! ### ways -/
def joinC (cr : Nat → List Nat) (name way : List Nat) : List Nat := way.foldl (fun n k => stepOf (cr k) n k) name
theorem joinOf_C (ks : List Nat) (ps : List (List Nat)) (name way : List Nat) : joinOf ks ps name way = joinC (crossOf ks ps) name way := rfl
section
variable {cr : Nat → List Nat}
theorem joinC_app (name a b : List Nat) : joinC cr name (a ++ b) = joinC cr (joinC cr name a) b := by
  unfold joinC
  rw [List.foldl_append]
theorem NF_join (ok : CrOk cr) : ∀ {way name : List Nat}, NF cr name → NF cr (joinC cr name way)
  | [], _, h => h
  | k :: r, name, h => NF_join (way := r) ok (NF_step ok h)
theorem NF_nil : NF cr [] := trivial
theorem NF_left {a b : List Nat} (h : NF cr (a ++ b)) : NF cr a := by
  unfold NF at h ⊢
  rw [List.reverse_append] at h
  exact NFr_right h
theorem join_NF : ∀ {way name : List Nat}, NF cr (name ++ way) → joinC cr name way = name ++ way
  | [], name, _ => (List.append_nil name).symm
  | k :: r, name, h => by
    have e : name ++ k :: r = (name ++ [k]) ++ r := by simp
    rw [e] at h ⊢
    have h1 : NF cr (name ++ [k]) := NF_left h
    have h2 : okAt cr k name.reverse := by
      unfold NF at h1
      rw [List.reverse_append] at h1
      exact h1.1
    show joinC cr (stepOf (cr k) name k) r = _
    rw [step_snoc h2]
    exact join_NF h
theorem is_NF (ok : CrOk cr) {w : List Nat} : joinC cr [] w = w ↔ NF cr w := ⟨fun h => h ▸ NF_join ok NF_nil, fun h => join_NF (name := []) h⟩
/-- the same by any two letters -/
theorem NF.two {w : List Nat} (h : NF cr w) {p q r : List Nat} {t s : Nat} (e : w = p ++ t :: (q ++ s :: r)) (hq : ∀ y ∈ q, y ∈ cr s) : t ≠ s ∧ (t ∈ cr s → t < s) := by
  unfold NF at h
  have e2 : w.reverse = r.reverse ++ s :: (q.reverse ++ t :: p.reverse) := by rw [e]; simp
  rw [e2] at h
  have h1 := (NFr_right h).1
  have h2 := okAt_app h1 fun y hy => hq y (List.mem_reverse.mp hy)
  exact ⟨h2.1, fun z => (h2.2 z).1⟩
end
end Cw
set_option Elab.async false
set_option linter.all false
set_option maxRecDepth 100000
set_option maxHeartbeats 4000000
/-! the vectors of the laws, in plain words -/
namespace Cw
/-- one coordinate of the marks, behind the door d -/
def thr (cr : Nat → List Nat) (d : Nat) (f : Nat → Int) : Nat → Int := fun e => if e = d then - f d else if e ∈ cr d then f e else f e + 2 * f d
/-- the first letter of the list is the last door -/
def act (cr : Nat → List Nat) (w : List Nat) (f : Nat → Int) : Nat → Int := w.foldr (thr cr) f
def unit (x : Nat) : Nat → Int := fun e => if e = x then 1 else 0
section
variable {cr : Nat → List Nat} {a b d e k : Nat} {f : Nat → Int} {w : List Nat}
theorem act_app (u v : List Nat) (f : Nat → Int) : act cr (u ++ v) f = act cr u (act cr v f) := by
  unfold act
  rw [List.foldr_append]
theorem thr_self : thr cr d f d = - f d := if_pos rfl
theorem thr_cr (ok : CrOk cr) (h : e ∈ cr d) : thr cr d f e = f e := by
  unfold thr
  rw [if_neg (fun z : e = d => ok.irr d (by rw [z] at h; exact h)), if_pos h]
theorem thr_not (h : e ≠ d) (h2 : ¬ e ∈ cr d) : thr cr d f e = f e + 2 * f d := by
  unfold thr
  rw [if_neg h, if_neg h2]
theorem thr_thr (ok : CrOk cr) : thr cr d (thr cr d f) = f := by
  funext e
  by_cases h : e = d
  · subst h
    rw [thr_self, thr_self]
    omega
  · by_cases h2 : e ∈ cr d
    · rw [thr_cr ok h2, thr_cr ok h2]
    · rw [thr_not h h2, thr_not h h2, thr_self]
      omega
theorem thr_comm (ok : CrOk cr) (h : a ∈ cr b) : thr cr a (thr cr b f) = thr cr b (thr cr a f) := by
  have h' := ok.sym _ _ h
  have ne : a ≠ b := fun z => ok.irr b (z ▸ h)
  funext e
  by_cases e1 : e = a
  · subst e1
    rw [thr_self, thr_cr ok h, thr_cr ok h, thr_self]
  · by_cases e2 : e = b
    · subst e2
      rw [thr_cr ok h', thr_self, thr_self, thr_cr ok h']
    · by_cases c1 : e ∈ cr a
      · by_cases c2 : e ∈ cr b
        · rw [thr_cr ok c1, thr_cr ok c2, thr_cr ok c2, thr_cr ok c1]
        · rw [thr_cr ok c1, thr_not e2 c2, thr_not e2 c2, thr_cr ok c1, thr_cr ok h']
      · by_cases c2 : e ∈ cr b
        · rw [thr_not e1 c1, thr_cr ok c2, thr_cr ok h, thr_cr ok c2, thr_not e1 c1]
        · rw [thr_not e1 c1, thr_not e2 c2, thr_cr ok h, thr_not e2 c2, thr_not e1 c1, thr_cr ok h']
          omega
theorem act_comm (ok : CrOk cr) : ∀ {q : List Nat}, (∀ y ∈ q, y ∈ cr k) → act cr q (thr cr k f) = thr cr k (act cr q f)
  | [], _ => rfl
  | y :: q, h => by
    show thr cr y (act cr q (thr cr k f)) = thr cr k (thr cr y (act cr q f))
    rw [act_comm ok fun z hz => h z (List.mem_cons_of_mem _ hz), thr_comm ok (h y (List.mem_cons_self ..))]
theorem act_step (ok : CrOk cr) (name : List Nat) (k : Nat) (f : Nat → Int) : act cr (stepOf (cr k) name k) f = act cr (name ++ [k]) f := by
  obtain ⟨d, e, e1, hd, he, hc⟩ := stepOf_cases (cr k) name k
  have e1' := congrArg List.reverse e1
  rw [List.reverse_reverse, List.reverse_append] at e1'
  have hd' : ∀ y ∈ d.reverse, y ∈ cr k := fun y hy => hd y (List.mem_reverse.mp hy)
  rcases hc with ⟨e', rfl, e2⟩ | ⟨hk, e2⟩
  · have e3 := congrArg List.reverse e2
    rw [List.reverse_reverse, List.reverse_append] at e3
    rw [e3, e1', List.reverse_cons, act_app, act_app, act_app, act_app]
    show _ = act cr e'.reverse (thr cr k (act cr d.reverse (thr cr k f)))
    rw [act_comm ok hd', thr_thr ok]
  · have e3 := congrArg List.reverse e2
    rw [List.reverse_reverse, List.reverse_append, List.reverse_reverse] at e3
    obtain ⟨b1, b2, eb, ep, hb1, hb2⟩ := putIn_split k d.reverse
    rw [e3, e1', ep, eb]
    have h2 : ∀ y ∈ b2, y ∈ cr k := fun y hy => hd' y (by rw [eb]; exact List.mem_append_right _ hy)
    simp only [act_app]
    show act cr e.reverse (act cr b1 (thr cr k (act cr b2 f))) = act cr e.reverse (act cr b1 (act cr b2 (thr cr k f)))
    rw [act_comm ok h2]
theorem act_join (ok : CrOk cr) : ∀ (way name : List Nat) (f : Nat → Int), act cr (joinC cr name way) f = act cr (name ++ way) f
  | [], name, f => by rw [List.append_nil]; rfl
  | k :: r, name, f => by
    show act cr (joinC cr (stepOf (cr k) name k) r) f = _
    rw [act_join ok r, act_app, act_step ok, ← act_app, List.append_assoc]
    rfl
/-! ### doors that lead back -/
def desc (cr : Nat → List Nat) (s : Nat) : List Nat → Prop
  | [] => False
  | t :: r => t = s ∨ (t ∈ cr s ∧ desc cr s r)
def Red (cr : Nat → List Nat) : List Nat → Prop
  | [] => True
  | t :: r => ¬ desc cr t r ∧ Red cr r
theorem desc_split {s : Nat} : ∀ {w : List Nat}, desc cr s w → ∃ p q, w = p ++ s :: q ∧ ∀ y ∈ p, y ∈ cr s
  | [], h => h.elim
  | t :: r, h => by
    rcases h with rfl | ⟨h1, h2⟩
    · exact ⟨[], r, rfl, fun _ z => (nomatch z)⟩
    · obtain ⟨p, q, rfl, hp⟩ := desc_split h2
      refine ⟨t :: p, q, rfl, fun y hy => ?_⟩
      rcases List.mem_cons.mp hy with rfl | hy
      · exact h1
      · exact hp y hy
theorem desc_of {s : Nat} : ∀ {p q : List Nat}, (∀ y ∈ p, y ∈ cr s) → desc cr s (p ++ s :: q)
  | [], _, _ => .inl rfl
  | y :: p, q, h => .inr ⟨h y (List.mem_cons_self ..), desc_of fun z hz => h z (List.mem_cons_of_mem _ hz)⟩
theorem desc_pass {s : Nat} (ok : CrOk cr) {q : List Nat} : ∀ {p : List Nat}, (∀ y ∈ p, y ∈ cr s) → (desc cr s (p ++ q) ↔ desc cr s q)
  | [], _ => Iff.rfl
  | y :: p, h => by
    have hy := h y (List.mem_cons_self ..)
    have ih := desc_pass (q := q) ok (p := p) fun z hz => h z (List.mem_cons_of_mem _ hz)
    constructor
    · rintro (rfl | ⟨_, h2⟩)
      · exact absurd hy (ok.irr _)
      · exact ih.mp h2
    · exact fun z => .inr ⟨hy, ih.mpr z⟩
/-- taken out: the door before its letter keeps what it is -/
theorem desc_out {s t : Nat} (ok : CrOk cr) (h : s ∈ cr t) {q : List Nat} : ∀ {p : List Nat}, desc cr t (p ++ q) → desc cr t (p ++ s :: q)
  | [], z => .inr ⟨h, z⟩
  | y :: p, z => by
    rcases z with z | ⟨z1, z2⟩
    · exact .inl z
    · exact .inr ⟨z1, desc_out ok h z2⟩
theorem Red_out {s : Nat} (ok : CrOk cr) {q : List Nat} : ∀ {p : List Nat}, (∀ y ∈ p, y ∈ cr s) → Red cr (p ++ s :: q) → Red cr (p ++ q)
  | [], _, h => h.2
  | y :: p, hp, h => ⟨fun z => h.1 (desc_out ok (ok.sym _ _ (hp y (List.mem_cons_self ..))) z), Red_out ok (fun z hz => hp z (List.mem_cons_of_mem _ hz)) h.2⟩
theorem Red_right : ∀ {p q : List Nat}, Red cr (p ++ q) → Red cr q
  | [], _, h => h
  | _ :: p, _, h => Red_right (p := p) h.2
/-- what is taken out of a reduced way -/
theorem Red_desc {s : Nat} (ok : CrOk cr) (h : Red cr w) (hs : desc cr s w) : ∃ u, Red cr u ∧ ¬ desc cr s u ∧ u.length + 1 = w.length ∧ (∀ f, act cr w f = thr cr s (act cr u f)) ∧ ∀ y ∈ u, y ∈ w := by
  obtain ⟨p, q, rfl, hp⟩ := desc_split hs
  refine ⟨p ++ q, Red_out ok hp h, ?_, by simp; omega, fun f => ?_, fun y hy => ?_⟩
  · rw [desc_pass ok hp]
    exact (Red_right h).1
  · rw [act_app, act_app]
    show act cr p (thr cr s (act cr q f)) = _
    rw [act_comm ok hp]
  · rcases List.mem_append.mp hy with z | z
    · exact List.mem_append_left _ z
    · exact List.mem_append_right _ (List.mem_cons_of_mem _ z)
end
/-- all coordinates are at least nought, one is above -/
def Pos (ls : List Nat) (v : Nat → Int) : Prop := (∀ x ∈ ls, 0 ≤ v x) ∧ ∃ x ∈ ls, 0 < v x
theorem mul_nn {c x : Int} (h : 0 ≤ c) (h2 : 0 ≤ x) : 0 ≤ c * x := Int.mul_nonneg h h2
theorem Pos.comb {ls : List Nat} {u v : Nat → Int} {c b : Int} (hu : Pos ls u) (hv : Pos ls v) (hc : 0 ≤ c) (hb : 0 < b) : Pos ls fun x => c * u x + b * v x := by
  refine ⟨fun x hx => ?_, ?_⟩
  · have := mul_nn hc (hu.1 x hx)
    have := mul_nn (Int.le_of_lt hb) (hv.1 x hx)
    show 0 ≤ c * u x + b * v x
    omega
  · obtain ⟨x, hx, h⟩ := hv.2
    refine ⟨x, hx, ?_⟩
    have := mul_nn hc (hu.1 x hx)
    have := Int.mul_pos hb h
    show 0 < c * u x + b * v x
    omega
theorem Pos.congr {ls : List Nat} {u v : Nat → Int} (hu : Pos ls u) (h : ∀ x ∈ ls, v x = u x) : Pos ls v := by
  refine ⟨fun x hx => h x hx ▸ hu.1 x hx, ?_⟩
  obtain ⟨x, hx, p⟩ := hu.2
  exact ⟨x, hx, h x hx ▸ p⟩
/-- the mark of the door e behind the way w, coordinate by coordinate -/
def mark (cr : Nat → List Nat) (w : List Nat) (e : Nat) : Nat → Int := fun x => act cr w (unit x) e
section
variable {cr : Nat → List Nat} {ls : List Nat}
theorem mark_pos (ok : CrOk cr) : ∀ (n : Nat) (w : List Nat), w.length = n → Red cr w → (∀ y ∈ w, y ∈ ls) →
    (∀ s ∈ ls, ¬ desc cr s w → Pos ls (mark cr w s)) ∧
    (∀ s ∈ ls, ∀ t ∈ ls, s ≠ t → ¬ s ∈ cr t → desc cr s w → ¬ desc cr t w → ∀ a b : Int, 0 ≤ a → a ≤ b → 0 < b → Pos ls fun x => a * mark cr w s x + b * mark cr w t x) := by
  intro n
  induction n using Nat.strongRecOn with
  | ind n ih =>
    intro w hn hr hw
    refine ⟨fun s hs hd => ?_, fun s hs t ht ne nc hd hd2 a b ha hab hb => ?_⟩
    · cases w with
      | nil =>
        refine ⟨fun x _ => ?_, s, hs, ?_⟩
        · show 0 ≤ unit x s
          unfold unit
          split <;> omega
        · show 0 < unit s s
          unfold unit
          rw [if_pos rfl]
          omega
      | cons t r =>
        have hr' : r.length < n := by rw [← hn]; simp
        have ht : t ∈ ls := hw t (List.mem_cons_self ..)
        have ne : s ≠ t := fun z => hd (.inl z.symm)
        obtain ⟨i1, i2⟩ := ih r.length hr' r rfl hr.2 fun y hy => hw y (List.mem_cons_of_mem _ hy)
        by_cases hc : s ∈ cr t
        · have hsr : ¬ desc cr s r := fun z => hd (.inr ⟨ok.sym _ _ hc, z⟩)
          refine (i1 s hs hsr).congr fun x _ => ?_
          show thr cr t (act cr r (unit x)) s = _
          rw [thr_cr ok hc]
          rfl
        · have key : ∀ x ∈ ls, mark cr (t :: r) s x = 1 * mark cr r s x + 2 * mark cr r t x := by
            intro x _
            show thr cr t (act cr r (unit x)) s = _
            rw [thr_not ne hc]
            show mark cr r s x + 2 * mark cr r t x = _
            omega
          by_cases hsr : desc cr s r
          · exact (i2 s hs t ht ne hc hsr hr.1 1 2 (by decide) (by decide) (by decide)).congr key
          · exact ((i1 s hs hsr).comb (i1 t ht hr.1) (by decide) (by decide)).congr key
    · obtain ⟨u, ru, du, lu, au, mu⟩ := Red_desc ok hr hd
      obtain ⟨i1, i2⟩ := ih u.length (by omega) u rfl ru fun y hy => hw y (mu y hy)
      have nc' : ¬ t ∈ cr s := fun z => nc (ok.sym _ _ z)
      have key : ∀ x ∈ ls, a * mark cr w s x + b * mark cr w t x = b * mark cr u t x + (2 * b - a) * mark cr u s x := by
        intro x _
        have e1 : mark cr w s x = - mark cr u s x := by
          show act cr w (unit x) s = _
          rw [au, thr_self]
          rfl
        have e2 : mark cr w t x = mark cr u t x + 2 * mark cr u s x := by
          show act cr w (unit x) t = _
          rw [au, thr_not ne.symm nc']
          rfl
        rw [e1, e2, Int.mul_neg, Int.mul_add, Int.sub_mul, ← Int.mul_assoc, Int.mul_comm b 2]
        omega
      by_cases htu : desc cr t u
      · exact (i2 t ht s hs ne.symm nc' htu du b (2 * b - a) (by omega) (by omega) (by omega)).congr key
      · exact ((i1 t ht htu).comb (i1 s hs du) (by omega) (by omega)).congr key
/-- a door leads back just if a coordinate of its mark is below nought -/
theorem mark_neg (ok : CrOk cr) {w : List Nat} (hr : Red cr w) (hw : ∀ y ∈ w, y ∈ ls) {s : Nat} (hs : s ∈ ls) : (∃ x ∈ ls, mark cr w s x < 0) ↔ desc cr s w := by
  constructor
  · rintro ⟨x, hx, h⟩
    by_cases hd : desc cr s w
    · exact hd
    · have := ((mark_pos ok _ w rfl hr hw).1 s hs hd).1 x hx
      omega
  · intro hd
    obtain ⟨u, ru, du, lu, au, mu⟩ := Red_desc ok hr hd
    obtain ⟨x, hx, h⟩ := ((mark_pos ok _ u rfl ru fun y hy => hw y (mu y hy)).1 s hs du).2
    refine ⟨x, hx, ?_⟩
    show act cr w (unit x) s < 0
    rw [au, thr_self]
    have : 0 < act cr u (unit x) s := h
    omega
/-! ### names by marks -/
theorem NF.tail {c : Nat} {r : List Nat} (h : NF cr (c :: r)) : NF cr r := by
  unfold NF at h ⊢
  rw [List.reverse_cons] at h
  have key : ∀ {a b : List Nat}, NFr cr (a ++ b) → NFr cr a := by
    intro a b
    induction a with
    | nil => intro _; trivial
    | cons s a ih =>
      intro h
      refine ⟨?_, ih h.2⟩
      have h1 := h.1
      clear h ih
      induction a with
      | nil => trivial
      | cons t a ih => exact ⟨h1.1, fun z => ⟨(h1.2 z).1, ih (h1.2 z).2⟩⟩
  exact key h
theorem NF.red : ∀ {w : List Nat}, NF cr w → Red cr w
  | [], _ => trivial
  | t :: r, h => by
    refine ⟨fun z => ?_, NF.red h.tail⟩
    obtain ⟨p, q, rfl, hp⟩ := desc_split z
    exact (h.two (p := []) (q := p) (r := q) rfl hp).1 rfl
/-- the first letter is the least door back -/
theorem NF.least {c s : Nat} {r : List Nat} (h : NF cr (c :: r)) (hs : desc cr s (c :: r)) : c ≤ s := by
  rcases hs with rfl | ⟨h1, h2⟩
  · exact Nat.le_refl _
  · obtain ⟨p, q, rfl, hp⟩ := desc_split h2
    exact Nat.le_of_lt ((h.two (p := []) (q := p) (r := q) rfl hp).2 h1)
/-- two names with the same marks are the same -/
theorem NF.uniq (ok : CrOk cr) : ∀ {w v : List Nat}, NF cr w → NF cr v → (∀ y ∈ w, y ∈ ls) → (∀ y ∈ v, y ∈ ls) → (∀ x ∈ ls, ∀ s, act cr w (unit x) s = act cr v (unit x) s) → w = v
  | [], [], _, _, _, _, _ => rfl
  | [], c :: v, h, h', hw, hv, he => by
    have := (mark_neg ok h'.red hv (hv c (List.mem_cons_self ..))).mpr (.inl rfl)
    obtain ⟨x, hx, z⟩ := this
    have := (mark_neg ok h.red hw (hv c (List.mem_cons_self ..))).mp ⟨x, hx, by unfold mark; rw [he x hx]; exact z⟩
    exact this.elim
  | c :: w, [], h, h', hw, hv, he => by
    have := (mark_neg ok h.red hw (hw c (List.mem_cons_self ..))).mpr (.inl rfl)
    obtain ⟨x, hx, z⟩ := this
    have := (mark_neg ok h'.red hv (hw c (List.mem_cons_self ..))).mp ⟨x, hx, by unfold mark; rw [← he x hx]; exact z⟩
    exact this.elim
  | c :: w, b :: v, h, h', hw, hv, he => by
    have hc := hw c (List.mem_cons_self ..)
    have hb := hv b (List.mem_cons_self ..)
    have h1 : desc cr c (b :: v) := by
      obtain ⟨x, hx, z⟩ := (mark_neg ok h.red hw hc).mpr (.inl rfl)
      exact (mark_neg ok h'.red hv hc).mp ⟨x, hx, by unfold mark; rw [← he x hx]; exact z⟩
    have h2 : desc cr b (c :: w) := by
      obtain ⟨x, hx, z⟩ := (mark_neg ok h'.red hv hb).mpr (.inl rfl)
      exact (mark_neg ok h.red hw hb).mp ⟨x, hx, by unfold mark; rw [he x hx]; exact z⟩
    have e1 := h.least h2
    have e2 := h'.least h1
    have e : c = b := by omega
    subst e
    congr 1
    refine NF.uniq ok h.tail h'.tail (fun y hy => hw y (List.mem_cons_of_mem _ hy)) (fun y hy => hv y (List.mem_cons_of_mem _ hy)) fun x hx s => ?_
    have e3 : act cr (c :: w) (unit x) = act cr (c :: v) (unit x) := funext (he x hx)
    have e4 := congrArg (thr cr c) e3
    have e5 : thr cr c (thr cr c (act cr w (unit x))) = thr cr c (thr cr c (act cr v (unit x))) := e4
    rw [thr_thr ok, thr_thr ok] at e5
    rw [e5]
end
end Cw
set_option Elab.async false
set_option linter.all false
set_option maxRecDepth 100000
set_option maxHeartbeats 4000000
/-! more operators of classes of one's own: o + text, o[text], o == text -/
namespace PySem.W
open PySem PySem.Calls PyProof.Rows Builtin
section
variable {prog : Program} {w : World} {A : Around} {E : Value → Shared → Prop} {s : Shared} {K : Frag} {x C L f : Addr} {h0 : Heap} {m : Str → Option Value} {ox : Obj} {od : Option Obj}
theorem binop_own {b : Value} {T : String} {Q : Value → Shared → Prop} (F : Fr h0 L s.heap m) (X0 : K.In h0) (I : InstAt s.heap x ox C od) (hb : Looks (model prog w) s.heap (typeOf b) (.type T)) (hno : fillsNumberSlot (.type T) "add" = pure false) (hc : selfFirst K C = true)
    (hs : findIn K (.ref C) (PySem.dunder "add") = some (some (.ref f))) (hf : isFn K (.ref f) = true)
    (h : wpAny (model prog w) A (call (.ref f) [.ref x, b]) (CmpBack Q) E s) : wpAny (model prog w) A (binaryOp .Add (.ref x) b) Q E s := by
  have X := X0.keeps F.keep
  obtain ⟨cd, hcd, hm⟩ := any_some hc
  obtain ⟨rest, hm⟩ : ∃ rest, cd.mro = .ref C :: rest := by
    cases q : cd.mro with
    | nil => rw [q] at hm; cases hm
    | cons a r => rw [q] at hm; exact ⟨r, by rw [List.head?_cons] at hm; cases (beq_iff_eq.mp hm); rfl⟩
  have ne : (Value.ref C == Value.type T) = false := rfl
  unfold binaryOp
  refine wpAny_holding (wpAny_bind ?_)
  unfold binaryOp1
  refine wpAny_bind (I.type.here (wpAny_bind (hb.here (wpAny_bind ((fills_K X hcd hm hs).here ?_)))))
  simp only [ne, Bool.false_eq_true, if_false]
  refine wpAny_bind ?_
  show wpAny (model prog w) A (fillsNumberSlot (.type T) "add") _ _ _
  rw [hno]
  refine wpAny_pure ?_
  simp only [Bool.and_false, Bool.false_eq_true, if_false, Bool.false_and]
  refine wpAny_bind (wpAny_pure ?_)
  simp only [Bool.false_eq_true, if_false, if_true]
  refine wpAny_bind (m := tryMethod (.ref x) _ b) ?_
  unfold tryMethod
  refine wpAny_bind (special_fn X I hs (beq_iff_eq.mp hf) (wpAny_mono h (fun v s' hv => ?_) fun _ _ e => e))
  cases v <;> first | exact hv.elim | exact wpAny_pure (wpAny_pure (wpAny_pure hv))
end
end PySem.W
namespace Cw
open PySem PySem.Spec L2
theorem MAt.fnIn {K : PySem.W.Frag} {C : Addr} {m qual : Str} {st : Stmt} (F : MAt K C m qual st) : ∀ f, PySem.W.findIn K (.ref C) m = some (some (.ref f)) → PySem.W.fnIn K f = true := by
  obtain ⟨f, fd, a, _, G⟩ := F.ex
  obtain ⟨oc, od, kV, doc, pm, an, cdv, ct, osl, rfl, lk, _⟩ := G.ex
  intro f' e
  rw [a] at e
  injection e with e
  injection e with e
  injection e with e
  subst e
  unfold PySem.W.fnIn
  rw [lk]
section
variable {X : Cx} {CX : CXT} {k : Nat} {C : Addr} {m : Str} {ps : List Str} {sp : Sp} {E : XK}
/-- o op text, by the class's own method -/
def rMS (C : Addr) (sp : Sp) (E : XK) : R2 := fun x y H Q => ∃ a dx fs z, x = .ref a ∧ y = .str z ∧ H a = some (.ins C dx fs) ∧ sp [.ref a, .str z] H Q E
theorem op_addM (D : MDef X.prog X.w X.K X.mg X.base CX k C "__add__" ps sp) (hc : PySem.W.selfFirst X.K C = true) (hr : Room k X.A) (hx : Passes CX X E) : OpR X (binaryOp .Add) (rMS C sp E) := by
  obtain ⟨f, fd, h1, h2, kp, ⟨hb, _⟩, F⟩ := D.ex
  intro pins s σ H x y v u Q I rx ry h
  obtain ⟨a, dx, fs, z, rfl, rfl, ha, hq⟩ := h
  cases rx
  obtain ⟨t, rfl⟩ := ry
  obtain ⟨mA, J, _⟩ := ins_get I.hok ha
  obtain ⟨od, J, _⟩ := J.look
  obtain ⟨mm, hF⟩ := I.fr
  refine PySem.W.binop_own (T := "str") hF I.ok.mod.kin J .now PyProof.Rows.noFill_str_add hc h1 h2 ?_
  have z := run_fn (us := [.ref a, .str z t]) (vs := [.ref a, .str z]) (dvs := []) F hr hb .nil hx I (.cons rfl (.cons ⟨t, rfl⟩ .nil)) hq
  refine wpAny_mono z (fun v s' q => ?_) fun _ _ q => q
  obtain ⟨y, H', I', r, q⟩ := q
  have k : EP X pins σ Q v s' := ⟨y, H', I', r, q⟩
  cases v <;> first | exact k | (exfalso; cases y <;> first | (obtain ⟨_, r⟩ := r; cases r) | cases r)
/-- o == text -/
theorem op_eqMS (D : MDef X.prog X.w X.K X.mg X.base CX k C "__eq__" ps sp) (hn : PySem.W.notFirst X.K C (.type "str") = true) (hr : Room k X.A) (hx : Passes CX X E) : OpR X (compareOp .Eq) (rMS C sp E) := by
  obtain ⟨f, fd, h1, h2, kp, ⟨hb, _⟩, F⟩ := D.ex
  intro pins s σ H x y v u Q I rx ry h
  obtain ⟨a, dx, fs, z, rfl, rfl, ha, hq⟩ := h
  cases rx
  obtain ⟨t, rfl⟩ := ry
  obtain ⟨mA, J, _⟩ := ins_get I.hok ha
  obtain ⟨od, J, _⟩ := J.look
  obtain ⟨mm, hF⟩ := I.fr
  show wpAny (model X.prog X.w) X.A (richCompare .Eq _ _) _ _ _
  refine PySem.W.cmp_K (op := .Eq) (tb := .type "str") hr.units0 hF I.ok.mod.kin J .now hn h1 h2 ?_
  have z := run_fn (us := [.ref a, .str z t]) (vs := [.ref a, .str z]) (dvs := []) F hr hb .nil hx I (.cons rfl (.cons ⟨t, rfl⟩ .nil)) hq
  refine wpAny_mono z (fun v s' q => ?_) fun _ _ q => q
  obtain ⟨y, H', I', r, q⟩ := q
  have k : EP X pins σ Q v s' := ⟨y, H', I', r, q⟩
  cases v <;> first | exact k | (exfalso; cases y <;> first | (obtain ⟨_, r⟩ := r; cases r) | cases r)
/-- o[text] -/
theorem pe_ixM {a b : Expr} {ta tb : TE} {pos : PySem.Pos} (D : MDef X.prog X.w X.K X.mg X.base CX k C "__getitem__" ps sp) (hi : ∀ f, PySem.W.findIn X.K (.ref C) "__getitem__" = some (some (.ref f)) → PySem.W.fnIn X.K f = true) (hr : Room (k + 1) X.A) (hx : Passes CX X E) (ha : PE X a ta) (hb : PE X b tb)
    (hs : ∀ o i, subscripted b true o i = runValue (.builtin "lifetime.subscript" ⟨[o, i], []⟩) := by intro o i; with_unfolding_all rfl) : PE X (.Subscript a b pos) (tOp (rMS C sp E) ta tb) := by
  obtain ⟨f, fd, h1, h2, kp, ⟨hbd, _⟩, F⟩ := D.ex
  refine ⟨fun pins s σ H Q I h => ?_⟩
  refine PyProof.Rows.Subscript_ (binT ha hb I h fun v u s2 x y H2 I2 rx ry q => ?_)
  obtain ⟨a', dx, fs, z, rfl, rfl, ha', hq⟩ := q
  cases rx
  obtain ⟨t, rfl⟩ := ry
  obtain ⟨mA, J, _⟩ := ins_get I2.hok ha'
  obtain ⟨od, J, _⟩ := J.look
  obtain ⟨mm, hF⟩ := I2.fr
  refine PySem.W.sub_K hF I2.ok.mod.kin J h1 (hi f h1) h2 ?_ (hs _ _)
  have hl := F.len _ _ _ _ hq
  have r2 : Vals [V.ref a', V.str z] [Value.ref a', Value.str z t] := .cons rfl (.cons ⟨t, rfl⟩ .nil)
  refine wpAny_call (codeAny_mono (F.run X.A.in1 X.stack s2 H2 ⟨[.ref a', .str z t], []⟩ [.ref a', .str z t] [.ref a', .str z] _ E hr.in1 I2.env0.in1 (by
    have := hbd s2 [.ref a', .str z t] I2.kIn (by simpa using hl)
    simpa using this) r2 hq) fun r s' hq => ?_)
  cases r with
  | error e => exact hx pins σ H2 s2 e s' I2 hq
  | ok fl =>
    cases fl with
    | ret w => exact I2.after hq
    | next => exact False.elim hq
    | brk => exact False.elim hq
    | cont => exact False.elim hq
end
section
variable {σ : St} {H : Hp} {Q : VK} {K : PySem.W.Frag}
theorem v_MS {C : Addr} {sp : Sp} {E : XK} {a dx : Addr} {fs : List (Str × V)} {z : Str} (h : H a = some (.ins C dx fs)) (q : sp [.ref a, .str z] H Q E) : rMS C sp E (.ref a) (.str z) H Q := ⟨a, dx, fs, z, rfl, rfl, h, q⟩
end
end Cw
set_option Elab.async false
set_option linter.all false
set_option maxRecDepth 100000
set_option maxHeartbeats 4000000
/-! tables of vectors -/
namespace Cw
open PySem PySem.Spec L2
def marksKV (ls : List Nat) (A : Nat → Addr) : List (Key × V) := ls.map fun c => ((Sum.inr (tx [c]) : Key), V.ref (A c))
def vecV (ls : List Nat) (v : Nat → Int) : List V := ls.map fun x => V.int (v x)
structure MarksAt (H : Hp) (m : Addr) (ls : List Nat) (M : Nat → Nat → Int) : Prop where
  ex : ∃ A : Nat → Addr, H m = some (.dK (marksKV ls A)) ∧ ∀ c ∈ ls, H (A c) = some (.tup (vecV ls (M c)))
theorem MarksAt.same {H H' : Hp} {m : Addr} {ls : List Nat} {M : Nat → Nat → Int} (h : MarksAt H m ls M) (s : Same H H') : MarksAt H' m ls M := by
  obtain ⟨A, a, b⟩ := h.ex
  exact ⟨A, s _ _ a, fun c hc => s _ _ (b c hc)⟩
theorem MarksAt.congr {H : Hp} {m : Addr} {ls : List Nat} {M M' : Nat → Nat → Int} (h : MarksAt H m ls M) (e : ∀ c ∈ ls, ∀ x ∈ ls, M c x = M' c x) : MarksAt H m ls M' := by
  obtain ⟨A, a, b⟩ := h.ex
  refine ⟨A, a, fun c hc => ?_⟩
  rw [b c hc]
  congr 2
  exact List.map_congr_left fun x hx => by rw [e c hc x hx]
theorem marks_get {H : Hp} {d : Addr} {ls : List Nat} {A : Nat → Addr} {k : Nat} (h : H d = some (.dK (marksKV ls A))) (hk : k ∈ ls) : DGet H d (.str (tx [k])) (some (.ref (A k))) := dget_let (g := fun c => V.ref (A c)) h hk
theorem marks_getF {H : Hp} {d : Addr} {o : Obj} {ls : List Nat} {A : Nat → Addr} {k : Nat} (h : H d = some (.frz o (.dK (marksKV ls A)))) (hk : k ∈ ls) : DGet H d (.str (tx [k])) (some (.ref (A k))) :=
  .inl ⟨_, Sum.inr (tx [k]), .inr ⟨o, h⟩, rfl, (letV_some (g := fun c => V.ref (A c)) hk).symm⟩
theorem marks_new {H : Hp} {d p : Addr} {l : List Nat} {A : Nat → Addr} {k : Nat} (h : H d = some (.dK (marksKV l A))) (hk : ¬ k ∈ l) (hl : l.length < 1000000) : DPut H d (.str (tx [k])) (.ref p) (upd H d (.dK (marksKV (l ++ [k]) (fun c => if c = k then p else A c)))) := by
  have e := DPut.cross (l := [k]) (v := V.ref p) h (letV_none (g := fun c => V.ref (A c)) hk) (by unfold marksKV; rw [List.length_map]; exact hl)
  have e2 : marksKV (l ++ [k]) (fun c => if c = k then p else A c) = marksKV l A ++ [((Sum.inr (tx [k]) : Key), V.ref p)] := by
    unfold marksKV
    rw [List.map_append]
    congr 1
    · refine List.map_congr_left fun c hc => ?_
      show (_, V.ref (if c = k then p else A c)) = _
      rw [if_neg (fun z : c = k => hk (z ▸ hc))]
    · show [((Sum.inr (tx [k]) : Key), V.ref (if k = k then p else A k))] = _
      rw [if_pos rfl]
  rw [e2]
  exact e
theorem marksKV_len (ls : List Nat) (A : Nat → Addr) : (marksKV ls A).length = ls.length := by unfold marksKV; rw [List.length_map]
theorem tabKV_len (ls : List Nat) (f : Nat → List Nat) : (tabKV ls f).length = ls.length := by unfold tabKV; rw [List.length_map]
theorem vecV_len (ls : List Nat) (v : Nat → Int) : (vecV ls v).length = ls.length := by unfold vecV; rw [List.length_map]
/-- the keys of a table by letters -/
theorem walk_let {d : Addr} {o : Obj} {ls : List Nat} {g : Nat → V} : Walk (Itk d o (ls.map fun c => ((Sum.inr (tx [c]) : Key), g c))) ls.length (fun H => H d = some (.frz o (.dK (ls.map fun c => ((Sum.inr (tx [c]) : Key), g c))))) (YFn fun k => .str (tx [ls.getD k 0])) := by
  have w := walk_keys (d := d) (o := o) (kvs := ls.map fun c => ((Sum.inr (tx [c]) : Key), g c))
  rw [List.length_map] at w
  refine w.mono (fun _ z => z) fun i H x H' hi _ y => ?_
  obtain ⟨rfl, kk, vv, hkv, rfl⟩ := y
  refine ⟨rfl, ?_⟩
  rw [List.getElem?_map, List.getElem?_eq_getElem hi] at hkv
  injection hkv with hkv
  injection hkv with a b
  show _ = V.str (tx [ls.getD i 0])
  rw [← a, List.getD_eq_getElem?_getD, List.getElem?_eq_getElem hi]
  rfl
section
variable {K : PySem.W.Frag} {a : Addr} {ls : List Nat} {f : Nat → V}
theorem yat_map {i : Nat} {H H' : Hp} {x : V} (hi : i < ls.length) (y : YAt (ls.map f) i H x H') : YFn (fun k => f (ls.getD k 0)) i H x H' := by
  obtain ⟨rfl, e⟩ := y
  refine ⟨rfl, ?_⟩
  rw [List.getElem?_map, List.getElem?_eq_getElem hi] at e
  injection e with e
  show _ = f (ls.getD i 0)
  rw [List.getD_eq_getElem?_getD, List.getElem?_eq_getElem hi]
  exact e.symm
theorem walk_listM : Walk (Itl K a) ls.length (fun H => SqL K H a (ls.map f)) (YFn fun k => f (ls.getD k 0)) := by
  have w := walk_list (K := K) (a := a) (xs := ls.map f)
  rw [List.length_map] at w
  exact w.mono (fun _ z => z) fun i H x H' hi _ y => yat_map hi y
theorem walk_tupM : Walk (Itt K a) ls.length (fun H => SqT K H a (ls.map f)) (YFn fun k => f (ls.getD k 0)) := by
  have w := walk_tup (K := K) (a := a) (xs := ls.map f)
  rw [List.length_map] at w
  exact w.mono (fun _ z => z) fun i H x H' hi _ y => yat_map hi y
end
section
variable {σ : St} {H : Hp} {Q : VK} {te : TE} {K : PySem.W.Frag}
theorem e_iT {R : It → Hp → Prop} (q : te σ H fun x H1 => ∃ a, x = .ref a ∧ (∃ xs, SqT K H1 a xs) ∧ R (Itt K a) H1) : iTup K te σ H R := q
theorem v_iT {P : Addr → Prop} {a : Addr} {xs : List V} (h : H a = some (.tup xs)) (q : P a) : ∃ a', V.ref a = .ref a' ∧ (∃ xs, SqT K H a' xs) ∧ P a' := ⟨a, rfl, ⟨xs, SqT.of h⟩, q⟩
theorem v_lenT {p : Addr} {ys : List V} (h : H p = some (.tup ys)) (q : Q (.int ys.length) H) : rLen K [.ref p] H Q := ⟨p, ys, rfl, .inr (SqT.of h), q⟩
theorem v_ixT {p : Addr} {xs : List V} {a : Int} {v : V} (h : H p = some (.tup xs)) (c : atI xs a = some v) (q : Q v H) : rIxT K (.ref p) (.int a) H Q := ⟨p, xs, a, v, rfl, rfl, SqT.of h, c, q⟩
theorem at_vec {ls : List Nat} {v : Nat → Int} {i : Nat} (h : i < ls.length) : atI (vecV ls v) ((i : Nat) : Int) = some (V.int (v (ls.getD i 0))) := by
  refine atI_nat ?_
  unfold vecV
  rw [List.getElem?_map, List.getElem?_eq_getElem h, List.getD_eq_getElem?_getD, List.getElem?_eq_getElem h]
  rfl
theorem vals_all {σ : St} {i : Nat} {tt : TT} {te : TE} {P : Addr → Hp → Prop} {J : It} {G : Hp → Prop} {ls : List Nat} {it f : Nat → V} (w : Walk J ls.length G (YFn fun k => it (ls.getD k 0))) (hG : ∀ H', Same H H' → G H') (hn : ls.length ≤ 1000000)
    (ht : ∀ c ∈ ls, ∀ H1, Same H H1 → ∀ R : Bool → Hp → Prop, (∀ H2, Same H1 H2 → R true H2) → tt ((wipe σ [i]).set i (some (it c))) H1 R)
    (he : ∀ c ∈ ls, ∀ H1, Same H H1 → ∀ R : VK, (∀ H2, Same H1 H2 → R (f c) H2) → te ((wipe σ [i]).set i (some (it c))) H1 R)
    (q : ∀ D H', H D = none → Same H H' → H' D = some (.lst (ls.map f)) → P D H') :
    ∀ D, H D = none → ∃ W : Nat → Nat → Hp → Prop, (∃ m, W 0 m (upd H D (.lst []))) ∧ ∀ k m H, W k m H →
      (J.stop k H ∧ P D H) ∨ (J.go k H ∧ ∃ Nx : Hp → Prop, (∀ H', Nx H' → ∃ m', m' < m ∧ W (k + 1) m' H') ∧ ∀ x H', J.yld k H x H' → (gName i) x (wipe σ [i]) H' fun s2 H2 => wipe s2 [i] = wipe σ [i] ∧ tt s2 H2 fun c H3 =>
        if c = true then te s2 H3 fun y H4 => ∃ acc, H4 D = some (.lst acc) ∧ acc.length < sizeLine ∧ Nx (upd H4 D (.lst (acc ++ [y]))) else Nx H3) := by
  refine lc_gen (b := fun _ => true) (f := fun k => f (ls.getD k 0)) w hG hn (fun k hk H1 s1 R r => ht _ (getD_mem hk) H1 s1 R r) (fun k hk c H1 s1 R r => he _ (getD_mem hk) H1 s1 R r) (fun D H' hD s' e => q D H' hD s' ?_)
  rw [e, range_map ls (fun _ => true) f, List.filter_eq_self.mpr (fun _ _ => rfl)]
theorem vals_some {σ : St} {i : Nat} {tt : TT} {te : TE} {P : Addr → Hp → Prop} {J : It} {G : Hp → Prop} {ls : List Nat} {it f : Nat → V} {b : Nat → Bool} (w : Walk J ls.length G (YFn fun k => it (ls.getD k 0))) (hG : ∀ H', Same H H' → G H') (hn : ls.length ≤ 1000000)
    (ht : ∀ c ∈ ls, ∀ H1, Same H H1 → ∀ R : Bool → Hp → Prop, (∀ H2, Same H1 H2 → R (b c) H2) → tt ((wipe σ [i]).set i (some (it c))) H1 R)
    (he : ∀ c ∈ ls, b c = true → ∀ H1, Same H H1 → ∀ R : VK, (∀ H2, Same H1 H2 → R (f c) H2) → te ((wipe σ [i]).set i (some (it c))) H1 R)
    (q : ∀ D H', H D = none → Same H H' → H' D = some (.lst ((ls.filter b).map f)) → P D H') :
    ∀ D, H D = none → ∃ W : Nat → Nat → Hp → Prop, (∃ m, W 0 m (upd H D (.lst []))) ∧ ∀ k m H, W k m H →
      (J.stop k H ∧ P D H) ∨ (J.go k H ∧ ∃ Nx : Hp → Prop, (∀ H', Nx H' → ∃ m', m' < m ∧ W (k + 1) m' H') ∧ ∀ x H', J.yld k H x H' → (gName i) x (wipe σ [i]) H' fun s2 H2 => wipe s2 [i] = wipe σ [i] ∧ tt s2 H2 fun c H3 =>
        if c = true then te s2 H3 fun y H4 => ∃ acc, H4 D = some (.lst acc) ∧ acc.length < sizeLine ∧ Nx (upd H4 D (.lst (acc ++ [y]))) else Nx H3) := by
  refine lc_gen (b := fun k => b (ls.getD k 0)) (f := fun k => f (ls.getD k 0)) w hG hn (fun k hk H1 s1 R r => ht _ (getD_mem hk) H1 s1 R r) (fun k hk c H1 s1 R r => he _ (getD_mem hk) c H1 s1 R r) (fun D H' hD s' e => q D H' hD s' ?_)
  rw [e, range_map ls b f]
end
theorem cr_minK {X : Cx} {K : PySem.W.Frag} (h : X.K = K) (hc : X.calm = true) : CallR X (.builtin "min") (rMin K) := h ▸ cr_min hc
/-- the scope of a comprehension: its own names, the names of the module and those of the def -/
def lcSc (loc glo fre : List String) : Scope := { kind := .function, names := (loc.map fun x => (Str.ofString x, NameKind.local)) ++ (glo.map fun x => (Str.ofString x, NameKind.globalImplicit)) ++ (fre.map fun x => (Str.ofString x, NameKind.cell)), isGenerator := false, isCoroutine := false }
end Cw
namespace Cw
open PySem PySem.Spec L2
/-- [.. for i in range(len(ls))] -/
theorem vals_rng {σ : St} {H : Hp} {i : Nat} {tt : TT} {te : TE} {P : Addr → Hp → Prop} {ls : List Nat} {f : Nat → V} (hn : ls.length ≤ 1000000)
    (ht : ∀ j, j < ls.length → ∀ H1, Same H H1 → ∀ R : Bool → Hp → Prop, (∀ H2, Same H1 H2 → R true H2) → tt ((wipe σ [i]).set i (some (.int (j : Nat)))) H1 R)
    (he : ∀ j, j < ls.length → ∀ H1, Same H H1 → ∀ R : VK, (∀ H2, Same H1 H2 → R (f (ls.getD j 0)) H2) → te ((wipe σ [i]).set i (some (.int (j : Nat)))) H1 R)
    (q : ∀ D H', H D = none → Same H H' → H' D = some (.lst (ls.map f)) → P D H') :
    ∀ D, H D = none → ∃ W : Nat → Nat → Hp → Prop, (∃ m, W 0 m (upd H D (.lst []))) ∧ ∀ k m H, W k m H →
      ((Itr 0 ((ls.length : Nat) : Int).toNat).stop k H ∧ P D H) ∨ ((Itr 0 ((ls.length : Nat) : Int).toNat).go k H ∧ ∃ Nx : Hp → Prop, (∀ H', Nx H' → ∃ m', m' < m ∧ W (k + 1) m' H') ∧ ∀ x H', (Itr 0 ((ls.length : Nat) : Int).toNat).yld k H x H' → (gName i) x (wipe σ [i]) H' fun s2 H2 => wipe s2 [i] = wipe σ [i] ∧ tt s2 H2 fun c H3 =>
        if c = true then te s2 H3 fun y H4 => ∃ acc, H4 D = some (.lst acc) ∧ acc.length < sizeLine ∧ Nx (upd H4 D (.lst (acc ++ [y]))) else Nx H3) := by
  rw [Int.toNat_natCast]
  refine lc_gen (b := fun _ => true) (f := fun k => f (ls.getD k 0)) (it := fun k => .int ((k : Nat) : Int)) (walk_rI (fun k => ((k : Nat) : Int)) (fun k => Int.zero_add _)) (fun _ _ => trivial) hn (fun k hk H1 s1 R r => ht k hk H1 s1 R r) (fun k hk c H1 s1 R r => he k hk H1 s1 R r) (fun D H' hD s' e => q D H' hD s' ?_)
  rw [e, range_map ls (fun _ => true) f, List.filter_eq_self.mpr (fun _ _ => rfl)]
end Cw
set_option Elab.async false
set_option linter.all false
set_option maxRecDepth 100000
set_option maxHeartbeats 4000000
namespace Cw
open PySem PySem.Spec L2
local macro_rules | `(tactic| walk_at "side") => `(tactic| first | omega | assumption | (dsimp only; omega) | (unfold CMul; omega) | exact ⟨by decide, by decide, by decide⟩ | exact wdiv (by first | assumption | decide | omega) (by first | assumption | decide | omega) | (simp only [List.length_cons, List.length_nil]; omega) | rfl)
local macro_rules | `(tactic| walk_at "hl") => `(tactic| first | assumption | exact upd_same | ((refine Cw.Same.at (by assumption) ?_); walk_at "hl") | ((refine Cw.Keep.at (by assumption) ?_ (by assumption)); walk_at "hl"))
local macro_rules | `(tactic| walk_at "st") => `(tactic| first
  | (with_reducible refine s_seq ?_) | (with_reducible refine g_nm ?_) | (with_reducible refine s_next ?_) | (with_reducible refine s_set ?_) | (with_reducible refine s_drop ?_) | (with_reducible refine s_ret ?_) | (with_reducible refine s_if ?_)
  | ((with_reducible refine e_varG ?_); refine ⟨_, (by with_unfolding_all rfl), ?_⟩) | (with_reducible refine e_c ?_) | (with_reducible refine e_op ?_) | (with_reducible refine e_un ?_)
  | (with_reducible refine e_cons ?_) | (with_reducible refine e_nil ?_) | (with_reducible refine e_cb ?_) | (with_reducible refine e_call ?_) | (with_reducible refine e_md ?_)
  | (with_reducible refine t_test ?_) | (with_reducible refine t_B ?_) | (with_reducible refine t_and ?_) | (with_reducible refine t_or ?_) | (with_reducible refine t_not ?_)
  | (with_reducible refine e_andV ?_) | (with_reducible refine e_orV ?_) | (with_reducible refine e_notV ?_) | (with_reducible refine e_if ?_)
  | (with_reducible refine v_I0 ?_) | ((with_reducible refine v_I ?c ?_); try (case c => walk_at "side")) | (with_reducible refine v_bl ?_)
  | ((with_reducible refine v_eq ?c ?_); (case c => with_unfolding_all rfl)) | ((with_reducible refine v_ne ?c ?_); (case c => with_unfolding_all rfl))
  | (with_reducible refine v_inti ?_) | (with_reducible refine v_intb ?_) | ((with_reducible refine v_lenG ?_); refine ⟨_, (by walk_at "hl"), ?_⟩)
  | ((with_reducible refine v_lenS ?c ?_); try (case c => walk_at "side"))
  | (with_reducible refine e_dnew ?_) | (with_reducible refine e_dget ?_) | (with_reducible refine s_dput ?_) | (with_reducible refine e_lst ?_) | (with_reducible refine e_tup ?_)
  | ((with_reducible refine v_lst ?c ?_); (case c => walk_at "side")) | ((with_reducible refine v_tup ?c ?_); (case c => walk_at "side"))
  | ((with_reducible refine v_dgetG ?_); refine ⟨_, (by assumption), ?_⟩)
  | (with_reducible refine e_sl ?_) | (with_reducible refine e_nopart ?_) | (with_reducible refine e_part ?_) | (with_reducible refine e_m1 ?_) | (with_reducible refine v_isS ?_) | (with_reducible refine v_int ?_)
  | (with_reducible refine e_lc ?_) | (with_reducible refine e_iStr ?_) | (with_reducible refine e_iEnumS ?_) | (with_reducible refine v_iEnumS ?_) | (with_reducible refine v_str ?_) | (with_reducible refine e_yes ?_) | (with_reducible refine e_fld ?_) | (with_reducible refine e_sfld ?_)
  | ((with_reducible refine v_addS ?c ?_); try (case c => walk_at "side")) | (with_reducible refine v_inS ?_) | (with_reducible refine v_notInS ?_) | (with_reducible refine v_ltS ?_)
  | ((with_reducible refine v_inLG ?_); refine ⟨_, (by walk_at "hl"), ?_⟩) | (with_reducible refine v_isiS ?_) | (with_reducible refine e_revS ?_) | ((with_reducible refine v_revS ?c ?_); try (case c => walk_at "side"))
  | ((with_reducible refine v_lenSetG ?_); refine ⟨_, (by walk_at "hl"), ?_⟩)
  | (with_reducible refine e_bm ?_) | (with_reducible refine e_bm0 ?_) | ((with_reducible refine v_tyLG ?_); refine ⟨_, (by walk_at "hl"), ?_⟩)
  | (with_reducible refine iteNT ?_) | (with_reducible refine iteNF ?_) | (with_reducible refine e_for ?_)
  | (with_reducible refine e_iL ?_) | (with_reducible refine e_iT ?_) | ((with_reducible refine v_iLG ?_); refine ⟨_, (by walk_at "hl"), ?_⟩) | (with_reducible refine e_iR1 ?_) | ((with_reducible refine v_iR1 ?c1 ?c2 ?_); try (case c1 => walk_at "side"); try (case c2 => walk_at "side"))
  | (with_reducible refine e_iR2 ?_) | ((with_reducible refine v_iR2 ?c1 ?_); try (case c1 => walk_at "side"))
  | (with_reducible refine e_pr0 ?_) | (with_reducible refine e_pr ?_) | (with_reducible refine e_disp ?_) | (with_reducible refine s_asgT ?_) | (with_reducible refine e_tryA ?_) | (with_reducible refine e_callS ?_) | (with_reducible refine e_mdS ?_) | (with_reducible refine e_par ?_) | (with_reducible refine v_par ?_) | (with_reducible refine e_par3 ?_) | (with_reducible refine v_par3 ?_) | (with_reducible refine e_iK ?_) | (with_reducible refine e_dnotin ?_)
  | (with_reducible refine iteT ?_) | (with_reducible refine iteF ?_))
local macro_rules | `(tactic| walk_at "go") => `(tactic| repeat walk_at "st")
structure TxtV (K : PySem.W.Frag) (mg : Str → Option Value) : Prop extends TxtH K mg where
  tuple : mg "tuple" = none
  min : mg "min" = none
  dict : mg "dict" = none
def spUnits : Sp := fun vs H Q _ => ∃ (d : Addr) (ls : List Nat) (f : Nat → List Nat), vs = [.ref d] ∧ H d = some (.dK (tabKV ls f)) ∧ Tab ls f ∧ ∀ m H', H m = none → MarksAt H' m ls (fun c x => unit x c) → Same H H' → Q (.ref m) H'
def spThrough : Sp := fun vs H Q _ => ∃ (d m : Addr) (ls : List Nat) (f : Nat → List Nat) (M : Nat → Nat → Int) (k : Nat), vs = [.ref d, .ref m, .str (tx [k])] ∧ H d = some (.dK (tabKV ls f)) ∧ Tab ls f ∧ k ∈ ls ∧ MarksAt H m ls M ∧
  ∀ m' H', H m' = none → MarksAt H' m' ls (fun c x => thr f k (fun e => M e x) c) → Same H H' → Q (.ref m') H'
section
variable {P : Program} {w : World} {K : PySem.W.Frag} {mg : Str → Option Value} {base : Heap}
end
end Cw
set_option Elab.async false
set_option linter.all false
set_option maxRecDepth 100000
set_option maxHeartbeats 4000000
namespace Cw
open PySem PySem.Spec L2
local macro_rules | `(tactic| walk_at "side") => `(tactic| first | omega | assumption | (dsimp only; omega) | (unfold CMul; omega) | exact ⟨by decide, by decide, by decide⟩ | exact wdiv (by first | assumption | decide | omega) (by first | assumption | decide | omega) | (simp only [List.length_cons, List.length_nil]; omega) | rfl)
local macro_rules | `(tactic| walk_at "hl") => `(tactic| first | assumption | exact upd_same | ((refine Cw.Same.at (by assumption) ?_); walk_at "hl") | ((refine Cw.Keep.at (by assumption) ?_ (by assumption)); walk_at "hl"))
local macro_rules | `(tactic| walk_at "st") => `(tactic| first
  | (with_reducible refine s_seq ?_) | (with_reducible refine g_nm ?_) | (with_reducible refine s_next ?_) | (with_reducible refine s_set ?_) | (with_reducible refine s_drop ?_) | (with_reducible refine s_ret ?_) | (with_reducible refine s_if ?_)
  | ((with_reducible refine e_varG ?_); refine ⟨_, (by with_unfolding_all rfl), ?_⟩) | (with_reducible refine e_c ?_) | (with_reducible refine e_op ?_) | (with_reducible refine e_un ?_)
  | (with_reducible refine e_cons ?_) | (with_reducible refine e_nil ?_) | (with_reducible refine e_cb ?_) | (with_reducible refine e_call ?_) | (with_reducible refine e_md ?_)
  | (with_reducible refine t_test ?_) | (with_reducible refine t_B ?_) | (with_reducible refine t_and ?_) | (with_reducible refine t_or ?_) | (with_reducible refine t_not ?_)
  | (with_reducible refine e_andV ?_) | (with_reducible refine e_orV ?_) | (with_reducible refine e_notV ?_) | (with_reducible refine e_if ?_)
  | (with_reducible refine v_I0 ?_) | ((with_reducible refine v_I ?c ?_); try (case c => walk_at "side")) | (with_reducible refine v_bl ?_)
  | ((with_reducible refine v_eq ?c ?_); (case c => with_unfolding_all rfl)) | ((with_reducible refine v_ne ?c ?_); (case c => with_unfolding_all rfl))
  | (with_reducible refine v_inti ?_) | (with_reducible refine v_intb ?_) | ((with_reducible refine v_lenG ?_); refine ⟨_, (by walk_at "hl"), ?_⟩)
  | ((with_reducible refine v_lenS ?c ?_); try (case c => walk_at "side"))
  | (with_reducible refine e_dnew ?_) | (with_reducible refine e_dget ?_) | (with_reducible refine s_dput ?_) | (with_reducible refine e_lst ?_) | (with_reducible refine e_tup ?_)
  | ((with_reducible refine v_lst ?c ?_); (case c => walk_at "side")) | ((with_reducible refine v_tup ?c ?_); (case c => walk_at "side"))
  | ((with_reducible refine v_dgetG ?_); refine ⟨_, (by assumption), ?_⟩)
  | (with_reducible refine e_sl ?_) | (with_reducible refine e_nopart ?_) | (with_reducible refine e_part ?_) | (with_reducible refine e_m1 ?_) | (with_reducible refine v_isS ?_) | (with_reducible refine v_int ?_)
  | (with_reducible refine e_lc ?_) | (with_reducible refine e_iStr ?_) | (with_reducible refine e_iEnumS ?_) | (with_reducible refine v_iEnumS ?_) | (with_reducible refine v_str ?_) | (with_reducible refine e_yes ?_) | (with_reducible refine e_fld ?_) | (with_reducible refine e_sfld ?_)
  | ((with_reducible refine v_addS ?c ?_); try (case c => walk_at "side")) | (with_reducible refine v_inS ?_) | (with_reducible refine v_notInS ?_) | (with_reducible refine v_ltS ?_)
  | ((with_reducible refine v_inLG ?_); refine ⟨_, (by walk_at "hl"), ?_⟩) | (with_reducible refine v_isiS ?_) | (with_reducible refine e_revS ?_) | ((with_reducible refine v_revS ?c ?_); try (case c => walk_at "side"))
  | ((with_reducible refine v_lenSetG ?_); refine ⟨_, (by walk_at "hl"), ?_⟩)
  | (with_reducible refine e_bm ?_) | (with_reducible refine e_bm0 ?_) | ((with_reducible refine v_tyLG ?_); refine ⟨_, (by walk_at "hl"), ?_⟩)
  | (with_reducible refine iteNT ?_) | (with_reducible refine iteNF ?_) | (with_reducible refine e_for ?_)
  | (with_reducible refine e_iL ?_) | (with_reducible refine e_iT ?_) | ((with_reducible refine v_iLG ?_); refine ⟨_, (by walk_at "hl"), ?_⟩) | (with_reducible refine e_iR1 ?_) | ((with_reducible refine v_iR1 ?c1 ?c2 ?_); try (case c1 => walk_at "side"); try (case c2 => walk_at "side"))
  | (with_reducible refine e_iR2 ?_) | ((with_reducible refine v_iR2 ?c1 ?_); try (case c1 => walk_at "side"))
  | (with_reducible refine e_pr0 ?_) | (with_reducible refine e_pr ?_) | (with_reducible refine e_disp ?_) | (with_reducible refine s_asgT ?_) | (with_reducible refine e_tryA ?_) | (with_reducible refine e_callS ?_) | (with_reducible refine e_mdS ?_) | (with_reducible refine e_par ?_) | (with_reducible refine v_par ?_) | (with_reducible refine e_par3 ?_) | (with_reducible refine v_par3 ?_) | (with_reducible refine e_iK ?_) | (with_reducible refine e_dnotin ?_)
  | (with_reducible refine iteT ?_) | (with_reducible refine iteF ?_))
local macro_rules | `(tactic| walk_at "go") => `(tactic| repeat walk_at "st")
section
variable {P : Program} {w : World} {K : PySem.W.Frag} {mg : Str → Option Value} {base : Heap}
end
end Cw
set_option Elab.async false
set_option linter.all false
set_option maxRecDepth 100000
set_option maxHeartbeats 4000000
namespace Cw
open PySem PySem.Spec L2
local macro_rules | `(tactic| walk_at "side") => `(tactic| first | omega | assumption | (dsimp only; omega) | (unfold CMul; omega) | exact ⟨by decide, by decide, by decide⟩ | exact wdiv (by first | assumption | decide | omega) (by first | assumption | decide | omega) | (simp only [List.length_cons, List.length_nil]; omega) | rfl)
local macro_rules | `(tactic| walk_at "hl") => `(tactic| first | assumption | exact upd_same | ((refine Cw.Same.at (by assumption) ?_); walk_at "hl") | ((refine Cw.Keep.at (by assumption) ?_ (by assumption)); walk_at "hl"))
local macro_rules | `(tactic| walk_at "st") => `(tactic| first
  | (with_reducible refine s_seq ?_) | (with_reducible refine g_nm ?_) | (with_reducible refine s_next ?_) | (with_reducible refine s_set ?_) | (with_reducible refine s_drop ?_) | (with_reducible refine s_ret ?_) | (with_reducible refine s_if ?_)
  | ((with_reducible refine e_varG ?_); refine ⟨_, (by with_unfolding_all rfl), ?_⟩) | (with_reducible refine e_c ?_) | (with_reducible refine e_op ?_) | (with_reducible refine e_un ?_)
  | (with_reducible refine e_cons ?_) | (with_reducible refine e_nil ?_) | (with_reducible refine e_cb ?_) | (with_reducible refine e_call ?_) | (with_reducible refine e_md ?_)
  | (with_reducible refine t_test ?_) | (with_reducible refine t_B ?_) | (with_reducible refine t_and ?_) | (with_reducible refine t_or ?_) | (with_reducible refine t_not ?_)
  | (with_reducible refine e_andV ?_) | (with_reducible refine e_orV ?_) | (with_reducible refine e_notV ?_) | (with_reducible refine e_if ?_)
  | (with_reducible refine v_I0 ?_) | ((with_reducible refine v_I ?c ?_); try (case c => walk_at "side")) | (with_reducible refine v_bl ?_)
  | ((with_reducible refine v_eq ?c ?_); (case c => with_unfolding_all rfl)) | ((with_reducible refine v_ne ?c ?_); (case c => with_unfolding_all rfl))
  | (with_reducible refine v_inti ?_) | (with_reducible refine v_intb ?_) | ((with_reducible refine v_lenG ?_); refine ⟨_, (by walk_at "hl"), ?_⟩)
  | ((with_reducible refine v_lenS ?c ?_); try (case c => walk_at "side"))
  | (with_reducible refine e_dnew ?_) | (with_reducible refine e_dget ?_) | (with_reducible refine s_dput ?_) | (with_reducible refine e_lst ?_) | (with_reducible refine e_tup ?_)
  | ((with_reducible refine v_lst ?c ?_); (case c => walk_at "side")) | ((with_reducible refine v_tup ?c ?_); (case c => walk_at "side"))
  | ((with_reducible refine v_dgetG ?_); refine ⟨_, (by assumption), ?_⟩)
  | (with_reducible refine e_sl ?_) | (with_reducible refine e_nopart ?_) | (with_reducible refine e_part ?_) | (with_reducible refine e_m1 ?_) | (with_reducible refine v_isS ?_) | (with_reducible refine v_int ?_)
  | (with_reducible refine e_lc ?_) | (with_reducible refine e_iStr ?_) | (with_reducible refine e_iEnumS ?_) | (with_reducible refine v_iEnumS ?_) | (with_reducible refine v_str ?_) | (with_reducible refine e_yes ?_) | (with_reducible refine e_fld ?_) | (with_reducible refine e_sfld ?_)
  | ((with_reducible refine v_addS ?c ?_); try (case c => walk_at "side")) | (with_reducible refine v_inS ?_) | (with_reducible refine v_notInS ?_) | (with_reducible refine v_ltS ?_)
  | ((with_reducible refine v_inLG ?_); refine ⟨_, (by walk_at "hl"), ?_⟩) | (with_reducible refine v_isiS ?_) | (with_reducible refine e_revS ?_) | ((with_reducible refine v_revS ?c ?_); try (case c => walk_at "side"))
  | ((with_reducible refine v_lenSetG ?_); refine ⟨_, (by walk_at "hl"), ?_⟩)
  | (with_reducible refine e_bm ?_) | (with_reducible refine e_bm0 ?_) | ((with_reducible refine v_tyLG ?_); refine ⟨_, (by walk_at "hl"), ?_⟩)
  | (with_reducible refine iteNT ?_) | (with_reducible refine iteNF ?_) | (with_reducible refine e_for ?_)
  | (with_reducible refine e_iL ?_) | (with_reducible refine e_iT ?_) | ((with_reducible refine v_iLG ?_); refine ⟨_, (by walk_at "hl"), ?_⟩) | (with_reducible refine e_iR1 ?_) | ((with_reducible refine v_iR1 ?c1 ?c2 ?_); try (case c1 => walk_at "side"); try (case c2 => walk_at "side"))
  | (with_reducible refine e_iR2 ?_) | ((with_reducible refine v_iR2 ?c1 ?_); try (case c1 => walk_at "side"))
  | (with_reducible refine e_pr0 ?_) | (with_reducible refine e_pr ?_) | (with_reducible refine e_disp ?_) | (with_reducible refine s_asgT ?_) | (with_reducible refine e_tryA ?_) | (with_reducible refine e_callS ?_) | (with_reducible refine e_mdS ?_) | (with_reducible refine e_par ?_) | (with_reducible refine v_par ?_) | (with_reducible refine e_par3 ?_) | (with_reducible refine v_par3 ?_) | (with_reducible refine e_iK ?_) | (with_reducible refine e_dnotin ?_)
  | (with_reducible refine iteT ?_) | (with_reducible refine iteF ?_))
local macro_rules | `(tactic| walk_at "go") => `(tactic| repeat walk_at "st")
def spMarks : Sp := fun vs H Q _ => ∃ (d : Addr) (ls : List Nat) (f : Nat → List Nat) (w : List Nat), vs = [.ref d, .str (tx w)] ∧ H d = some (.dK (tabKV ls f)) ∧ Tab ls f ∧ (∀ c ∈ w, c ∈ ls) ∧ ∀ m H', MarksAt H' m ls (fun c x => act f w.reverse (unit x) c) → Same H H' → Q (.ref m) H'
def backs (ls : List Nat) (M : Nat → Nat → Int) : List Nat := ls.filter fun c => decide (∃ x ∈ ls, M c x < 0)
def spBacks : Sp := fun vs H Q _ => ∃ (m : Addr) (ls : List Nat) (M : Nat → Nat → Int), vs = [.ref m] ∧ MarksAt H m ls M ∧ ls.length ≤ 8 ∧ 
  ∀ l H', H' l = some (.lst ((backs ls M).map fun c => V.str (tx [c]))) → Same H H' → Q (.ref l) H'
def spName : Sp := fun vs H Q _ => ∃ (d : Addr) (ls : List Nat) (f : Nat → List Nat) (w : List Nat), vs = [.ref d, .str (tx w)] ∧ H d = some (.dK (tabKV ls f)) ∧ Tab ls f ∧ CrOk f ∧ ls.Pairwise (· < ·) ∧ (∀ c ∈ w, c ∈ ls) ∧ w.length ≤ 10000 ∧ ∀ H', Same H H' → Q (.str (tx (joinC f [] w))) H'
theorem joinC_mem {cr : Nat → List Nat} {c : Nat} : ∀ {way name : List Nat}, c ∈ joinC cr name way → c ∈ name ∨ c ∈ way
  | [], name, h => .inl h
  | k :: r, name, h => by
    rcases joinC_mem (way := r) (name := stepOf (cr k) name k) h with z | z
    · rcases stepOf_mem z with e | e
      · exact .inr (e ▸ List.mem_cons_self ..)
      · exact .inl e
    · exact .inr (List.mem_cons_of_mem _ z)
theorem joinC_len (cr : Nat → List Nat) : ∀ (way name : List Nat), (joinC cr name way).length ≤ name.length + way.length
  | [], name => Nat.le_refl _
  | k :: r, name => by
    show (joinC cr (stepOf (cr k) name k) r).length ≤ _
    have := joinC_len cr r (stepOf (cr k) name k)
    have := stepOf_len (cr k) name k
    rw [List.length_cons]
    omega
/-- the backs of a name's marks: empty for home, else its first letter first -/
theorem backs_nil {f : Nat → List Nat} {ls : List Nat} (ok : CrOk f) : backs ls (fun c x => act f [] (unit x) c) = [] := by
  unfold backs
  rw [List.filter_eq_nil_iff]
  intro c hc h
  have := (mark_neg (ls := ls) ok (w := []) trivial (fun _ z => nomatch z) hc).mp (of_decide_eq_true h)
  exact this
theorem backs_cons {f : Nat → List Nat} {ls : List Nat} (ok : CrOk f) (asc : ls.Pairwise (· < ·)) {c : Nat} {r : List Nat} (h : NF f (c :: r)) (hw : ∀ y ∈ c :: r, y ∈ ls) : ∃ t, backs ls (fun e x => act f (c :: r) (unit x) e) = c :: t := by
  have mem : ∀ s, s ∈ backs ls (fun e x => act f (c :: r) (unit x) e) → c ≤ s := fun s hs => by
    obtain ⟨h1, h2⟩ := List.mem_filter.mp hs
    exact h.least ((mark_neg ok h.red hw h1).mp (of_decide_eq_true h2))
  have hc : c ∈ backs ls (fun e x => act f (c :: r) (unit x) e) := List.mem_filter.mpr ⟨hw c (List.mem_cons_self ..), decide_eq_true ((mark_neg ok h.red hw (hw c (List.mem_cons_self ..))).mpr (.inl rfl))⟩
  have ap : (backs ls (fun e x => act f (c :: r) (unit x) e)).Pairwise (· < ·) := asc.filter _
  generalize backs ls (fun e x => act f (c :: r) (unit x) e) = b at *
  cases b with
  | nil => cases hc
  | cons y t =>
    refine ⟨t, ?_⟩
    have h1 := mem y (List.mem_cons_self ..)
    rcases List.mem_cons.mp hc with e | e
    · rw [e]
    · have := (List.pairwise_cons.mp ap).1 c e
      omega
section
variable {P : Program} {w : World} {K : PySem.W.Frag} {mg : Str → Option Value} {base : Heap}
end
end Cw
set_option Elab.async false
set_option linter.all false
set_option maxRecDepth 100000
set_option maxHeartbeats 4000000
/-! calls with keywords and with defaults, by where each parameter comes from -/
namespace Cw
open PySem PySem.Spec L2
/-- a parameter's value: the i-th that is given, a default, a keyword's -/
inductive Src where
  | pos (i : Nat)
  | dfl (i : Nat)
  | kw (i : Nat)
def Src.up : Src → Src
  | .pos i => .pos (i + 1)
  | .dfl i => .dfl i
  | .kw i => .kw i
def getS {α : Type} (us its ws : List α) : Src → Option α
  | .pos i => us[i]?
  | .dfl i => its[i]?
  | .kw i => ws[i]?
def gS (ss : List Src) {α : Type} (us its ws : List α) : List α := ss.filterMap (getS us its ws)
theorem vals_get : ∀ {vs : List V} {us : List Value}, Vals vs us → ∀ i : Nat, (vs[i]? = none ∧ us[i]? = none) ∨ ∃ v u, vs[i]? = some v ∧ us[i]? = some u ∧ RelV v u
  | _, _, .nil, i => .inl ⟨rfl, rfl⟩
  | _, _, .cons r t, 0 => .inr ⟨_, _, rfl, rfl, r⟩
  | _, _, .cons r t, i + 1 => by
    have := vals_get t i
    simpa using this
theorem gS_rel {vs ds zs : List V} {us its ws : List Value} (r1 : Vals vs us) (r2 : Vals ds its) (r3 : Vals zs ws) : ∀ ss : List Src, Vals (gS ss vs ds zs) (gS ss us its ws)
  | [] => .nil
  | s :: ss => by
    have ih := gS_rel r1 r2 r3 ss
    have key : (getS vs ds zs s = none ∧ getS us its ws s = none) ∨ ∃ v u, getS vs ds zs s = some v ∧ getS us its ws s = some u ∧ RelV v u := by
      cases s with
      | pos i => exact vals_get r1 i
      | dfl i => exact vals_get r2 i
      | kw i => exact vals_get r3 i
    unfold gS at ih ⊢
    rcases key with ⟨a, b⟩ | ⟨v, u, a, b, r⟩
    · rw [List.filterMap_cons_none a, List.filterMap_cons_none b]
      exact ih
    · rw [List.filterMap_cons_some a, List.filterMap_cons_some b]
      exact .cons r ih
theorem gS_up {α : Type} {x : α} {vs ds zs : List α} : ∀ ss : List Src, gS (.pos 0 :: ss.map Src.up) (x :: vs) ds zs = x :: gS ss vs ds zs := by
  intro ss
  unfold gS
  rw [List.filterMap_cons_some (show getS (x :: vs) ds zs (.pos 0) = some x from rfl), List.filterMap_map]
  congr 1
  congr 1
  funext s
  cases s <;> rfl
/-- how a call binds its n values and its keywords ks -/
abbrev KB (K : PySem.W.Frag) (fd : FuncData) (ps : List Str) (n : Nat) (ks : List Str) (ss : List Src) (dvs : List V) : Prop := ∃ g, KBn K fd ps n ks g (fun vs zs => gS ss vs dvs zs)
section
variable {K : PySem.W.Frag} {x qual : Str} {params : Arguments} {body : List Stmt} {scope : Scope} {dvs : List V} {f : Addr} {fd : FuncData} {ps : List Str}
theorem FunD.kb (F : FunD K x qual params body scope dvs [] f fd) (n : Nat) (ks : List Str) (ss : List Src) (hd : dvs ≠ [])
    (h : ∀ (T : Addr) (kV doc pm : Value) (an : Option Addr) (cdv ct : Value) (us its ws : List Value), us.length = n → its.length = dvs.length → ws.length = ks.length →
      ∃ k, bindArgs (PySem.W.fnOf x qual params body scope (.ref T) kV doc pm an cdv ct) ⟨us, ks.zip ws⟩ = seqItems? (.ref T) >>= k ∧ k (some its.toArray) = pure (ps.zip (gS ss us its ws))) : KB K fd ps n ks ss dvs := by
  obtain ⟨its, b⟩ := F.kbindsD (ps := ps) n ks (fun {_} vs ds zs => gS ss vs ds zs) hd (fun r1 r2 r3 => gS_rel r1 r2 r3 ss) h
  exact ⟨_, b⟩
end
/-- C(..) by n values and the keywords ks -/
structure CDefN (P : Program) (w : World) (K : PySem.W.Frag) (mg : Str → Option Value) (base : Heap) (CX : CXT) (k : Nat) (x : Str) (C : Addr) (sp : Sp) (n : Nat) (ks : List Str) (ss : List Src) (dvs : List V) : Prop where
  ex : ∃ f fd ps sp0, mg x = some (.ref C) ∧ Mk K C f ∧ KB K fd ps (n + 1) ks (.pos 0 :: ss.map Src.up) dvs ∧ FnOk P w K mg base CX k f fd ps sp0 ∧ Conv C sp0 sp
/-- the reading of such a call -/
def tCN (sp : Sp) (n m : Nat) (ss : List Src) (dvs : List V) (E : XK) (t tk : TA) : TE := fun σ H Q => t σ H fun vs H1 => tk σ H1 fun zs H2 => vs.length = n ∧ zs.length = m ∧ sp (gS ss vs dvs zs) H2 Q E
section
variable {P : Program} {w : World} {K : PySem.W.Frag} {mg : Str → Option Value} {base : Heap} {CX : CXT} {k : Nat} {C : Addr} {x qual : Str} {sp : Sp} {st : Stmt} {dvs : List V} {n : Nat} {ks : List Str} {ss : List Src}
theorem CDefN.mono {j : Nat} (D : CDefN P w K mg base CX j x C sp n ks ss dvs) (h : j ≤ k) : CDefN P w K mg base CX k x C sp n ks ss dvs := by
  obtain ⟨f, fd, ps, sp0, a, b, c, d, e⟩ := D.ex
  exact ⟨f, fd, ps, sp0, a, b, c, d.mono h, e⟩
theorem CMk.kw {ps : List Str} (D : CMk P w K mg base CX k x C sp ps qual st dvs) (n : Nat) (ks : List Str) (ss : List Src) (hd : dvs ≠ [])
    (h : ∀ (T : Addr) (kV doc pm : Value) (an : Option Addr) (cdv ct : Value) (us its ws : List Value), us.length = n + 1 → its.length = dvs.length → ws.length = ks.length →
      ∃ k, bindArgs (PySem.W.fnOf "__init__" qual (defArgs st) (defBody st) (defScope st) (.ref T) kV doc pm an cdv ct) ⟨us, ks.zip ws⟩ = seqItems? (.ref T) >>= k ∧ k (some its.toArray) = pure (ps.zip (gS (.pos 0 :: ss.map Src.up) us its ws))) : CDefN P w K mg base CX k x C sp n ks ss dvs := by
  obtain ⟨f, fd, sp0, a, b, c, d, e, G⟩ := D.ex
  exact ⟨f, fd, ps, sp0, a, b, FunD.kb G (n + 1) ks _ hd h, d, e⟩
end
section
variable {X : Cx} {CX : CXT} {k n : Nat} {sp : Sp} {E : XK} {x : Str} {C : Addr} {p pos : PySem.Pos} {e : Expr} {es : List Expr} {kws : List Keyword} {t tk : TA} {ks : List Str} {ss : List Src} {dvs : List V}
theorem run_mkN {pins : List (Addr × Obj)} {σ : St} {H : Hp} {s : Shared} {Q : VK} {us ws : List Value} {vs zs : List V} {f : Addr} {fd : FuncData} {ps : List Str} {sp0 : Sp} {g : List Value → List Value → List Value} (M : Mk X.K C f) (F : FnOk X.prog X.w X.K X.mg X.base CX k f fd ps sp0) (cv : Conv C sp0 sp) (hr : Room (k + 1) X.A) (hb : KBn X.K fd ps (n + 1) ks g (fun vs zs => gS (.pos 0 :: ss.map Src.up) vs dvs zs))
    (hx : Passes CX X E) (I : Inv X pins σ H s) (r : Vals vs us) (rz : Vals zs ws) (l1 : vs.length = n) (l2 : zs.length = ks.length) (h : sp (gS ss vs dvs zs) H Q E) :
    wpAny (model X.prog X.w) X.A (call (.ref C) us (ks.zip ws)) (EP X pins σ Q) X.xe s := by
  refine run_makeN M F hr hb hx I r rz l1 l2 fun a da n1 n2 n3 => ?_
  rw [gS_up]
  exact cv _ H Q E h a da n1 n2 n3
theorem pe_mkN (D : CDefN X.prog X.w X.K X.mg X.base CX k x C sp n ks ss dvs) (hr : Room (k + 1) X.A) (hx : Passes CX X E) (ha : PA X (e :: es) t) (hkw : PK X kws tk) (hg : Gl X x := by rfl)
    (hall : (backToKw pos (keywordEach kws X.env)).all (·.1.isSome) = true := by rfl) (hks : (backToKw pos (keywordEach kws X.env)).filterMap (·.1) = ks := by rfl)
    (hdb : (x == ("__debug__" : Str)) = false := by decide) (he : starEach (e :: es) X.env = (false, eval e X.env) :: starEach es X.env := by rfl)
    (hpl : ((backTo pos (starEach (e :: es) X.env)).any (·.1) || (backToKw pos (keywordEach kws X.env)).any (·.1.isNone)) = false := by rfl) :
    PE X (.Call (.Name x p) (e :: es) kws pos) (tCN sp n ks.length ss dvs E t tk) := by
  obtain ⟨f, fd, ps, sp0, a, M, ⟨g, kb⟩, F, cv⟩ := D.ex
  refine ⟨fun pins s σ H Q I h => ?_⟩
  refine wpAny_Call_Name_kw (ld_glob I hg a ?_ hdb)
  refine PySem.W.callWith_KW (h₀ := X.base) I.ok.mod.kin M.kp hall (thn (ha.run pos pins s σ H _ I h) fun us s1 ⟨vs, H1, I1, r, q⟩ => ?_) hpl he
  refine thn (hkw.run pos pins s1 σ H1 _ I1 q) fun ws s2 ⟨zs, H2, I2, rz, l1, l2, q2⟩ => ⟨I2.kIn, ?_⟩
  rw [hks]
  exact run_mkN M F cv hr kb hx I2 r rz l1 l2 q2
theorem pe_mkN0 (D : CDefN X.prog X.w X.K X.mg X.base CX k x C sp 0 ks ss dvs) (hr : Room (k + 1) X.A) (hx : Passes CX X E) (hkw : PK X kws tk) (hg : Gl X x := by rfl)
    (hall : (backToKw pos (keywordEach kws X.env)).all (·.1.isSome) = true := by rfl) (hks : (backToKw pos (keywordEach kws X.env)).filterMap (·.1) = ks := by rfl)
    (hdb : (x == ("__debug__" : Str)) = false := by decide)
    (hpl : ((backTo pos (starEach [] X.env)).any (·.1) || (backToKw pos (keywordEach kws X.env)).any (·.1.isNone)) = false := by rfl) :
    PE X (.Call (.Name x p) [] kws pos) (tCN sp 0 ks.length ss dvs E tNil tk) := by
  obtain ⟨f, fd, ps, sp0, a, M, ⟨g, kb⟩, F, cv⟩ := D.ex
  refine ⟨fun pins s σ H Q I h => ?_⟩
  refine wpAny_Call_Name_kw (ld_glob I hg a ?_ hdb)
  refine PySem.W.callWith_KW0 (h₀ := X.base) I.ok.mod.kin M.kp hall ?_ hpl
  refine thn (hkw.run pos pins s σ H _ I h) fun ws s2 ⟨zs, H2, I2, rz, l1, l2, q2⟩ => ⟨I2.kIn, ?_⟩
  rw [hks]
  exact run_mkN (us := []) (vs := []) M F cv hr kb hx I2 .nil rz rfl l2 q2
end
/-! ### defs and methods by keywords -/
structure DefN (P : Program) (w : World) (K : PySem.W.Frag) (mg : Str → Option Value) (base : Heap) (CX : CXT) (k : Nat) (x : Str) (sp : Sp) (n : Nat) (ks : List Str) (ss : List Src) (dvs : List V) : Prop where
  ex : ∃ f fd ps, mg x = some (.ref f) ∧ PySem.W.keepIn K (.ref f) = true ∧ KB K fd ps n ks ss dvs ∧ FnOk P w K mg base CX k f fd ps sp
structure MDefN (P : Program) (w : World) (K : PySem.W.Frag) (mg : Str → Option Value) (base : Heap) (CX : CXT) (k : Nat) (C : Addr) (m : Str) (sp : Sp) (n : Nat) (ks : List Str) (ss : List Src) (dvs : List V) : Prop where
  ex : ∃ f fd ps, PySem.W.findIn K (.ref C) m = some (some (.ref f)) ∧ PySem.W.isFn K (.ref f) = true ∧ PySem.W.keepIn K (.ref f) = true ∧ KB K fd ps (n + 1) ks (.pos 0 :: ss.map Src.up) dvs ∧ FnOk P w K mg base CX k f fd ps sp
section
variable {P : Program} {w : World} {K : PySem.W.Frag} {mg : Str → Option Value} {base : Heap} {CX : CXT} {k : Nat} {C : Addr} {x m qual : Str} {sp : Sp} {st : Stmt} {dvs : List V} {n : Nat} {ks ps : List Str} {ss : List Src}
theorem DefN.mono {j : Nat} (D : DefN P w K mg base CX j x sp n ks ss dvs) (h : j ≤ k) : DefN P w K mg base CX k x sp n ks ss dvs := by
  obtain ⟨f, fd, ps, a, b, c, d⟩ := D.ex
  exact ⟨f, fd, ps, a, b, c, d.mono h⟩
theorem MDefN.mono {j : Nat} (D : MDefN P w K mg base CX j C m sp n ks ss dvs) (h : j ≤ k) : MDefN P w K mg base CX k C m sp n ks ss dvs := by
  obtain ⟨f, fd, ps, a, b, c, d, e⟩ := D.ex
  exact ⟨f, fd, ps, a, b, c, d, e.mono h⟩
theorem kb_of {fd : FuncData} (h : ∀ us ws : List Value, us.length = n → ws.length = ks.length → bindArgs fd ⟨us, ks.zip ws⟩ = pure (ps.zip (gS ss us [] ws))) : KB K fd ps n ks ss [] :=
  ⟨fun us ws => gS ss us [] ws, ⟨fun s us ws _ l1 l2 => .of_eq (h us ws l1 l2), fun r1 r2 => gS_rel r1 .nil r2 ss⟩⟩
theorem fd_eq {f : Addr} {fd fd' : FuncData} (h : ∃ oc od osl, K.lookup f = some ⟨oc, od, .func fd, osl⟩) (h' : ∃ oc od osl, K.lookup f = some ⟨oc, od, .func fd', osl⟩) : fd = fd' := by
  obtain ⟨_, _, _, h⟩ := h
  obtain ⟨_, _, _, h'⟩ := h'
  rw [h] at h'
  injection h' with h'
  injection h' with _ _ h' _
  injection h'
theorem Def.kw (D : Def P w K mg base CX k x ps sp) (F : FnAt K mg x st) (n : Nat) (ks : List Str) (ss : List Src)
    (h : ∀ (kV doc pm : Value) (an : Option Addr) (cdv ct : Value) (us ws : List Value), us.length = n → ws.length = ks.length → bindArgs (PySem.W.fnOf x x (defArgs st) (defBody st) (defScope st) .none kV doc pm an cdv ct) ⟨us, ks.zip ws⟩ = pure (ps.zip (gS ss us [] ws))) : DefN P w K mg base CX k x sp n ks ss [] := by
  obtain ⟨f, fd, a, b, c, d⟩ := D.ex
  obtain ⟨f', fd', a', G⟩ := F.ex
  rw [a] at a'
  injection a' with a'
  injection a' with a'
  subst a'
  have e := fd_eq c.lk (funLk G)
  subst e
  refine ⟨f, fd, ps, a, b, ?_, d⟩
  obtain ⟨oc, od, kV, doc, pm, an, cdv, ct, osl, rfl, _⟩ := G.ex
  exact kb_of (h kV doc pm an cdv ct)
theorem MDef.kw (D : MDef P w K mg base CX k C m ps sp) (F : MAt K C m qual st) (n : Nat) (ks : List Str) (ss : List Src)
    (h : ∀ (kV doc pm : Value) (an : Option Addr) (cdv ct : Value) (us ws : List Value), us.length = n + 1 → ws.length = ks.length → bindArgs (PySem.W.fnOf m qual (defArgs st) (defBody st) (defScope st) .none kV doc pm an cdv ct) ⟨us, ks.zip ws⟩ = pure (ps.zip (gS (.pos 0 :: ss.map Src.up) us [] ws))) : MDefN P w K mg base CX k C m sp n ks ss [] := by
  obtain ⟨f, fd, a, b, kp, c, d⟩ := D.ex
  obtain ⟨f', fd', a', b', G⟩ := F.ex
  rw [a] at a'
  injection a' with a'
  injection a' with a'
  injection a' with a'
  subst a'
  have e := fd_eq c.lk (funLk G)
  subst e
  refine ⟨f, fd, ps, a, b, kp, ?_, d⟩
  obtain ⟨oc, od, kV, doc, pm, an, cdv, ct, osl, rfl, _⟩ := G.ex
  exact kb_of (h kV doc pm an cdv ct)
end
section
variable {X : Cx} {CX : CXT} {k n : Nat} {sp : Sp} {E : XK} {x m : Str} {C : Addr} {p pos apos : PySem.Pos} {o e : Expr} {es : List Expr} {kws : List Keyword} {ta : TE} {t tk : TA} {ks : List Str} {ss : List Src} {dvs : List V}
theorem run_fN {pins : List (Addr × Obj)} {σ : St} {H : Hp} {s : Shared} {Q : VK} {us ws : List Value} {vs zs : List V} {f : Addr} {fd : FuncData} {ps : List Str} {g : List Value → List Value → List Value} {gV : List V → List V → List V} (F : FnOk X.prog X.w X.K X.mg X.base CX k f fd ps sp) (hr : Room k X.A) (hb : KBn X.K fd ps n ks g gV)
    (hx : Passes CX X E) (I : Inv X pins σ H s) (r : Vals vs us) (rz : Vals zs ws) (l1 : vs.length = n) (l2 : zs.length = ks.length) (h : sp (gV vs zs) H Q E) :
    wpAny (model X.prog X.w) X.A (call (.ref f) us (ks.zip ws)) (EP X pins σ Q) X.xe s := by
  have r2 := hb.rel r rz
  refine wpAny_call (codeAny_mono (F.run X.A X.stack s H ⟨us, ks.zip ws⟩ (g us ws) (gV vs zs) Q E hr I.env0 (hb.to s us ws I.kIn (r.length.symm.trans l1) (rz.length.symm.trans l2)) r2 h) fun r s' hq => ?_)
  cases r with
  | error e => exact hx pins σ H s e s' I hq
  | ok fl =>
    cases fl with
    | ret u => exact I.after hq
    | next => exact False.elim hq
    | brk => exact False.elim hq
    | cont => exact False.elim hq
theorem pe_fN (D : DefN X.prog X.w X.K X.mg X.base CX k x sp n ks ss dvs) (hr : Room k X.A) (hx : Passes CX X E) (ha : PA X (e :: es) t) (hkw : PK X kws tk) (hg : Gl X x := by rfl)
    (hall : (backToKw pos (keywordEach kws X.env)).all (·.1.isSome) = true := by rfl) (hks : (backToKw pos (keywordEach kws X.env)).filterMap (·.1) = ks := by rfl)
    (hdb : (x == ("__debug__" : Str)) = false := by decide) (he : starEach (e :: es) X.env = (false, eval e X.env) :: starEach es X.env := by rfl)
    (hpl : ((backTo pos (starEach (e :: es) X.env)).any (·.1) || (backToKw pos (keywordEach kws X.env)).any (·.1.isNone)) = false := by rfl) :
    PE X (.Call (.Name x p) (e :: es) kws pos) (tCN sp n ks.length ss dvs E t tk) := by
  obtain ⟨f, fd, ps, a, kp, ⟨g, kb⟩, F⟩ := D.ex
  refine ⟨fun pins s σ H Q I h => ?_⟩
  refine wpAny_Call_Name_kw (ld_glob I hg a ?_ hdb)
  refine PySem.W.callWith_KW (h₀ := X.base) I.ok.mod.kin kp hall (thn (ha.run pos pins s σ H _ I h) fun us s1 ⟨vs, H1, I1, r, q⟩ => ?_) hpl he
  refine thn (hkw.run pos pins s1 σ H1 _ I1 q) fun ws s2 ⟨zs, H2, I2, rz, l1, l2, q2⟩ => ⟨I2.kIn, ?_⟩
  rw [hks]
  exact run_fN F hr kb hx I2 r rz l1 l2 q2
theorem pe_fN0 (D : DefN X.prog X.w X.K X.mg X.base CX k x sp 0 ks ss dvs) (hr : Room k X.A) (hx : Passes CX X E) (hkw : PK X kws tk) (hg : Gl X x := by rfl)
    (hall : (backToKw pos (keywordEach kws X.env)).all (·.1.isSome) = true := by rfl) (hks : (backToKw pos (keywordEach kws X.env)).filterMap (·.1) = ks := by rfl)
    (hdb : (x == ("__debug__" : Str)) = false := by decide)
    (hpl : ((backTo pos (starEach [] X.env)).any (·.1) || (backToKw pos (keywordEach kws X.env)).any (·.1.isNone)) = false := by rfl) :
    PE X (.Call (.Name x p) [] kws pos) (tCN sp 0 ks.length ss dvs E tNil tk) := by
  obtain ⟨f, fd, ps, a, kp, ⟨g, kb⟩, F⟩ := D.ex
  refine ⟨fun pins s σ H Q I h => ?_⟩
  refine wpAny_Call_Name_kw (ld_glob I hg a ?_ hdb)
  refine PySem.W.callWith_KW0 (h₀ := X.base) I.ok.mod.kin kp hall ?_ hpl
  refine thn (hkw.run pos pins s σ H _ I h) fun ws s2 ⟨zs, H2, I2, rz, l1, l2, q2⟩ => ⟨I2.kIn, ?_⟩
  rw [hks]
  exact run_fN (us := []) (vs := []) F hr kb hx I2 .nil rz rfl l2 q2
/-- o.m(.., k = v) -/
def tMN (C : Addr) (m : Str) (sp : Sp) (n l : Nat) (ss : List Src) (dvs : List V) (E : XK) (ta : TE) (t tk : TA) : TE := fun σ H Q => ta σ H fun x H1 => ∃ a dx fs, x = .ref a ∧ H1 a = some (.ins C dx fs) ∧ fs.lookup m = none ∧ t σ H1 fun vs H2 => tk σ H2 fun zs H3 => vs.length = n ∧ zs.length = l ∧ sp (x :: gS ss vs dvs zs) H3 Q E
theorem pe_mdN0 {pl : Sem Bool} (D : MDefN X.prog X.w X.K X.mg X.base CX k C m sp 0 ks ss dvs) (c : Cls X.K C) (hr : Room k X.A) (hx : Passes CX X E) (he : PE X o ta) (hkw : PK X kws tk)
    (hall : (backToKw pos (keywordEach kws X.env)).all (·.1.isSome) = true := by rfl) (hks : (backToKw pos (keywordEach kws X.env)).filterMap (·.1) = ks := by rfl)
    (hpl : ((backTo pos (starEach [] X.env)).any (·.1) || (backToKw pos (keywordEach kws X.env)).any (·.1.isNone)) = false := by rfl)
    (ht : eval (.Call (.Attribute o m apos) [] kws pos) X.env = (do
      let ov ← eval o X.env
      standAt apos.atName
      let (f, first) ← holding [ov] (getMethod ov m pl)
      callWith pos f first (backTo pos (starEach [] X.env)) (backToKw pos (keywordEach kws X.env))) := by rfl) :
    PE X (.Call (.Attribute o m apos) [] kws pos) (tMN C m sp 0 ks.length ss dvs E ta tNil tk) := by
  obtain ⟨f, fd, ps, a1, a2, a3, ⟨g, kb⟩, F⟩ := D.ex
  refine ⟨fun pins s σ H Q I h => ?_⟩
  refine PySem.W.methodCall_KW (pl := pl) (thn (he.run pins s σ H _ I h) fun u s1 ⟨x, H1, I1, rx, a, dx, fs, ex, ea, l, q⟩ => ?_) ht
  subst ex
  obtain rfl : u = Value.ref a := rx
  refine getmeth_ok I1 ea c ⟨a1, a2, a3⟩ l ?_
  refine PySem.W.callWith_KW0 (first := [.ref a]) (h₀ := X.base) I.ok.mod.kin a3 hall ?_ hpl
  refine thn (hkw.run pos pins s1 σ H1 _ I1 q) fun ws s2 ⟨zs, H2, I2, rz, l1, l2, q2⟩ => ⟨I2.kIn, ?_⟩
  rw [hks]
  refine run_fN (us := [.ref a]) (vs := [.ref a]) F hr kb hx I2 (.cons rfl .nil) rz rfl l2 ?_
  show sp (gS (.pos 0 :: ss.map Src.up) [V.ref a] dvs zs) _ _ _
  rw [gS_up]
  exact q2
end
section
variable {X : Cx} {CX : CXT} {k : Nat} {C : Addr} {m : Str} {ps : List Str} {sp : Sp} {E : XK} {pos apos : PySem.Pos} {o : Expr} {ta : TE}
/-- o.m() -/
theorem pe_md0 {pl : Sem Bool} (D : MDef X.prog X.w X.K X.mg X.base CX k C m ps sp) (c : Cls X.K C) (hr : Room k X.A) (hx : Passes CX X E) (he : PE X o ta)
    (ht : eval (.Call (.Attribute o m apos) [] [] pos) X.env = (do
      let ov ← eval o X.env
      standAt apos.atName
      let (f, first) ← holding [ov] (getMethod ov m pl)
      callWith pos f first (backTo pos (starEach [] X.env)) (backToKw pos (keywordEach [] X.env))) := by rfl) :
    PE X (.Call (.Attribute o m apos) [] [] pos) (tMeth C m sp [] E ta tNil) := by
  obtain ⟨f, fd, a, b, kp, ⟨d, _⟩, g⟩ := D.ex
  exact pe_meth0 (pl := pl) he c ⟨a, b, kp⟩ g hr d .nil hx ht
/-- dict(xs) of pairs -/
def rDictP (K : PySem.W.Frag) : List V → Hp → VK → Prop := fun xs H Q => ∃ (a : Addr) (ps : List Addr) (kvs : List (Key × V)), xs = [.ref a] ∧ SqL K H a (ps.map V.ref) ∧ Paired (fun p kv => SqT K H p [kV kv.1, kv.2]) ps kvs ∧ ∀ p, H p = none → Q (.ref p) (upd H p (.dK (mergeK [] kvs)))
theorem c_dictPK {K : PySem.W.Frag} (h : X.K = K) (hc : X.calm = true) : CallR X (.type "dict") (rDictP K) := h ▸ call_dictP hc
end
theorem merge_new : ∀ {more acc : List (Key × V)}, (∀ q ∈ more, valV acc q.1 = none) → more.Pairwise (fun a b => a.1 ≠ b.1) → mergeK acc more = acc ++ more
  | [], acc, _, _ => (List.append_nil acc).symm
  | q :: more, acc, h, p => by
    have p' := List.pairwise_cons.mp p
    show mergeK (putK acc q.1 q.2) more = _
    rw [putK_new q.2 (h q (List.mem_cons_self ..)), merge_new (fun r hr => ?_) p'.2, List.append_assoc]
    · rfl
    · have h1 := h r (List.mem_cons_of_mem _ hr)
      have h2 := p'.1 r hr
      clear h p p'
      induction acc with
      | nil =>
        show valV [q] r.1 = none
        obtain ⟨a, b⟩ := q
        rw [valV_neg h2]
        rfl
      | cons c acc ih =>
        obtain ⟨a, b⟩ := c
        by_cases e : a = r.1
        · rw [e, valV_pos rfl] at h1
          cases h1
        · rw [valV_neg e] at h1
          rw [List.cons_append, valV_neg e]
          exact ih h1
section
variable {σ : St} {H : Hp} {Q : VK}
theorem e_CN {sp : Sp} {n m : Nat} {ss : List Src} {dvs : List V} {E : XK} {t tk : TA} (q : t σ H fun vs H1 => tk σ H1 fun zs H2 => vs.length = n ∧ zs.length = m ∧ sp (gS ss vs dvs zs) H2 Q E) : tCN sp n m ss dvs E t tk σ H Q := q
end
end Cw
set_option Elab.async false
set_option linter.all false
set_option maxRecDepth 100000
set_option maxHeartbeats 4000000
/-! a drawn floor, in plain words -/
namespace Cw
theorem splitB_congr {p p' : List Nat} : ∀ {a b : List Nat}, (∀ c ∈ a, c ∈ p ↔ c ∈ p') → splitB p a b = splitB p' a b
  | [], b, _ => rfl
  | x :: r, b, h => by
    have hx := h x (List.mem_cons_self ..)
    unfold splitB
    by_cases c : x ∈ p
    · rw [if_pos c, if_pos (hx.mp c)]
      exact splitB_congr fun c hc => h c (List.mem_cons_of_mem _ hc)
    · rw [if_neg c, if_neg (fun z => c (hx.mpr z))]
theorem stepOf_congr {p p' name : List Nat} {k : Nat} (h : ∀ c ∈ name, c ∈ p ↔ c ∈ p') : stepOf p name k = stepOf p' name k := by
  unfold stepOf
  rw [splitB_congr (p' := p') fun c hc => h c (List.mem_reverse.mp hc)]
theorem joinC_congr {f f' : Nat → List Nat} {ls : List Nat} (h : ∀ k ∈ ls, ∀ c ∈ ls, c ∈ f k ↔ c ∈ f' k) : ∀ {way name : List Nat}, (∀ c ∈ name, c ∈ ls) → (∀ c ∈ way, c ∈ ls) → joinC f name way = joinC f' name way
  | [], name, _, _ => rfl
  | k :: r, name, hn, hw => by
    show joinC f (stepOf (f k) name k) r = joinC f' (stepOf (f' k) name k) r
    have hk := hw k (List.mem_cons_self ..)
    rw [stepOf_congr (p' := f' k) fun c hc => h k hk c (hn c hc)]
    refine joinC_congr h (fun c hc => ?_) fun c hc => hw c (List.mem_cons_of_mem _ hc)
    rcases stepOf_mem hc with e | e
    · rw [e]
      exact hk
    · exact hn c e
/-- the letters of a drawn floor and which cross -/
structure Fl (ls : List Nat) (f : Nat → List Nat) : Prop where
  tab : Tab ls f
  ok : CrOk f
  asc : ls.Pairwise (· < ·)
  pos : 0 < ls.length
theorem Flr.fl {num : Nat} {ls : List Nat} {rel : Nat → Nat → Bool} (h : Flr num ls rel) : Fl ls (crossBy ls rel) where
  tab := h.tab
  asc := cut_lt' h.cut
  pos := (cut_len h.cut).2.2
  ok := by
    refine ⟨fun a b hab => ?_, fun a ha => ?_⟩
    · obtain ⟨h1, h2⟩ := List.mem_filter.mp hab
      have h3 := h.ok.in b a h2
      refine List.mem_filter.mpr ⟨h3.1, ?_⟩
      rw [h.ok.sym]
      exact h2
    · obtain ⟨h1, h2⟩ := List.mem_filter.mp ha
      exact (h.ok.in a a h2).2.2 rfl
theorem Fl.plain {ls : List Nat} {f : Nat → List Nat} (h : Fl ls f) : Fl ls (fun _ => []) where
  tab := ⟨h.tab.nd, h.tab.lt, h.tab.len, fun _ _ _ z => (nomatch z), fun _ _ => by simp⟩
  ok := ⟨fun _ _ z => (nomatch z), fun _ z => (nomatch z)⟩
  asc := h.asc
  pos := h.pos
section
variable {ls : List Nat} {f : Nat → List Nat}
theorem cross_tab (T : Tab ls f) {k c : Nat} (hk : k ∈ ls) (hc : c ∈ ls) : c ∈ crossOf (ascOf ls) (tabPairs ls f) k ↔ c ∈ f k := by
  unfold crossOf
  rw [List.mem_filter, Bool.or_eq_true, decide_eq_true_iff, decide_eq_true_iff]
  have mk : ∀ a b, a ∈ ls → b ∈ f a → b ∈ ls → ascOf [a, b] ∈ ls.flatMap fun a => (f a).map fun b => ascOf [a, b] := fun a b ha hb _ => List.mem_flatMap.mpr ⟨a, ha, List.mem_map.mpr ⟨b, hb, rfl⟩⟩
  constructor
  · rintro ⟨_, h | h⟩
    · obtain ⟨a, b, e, _, _, _, hb⟩ := tabPairs_lt T h
      injection e with e1 e2
      injection e2 with e2
      rw [e1, e2]
      exact hb
    · obtain ⟨a, b, e, _, ha, _, hb⟩ := tabPairs_lt T h
      injection e with e1 e2
      injection e2 with e2
      rw [e1, e2]
      exact (T.sub a ha b hb).2.2
  · intro h
    refine ⟨ascOf_mem.mpr ⟨T.lt c hc, hc⟩, ?_⟩
    have s := T.sub k hk c h
    rcases Nat.lt_or_gt_of_ne s.2.1 with l | l
    · refine .inr (pairsOf_mem.mpr ⟨c, k, rfl, T.lt c hc, T.lt k hk, ?_⟩)
      have := mk k c hk h hc
      rw [(asc2 (T.lt c hc) (T.lt k hk) l).2] at this
      exact this
    · refine .inl (pairsOf_mem.mpr ⟨k, c, rfl, T.lt k hk, T.lt c hc, ?_⟩)
      have := mk k c hk h hc
      rw [(asc2 (T.lt k hk) (T.lt c hc) l).1] at this
      exact this
theorem joinOf_tab (T : Tab ls f) {name way : List Nat} (hn : ∀ c ∈ name, c ∈ ls) (hw : ∀ c ∈ way, c ∈ ls) : joinOf (ascOf ls) (tabPairs ls f) name way = joinC f name way := by
  rw [joinOf_C]
  exact joinC_congr (fun k hk c hc => cross_tab T hk hc) hn hw
theorem stepOf_tab (T : Tab ls f) {name : List Nat} {k : Nat} (hk : k ∈ ls) (hn : ∀ c ∈ name, c ∈ ls) : stepOf (crossOf (ascOf ls) (tabPairs ls f) k) name k = stepOf (f k) name k := stepOf_congr fun c hc => cross_tab T hk (hn c hc)
theorem tabPairs_plain (ls : List Nat) : tabPairs ls (fun _ => []) = [] := by
  unfold tabPairs
  have : (ls.flatMap fun a => ([] : List Nat).map fun b => ascOf [a, b]) = [] := by
    induction ls with
    | nil => rfl
    | cons a r ih => simp
  rw [this]
  decide +kernel
theorem joinC_mem' {cr : Nat → List Nat} {c : Nat} : ∀ {way name : List Nat}, c ∈ joinC cr name way → c ∈ name ∨ c ∈ way
  | [], name, h => .inl h
  | k :: r, name, h => by
    rcases joinC_mem' (way := r) (name := stepOf (cr k) name k) h with z | z
    · rcases stepOf_mem z with e | e
      · exact .inr (e ▸ List.mem_cons_self ..)
      · exact .inl e
    · exact .inr (List.mem_cons_of_mem _ z)
/-- the name of a way -/
abbrev nameOf (f : Nat → List Nat) (w : List Nat) : List Nat := joinC f [] w
theorem name_mem {w : List Nat} {c : Nat} (h : c ∈ nameOf f w) : c ∈ w := (joinC_mem' h).elim (fun z => (nomatch z)) id
theorem name_len (f : Nat → List Nat) (w : List Nat) : (nameOf f w).length ≤ w.length := by
  have key : ∀ (way name : List Nat), (joinC f name way).length ≤ name.length + way.length := by
    intro way
    induction way with
    | nil => intro name; exact Nat.le_refl _
    | cons k r ih =>
      intro name
      have := ih (stepOf (f k) name k)
      have := stepOf_len (f k) name k
      show (joinC f (stepOf (f k) name k) r).length ≤ _
      rw [List.length_cons]
      omega
  have := key w []
  rw [List.length_nil] at this
  show (joinC f [] w).length ≤ _
  omega
theorem name_NF (ok : CrOk f) (w : List Nat) : NF f (nameOf f w) := NF_join ok NF_nil
theorem name_name (ok : CrOk f) (w : List Nat) : nameOf f (nameOf f w) = nameOf f w := (is_NF ok).mpr (name_NF ok w)
theorem name_app (ok : CrOk f) (a b : List Nat) : nameOf f (joinC f (nameOf f a) b) = nameOf f (a ++ b) := by
  rw [← joinC_app]
  exact name_name ok _
theorem name_step (ok : CrOk f) (a : List Nat) (k : Nat) : nameOf f (stepOf (f k) (nameOf f a) k) = nameOf f (a ++ [k]) := name_app ok a [k]
/-- two ways with the same marks have one name -/
theorem name_eq (ok : CrOk f) {v w : List Nat} (h : ∀ g, act f v g = act f w g) : nameOf f v = nameOf f w := by
  refine NF.uniq (ls := v ++ w) ok (name_NF ok v) (name_NF ok w) (fun y hy => List.mem_append_left _ (name_mem hy)) (fun y hy => List.mem_append_right _ (name_mem hy)) fun x _ s => ?_
  have e1 := act_join ok v [] (unit x)
  have e2 := act_join ok w [] (unit x)
  rw [List.nil_append] at e1 e2
  rw [show act f (nameOf f v) (unit x) = act f v (unit x) from e1, show act f (nameOf f w) (unit x) = act f w (unit x) from e2, h]
theorem name_act (ok : CrOk f) (w : List Nat) (g : Nat → Int) : act f (nameOf f w) g = act f w g := act_join ok w [] g
theorem name_twice (ok : CrOk f) (a : List Nat) (k : Nat) : nameOf f (a ++ [k] ++ [k]) = nameOf f a := by
  refine name_eq ok fun g => ?_
  rw [List.append_assoc, act_app]
  show act f a (thr f k (thr f k g)) = _
  rw [thr_thr ok]
end
end Cw
set_option Elab.async false
set_option linter.all false
set_option maxRecDepth 100000
set_option maxHeartbeats 4000000
namespace Cw
open PySem PySem.Spec L2
local macro_rules | `(tactic| walk_at "side") => `(tactic| first | omega | assumption | (dsimp only; omega) | (unfold CMul; omega) | exact ⟨by decide, by decide, by decide⟩ | exact wdiv (by first | assumption | decide | omega) (by first | assumption | decide | omega) | (simp only [List.length_cons, List.length_nil]; omega) | rfl)
local macro_rules | `(tactic| walk_at "hl") => `(tactic| first | assumption | exact upd_same | ((refine Cw.Same.at (by assumption) ?_); walk_at "hl") | ((refine Cw.Keep.at (by assumption) ?_ (by assumption)); walk_at "hl"))
local macro_rules | `(tactic| walk_at "st") => `(tactic| first
  | (with_reducible refine s_seq ?_) | (with_reducible refine g_nm ?_) | (with_reducible refine s_next ?_) | (with_reducible refine s_set ?_) | (with_reducible refine s_drop ?_) | (with_reducible refine s_ret ?_) | (with_reducible refine s_if ?_)
  | ((with_reducible refine e_varG ?_); refine ⟨_, (by with_unfolding_all rfl), ?_⟩) | (with_reducible refine e_c ?_) | (with_reducible refine e_op ?_) | (with_reducible refine e_un ?_)
  | (with_reducible refine e_cons ?_) | (with_reducible refine e_nil ?_) | (with_reducible refine e_cb ?_) | (with_reducible refine e_call ?_) | (with_reducible refine e_md ?_)
  | (with_reducible refine t_test ?_) | (with_reducible refine t_B ?_) | (with_reducible refine t_and ?_) | (with_reducible refine t_or ?_) | (with_reducible refine t_not ?_)
  | (with_reducible refine e_andV ?_) | (with_reducible refine e_orV ?_) | (with_reducible refine e_notV ?_) | (with_reducible refine e_if ?_)
  | (with_reducible refine v_I0 ?_) | ((with_reducible refine v_I ?c ?_); try (case c => walk_at "side")) | (with_reducible refine v_bl ?_)
  | ((with_reducible refine v_eq ?c ?_); (case c => with_unfolding_all rfl)) | ((with_reducible refine v_ne ?c ?_); (case c => with_unfolding_all rfl))
  | (with_reducible refine v_inti ?_) | (with_reducible refine v_intb ?_) | ((with_reducible refine v_lenG ?_); refine ⟨_, (by walk_at "hl"), ?_⟩)
  | ((with_reducible refine v_lenS ?c ?_); try (case c => walk_at "side"))
  | (with_reducible refine e_dnew ?_) | (with_reducible refine e_dget ?_) | (with_reducible refine s_dput ?_) | (with_reducible refine e_lst ?_) | (with_reducible refine e_tup ?_)
  | ((with_reducible refine v_lst ?c ?_); (case c => walk_at "side")) | ((with_reducible refine v_tup ?c ?_); (case c => walk_at "side"))
  | ((with_reducible refine v_dgetG ?_); refine ⟨_, (by assumption), ?_⟩)
  | (with_reducible refine e_sl ?_) | (with_reducible refine e_nopart ?_) | (with_reducible refine e_part ?_) | (with_reducible refine e_m1 ?_) | (with_reducible refine v_isS ?_) | (with_reducible refine v_int ?_)
  | (with_reducible refine e_lc ?_) | (with_reducible refine e_iStr ?_) | (with_reducible refine e_iEnumS ?_) | (with_reducible refine v_iEnumS ?_) | (with_reducible refine v_str ?_) | (with_reducible refine e_yes ?_) | (with_reducible refine e_fld ?_) | (with_reducible refine e_sfld ?_)
  | ((with_reducible refine v_addS ?c ?_); try (case c => walk_at "side")) | (with_reducible refine v_inS ?_) | (with_reducible refine v_notInS ?_) | (with_reducible refine v_ltS ?_)
  | ((with_reducible refine v_inLG ?_); refine ⟨_, (by walk_at "hl"), ?_⟩) | (with_reducible refine v_isiS ?_) | (with_reducible refine e_revS ?_) | ((with_reducible refine v_revS ?c ?_); try (case c => walk_at "side"))
  | ((with_reducible refine v_lenSetG ?_); refine ⟨_, (by walk_at "hl"), ?_⟩)
  | (with_reducible refine e_bm ?_) | (with_reducible refine e_bm0 ?_) | ((with_reducible refine v_tyLG ?_); refine ⟨_, (by walk_at "hl"), ?_⟩)
  | (with_reducible refine iteNT ?_) | (with_reducible refine iteNF ?_) | (with_reducible refine e_for ?_)
  | (with_reducible refine e_iL ?_) | (with_reducible refine e_iT ?_) | ((with_reducible refine v_iLG ?_); refine ⟨_, (by walk_at "hl"), ?_⟩) | (with_reducible refine e_iR1 ?_) | ((with_reducible refine v_iR1 ?c1 ?c2 ?_); try (case c1 => walk_at "side"); try (case c2 => walk_at "side"))
  | (with_reducible refine e_iR2 ?_) | ((with_reducible refine v_iR2 ?c1 ?_); try (case c1 => walk_at "side"))
  | (with_reducible refine e_pr0 ?_) | (with_reducible refine e_pr ?_) | (with_reducible refine e_disp ?_) | (with_reducible refine s_asgT ?_) | (with_reducible refine e_tryA ?_) | (with_reducible refine e_callS ?_) | (with_reducible refine e_mdS ?_) | (with_reducible refine e_par ?_) | (with_reducible refine v_par ?_) | (with_reducible refine e_par3 ?_) | (with_reducible refine v_par3 ?_) | (with_reducible refine e_iK ?_) | (with_reducible refine e_dnotin ?_)
  | (with_reducible refine iteT ?_) | (with_reducible refine iteF ?_))
local macro_rules | `(tactic| walk_at "go") => `(tactic| repeat walk_at "st")
def spPlain : Sp := fun vs H Q _ => ∃ (d : Addr) (ls : List Nat) (f : Nat → List Nat), vs = [.ref d] ∧ H d = some (.dK (tabKV ls f)) ∧ Tab ls f ∧ ∀ p H', H p = none → Same H H' → H' p = some (.dK (tabKV ls (fun _ => []))) → Q (.ref p) H'
theorem paired_map {α β : Type} {r : α → β → Prop} {A : Nat → α} {B : Nat → β} : ∀ {ls : List Nat}, (∀ c ∈ ls, r (A c) (B c)) → Paired r (ls.map A) (ls.map B)
  | [], _ => .nil
  | c :: ls, h => .cons (h c (List.mem_cons_self ..)) (paired_map fun d hd => h d (List.mem_cons_of_mem _ hd))
theorem let_pw {ls : List Nat} {g : Nat → V} (h : ls.Nodup) : (ls.map fun c => ((Sum.inr (tx [c]) : Key), g c)).Pairwise (fun a b => a.1 ≠ b.1) := by
  rw [List.pairwise_map]
  refine List.Pairwise.imp (fun {a b} hab z => ?_) h
  have := key_tx.mp z
  injection this with e _
  exact hab e
section
variable {P : Program} {w : World} {K : PySem.W.Frag} {mg : Str → Option Value} {base : Heap}
end
end Cw
set_option Elab.async false
set_option linter.all false
set_option maxRecDepth 100000
set_option maxHeartbeats 4000000
namespace Cw
open PySem PySem.Spec L2
local macro_rules | `(tactic| walk_at "side") => `(tactic| first | omega | assumption | (dsimp only; omega) | (unfold CMul; omega) | exact ⟨by decide, by decide, by decide⟩ | exact wdiv (by first | assumption | decide | omega) (by first | assumption | decide | omega) | (simp only [List.length_cons, List.length_nil]; omega) | rfl)
local macro_rules | `(tactic| walk_at "hl") => `(tactic| first | assumption | exact upd_same | ((refine Cw.Same.at (by assumption) ?_); walk_at "hl") | ((refine Cw.Keep.at (by assumption) ?_ (by assumption)); walk_at "hl"))
local macro_rules | `(tactic| walk_at "st") => `(tactic| first
  | (with_reducible refine s_seq ?_) | (with_reducible refine g_nm ?_) | (with_reducible refine s_next ?_) | (with_reducible refine s_set ?_) | (with_reducible refine s_drop ?_) | (with_reducible refine s_ret ?_) | (with_reducible refine s_if ?_)
  | ((with_reducible refine e_varG ?_); refine ⟨_, (by with_unfolding_all rfl), ?_⟩) | (with_reducible refine e_c ?_) | (with_reducible refine e_op ?_) | (with_reducible refine e_un ?_)
  | (with_reducible refine e_cons ?_) | (with_reducible refine e_nil ?_) | (with_reducible refine e_cb ?_) | (with_reducible refine e_call ?_) | (with_reducible refine e_md ?_)
  | (with_reducible refine t_test ?_) | (with_reducible refine t_B ?_) | (with_reducible refine t_and ?_) | (with_reducible refine t_or ?_) | (with_reducible refine t_not ?_)
  | (with_reducible refine e_andV ?_) | (with_reducible refine e_orV ?_) | (with_reducible refine e_notV ?_) | (with_reducible refine e_if ?_)
  | (with_reducible refine v_I0 ?_) | ((with_reducible refine v_I ?c ?_); try (case c => walk_at "side")) | (with_reducible refine v_bl ?_)
  | ((with_reducible refine v_eq ?c ?_); (case c => with_unfolding_all rfl)) | ((with_reducible refine v_ne ?c ?_); (case c => with_unfolding_all rfl))
  | (with_reducible refine v_inti ?_) | (with_reducible refine v_intb ?_) | ((with_reducible refine v_lenG ?_); refine ⟨_, (by walk_at "hl"), ?_⟩)
  | ((with_reducible refine v_lenS ?c ?_); try (case c => walk_at "side"))
  | (with_reducible refine e_dnew ?_) | (with_reducible refine e_dget ?_) | (with_reducible refine s_dput ?_) | (with_reducible refine e_lst ?_) | (with_reducible refine e_tup ?_)
  | ((with_reducible refine v_lst ?c ?_); (case c => walk_at "side")) | ((with_reducible refine v_tup ?c ?_); (case c => walk_at "side"))
  | ((with_reducible refine v_dgetG ?_); refine ⟨_, (by assumption), ?_⟩)
  | (with_reducible refine e_sl ?_) | (with_reducible refine e_nopart ?_) | (with_reducible refine e_part ?_) | (with_reducible refine e_m1 ?_) | (with_reducible refine v_isS ?_) | (with_reducible refine v_int ?_)
  | (with_reducible refine e_lc ?_) | (with_reducible refine e_iStr ?_) | (with_reducible refine e_iEnumS ?_) | (with_reducible refine v_iEnumS ?_) | (with_reducible refine v_str ?_) | (with_reducible refine e_yes ?_) | (with_reducible refine e_fld ?_) | (with_reducible refine e_sfld ?_)
  | ((with_reducible refine v_addS ?c ?_); try (case c => walk_at "side")) | (with_reducible refine v_inS ?_) | (with_reducible refine v_notInS ?_) | (with_reducible refine v_ltS ?_)
  | ((with_reducible refine v_inLG ?_); refine ⟨_, (by walk_at "hl"), ?_⟩) | (with_reducible refine v_isiS ?_) | (with_reducible refine e_revS ?_) | ((with_reducible refine v_revS ?c ?_); try (case c => walk_at "side"))
  | ((with_reducible refine v_lenSetG ?_); refine ⟨_, (by walk_at "hl"), ?_⟩)
  | (with_reducible refine e_bm ?_) | (with_reducible refine e_bm0 ?_) | ((with_reducible refine v_tyLG ?_); refine ⟨_, (by walk_at "hl"), ?_⟩)
  | (with_reducible refine iteNT ?_) | (with_reducible refine iteNF ?_) | (with_reducible refine e_for ?_)
  | (with_reducible refine e_iL ?_) | (with_reducible refine e_iT ?_) | ((with_reducible refine v_iLG ?_); refine ⟨_, (by walk_at "hl"), ?_⟩) | (with_reducible refine e_iR1 ?_) | ((with_reducible refine v_iR1 ?c1 ?c2 ?_); try (case c1 => walk_at "side"); try (case c2 => walk_at "side"))
  | (with_reducible refine e_iR2 ?_) | ((with_reducible refine v_iR2 ?c1 ?_); try (case c1 => walk_at "side"))
  | (with_reducible refine e_pr0 ?_) | (with_reducible refine e_pr ?_) | (with_reducible refine e_disp ?_) | (with_reducible refine s_asgT ?_) | (with_reducible refine e_tryA ?_) | (with_reducible refine e_callS ?_) | (with_reducible refine e_mdS ?_) | (with_reducible refine e_par ?_) | (with_reducible refine v_par ?_) | (with_reducible refine e_par3 ?_) | (with_reducible refine v_par3 ?_) | (with_reducible refine e_iK ?_) | (with_reducible refine e_dnotin ?_)
  | (with_reducible refine iteT ?_) | (with_reducible refine iteF ?_))
local macro_rules | `(tactic| walk_at "go") => `(tactic| repeat walk_at "st")
structure TxtP (K : PySem.W.Frag) (mg : Str → Option Value) (C : Addr) : Prop where
  len : mg "len" = none
  int : mg "int" = none
  list : mg "list" = none
  isinstance : mg "isinstance" = none
  str : mg "str" = none
  all : mg "all" = none
  set : mg "set" = none
  tuple : mg "tuple" = none
  g_LETTERS : ∃ t, mg "LETTERS" = some (.str (tx LET) t)
  g_MOST_KINDS : ∃ t, mg "MOST_KINDS" = some (.int 8 t)
  Plan : ClsF K mg "Plan" C
  nK : NoAttr K C "kinds"
  nP : NoAttr K C "pairs"
  nO : NoAttr K C "own_crossing"
def spAreLetters : Sp := fun vs H Q _ => ∃ l : List Nat, vs = [.str (tx l)] ∧ l.length < 1000 ∧ ∀ H', Same H H' → Q (.bl (decide ((∀ c ∈ l, c ∈ LET) ∧ l.Nodup))) H'
def spAscending : Sp := fun vs H Q _ => ∃ l : List Nat, vs = [.str (tx l)] ∧ ∀ H', Same H H' → Q (.str (tx (ascOf l))) H'
def spIsList (K : PySem.W.Frag) : Sp := fun vs H Q _ => ∃ (p : Addr) (xs : List V), vs = [.ref p] ∧ SeqO K H p xs ∧ ∀ H', Same H H' → Q (.bl true) H'
def spNeedFew : Sp := fun vs H Q _ => ∃ l : List Nat, vs = [.str (tx l)] ∧ l.length ≤ 8 ∧ Q .non H
section
variable {P : Program} {w : World} {K : PySem.W.Frag} {mg : Str → Option Value} {base : Heap} {C : Addr}
abbrev stare_letters : Stmt := (top 28)
abbrev Nare_letters : List Str := ["value", "letter"]
theorem scare_letters : FnScope Nare_letters ["value"] (defScope stare_letters) := ⟨rfl, rfl, rfl, by decide +kernel, rfl, by decide +kernel, by decide +kernel⟩

theorem ok_are_letters (F : FnAt K mg "are_letters" stare_letters) (T : TxtP K mg C) : Def P w K mg base CX0 1 "are_letters" ["value"] spAreLetters := by
  refine F.ok scare_letters (fun _ _ _ _ _ _ us hl => match us, hl with | [_], _ => rfl) (fun vs H Q E h => ?_) (fun f cdv A outer s H vs Q E hr h => ?_)
  · obtain ⟨l, rfl, _⟩ := h
    rfl
  obtain ⟨l, rfl, hl, k⟩ := h
  have hu := hu_of hr
  have nd := scare_letters.nd
  refine ⟨_, (pss_one (ps_ret (pe_and (pe_callB (c_isiK (K := K) rfl) (by rfl) T.isinstance (by decide +kernel) (pa_cons (pv 0) (pa_cons (pe_bltn (v := .ty "str") (u := .type "str") (by rfl) T.str (by decide +kernel) rfl) pa_nil))) (pe_and (pe_callB (c_allK (K := K) rfl rfl) (by rfl) T.all (by decide +kernel) (pa_cons (pe_lc (own := [("letter", 1)]) (g := gName 1) (by rfl) nd (pi_str (pv 0)) (blkOk_by (own := [("letter", 1)]) (N := Nare_letters) (sc := defScope stare_letters) (by decide +kernel)) (fun _ _ _ _ _ => (pg_name (i := 1) nd rfl (Or.inl rfl))) (fun _ _ _ _ _ => pts_nil) (fun _ _ _ _ _ => (pe_cmpR op_inS (pv 1) (pe_globS T.g_LETTERS) (by rfl)))) pa_nil)) (pe_one (pe_cmpR op_eq (pe_callB c_lenSet (by rfl) T.len PySem.boot_len (pa_cons (pe_callTy (c_setS rfl) (by rfl) T.set (by decide +kernel) (pa_cons (pv 0) pa_nil)) pa_nil)) (pe_callB c_lenS (by rfl) T.len PySem.boot_len (pa_cons (pv 0) pa_nil)) (nomark _))))))), ?_⟩
  refine s_start [some _, none] rfl ?_
  walk_at "go"
  refine v_lcS (b := fun _ => true) (f := fun c => V.bl (decide (c ∈ LET))) (by omega) (fun c _ H1 s1 R r => ?_) (fun c _ _ H1 s1 R r => ?_) (fun D H1 hD s1 e1 => ?_)
  · walk_at "go"
    exact r H1 (Same.refl _)
  · walk_at "go"
    exact r H1 (Same.refl _)
  walk_at "go"
  have e2 : H1 D = some (.lst ((l.map fun c => decide (c ∈ LET)).map V.bl)) := by
    rw [e1, List.map_map, filter_yes]
    rfl
  refine v_all e2 ?_
  walk_at "go"
  have ha : (l.map fun c => decide (c ∈ LET)).all id = decide (∀ c ∈ l, c ∈ LET) := by
    rw [Bool.eq_iff_iff, List.all_eq_true, decide_eq_true_iff]
    simp
  rw [ha]
  refine if_dec (fun c => ?_) (fun c => ?_)
  · walk_at "go"
    refine v_setS (by omega) fun p H2 hp s2 e2 => ?_
    walk_at "go"
    have e3 : decide (V.int ((metOf (l.map fun c => tx [c])).length : Int) = V.int (l.length : Int)) = decide ((∀ c ∈ l, c ∈ LET) ∧ l.Nodup) := by
      rw [dec_int, Bool.eq_iff_iff, decide_eq_true_iff, beq_iff_eq]
      have := metOf_ones l
      constructor
      · intro e
        exact ⟨c, this.mp (by omega)⟩
      · intro e
        have := this.mpr e.2
        omega
    rw [e3]
    exact k H2 (s1.trans s2)
  · have e3 : decide ((∀ c ∈ l, c ∈ LET) ∧ l.Nodup) = false := decide_eq_false fun z => c z.1
    rw [e3] at k
    exact k H1 s1
abbrev stascending : Stmt := (top 29)
abbrev Nascending : List Str := ["letters", "letter"]
theorem scascending : FnScope Nascending ["letters"] (defScope stascending) := ⟨rfl, rfl, rfl, by decide +kernel, rfl, by decide +kernel, by decide +kernel⟩

theorem ok_ascending (F : FnAt K mg "ascending" stascending) (T : TxtP K mg C) : Def P w K mg base CX0 1 "ascending" ["letters"] spAscending := by
  refine F.ok scascending (fun _ _ _ _ _ _ us hl => match us, hl with | [_], _ => rfl) (fun vs H Q E h => ?_) (fun f cdv A outer s H vs Q E hr h => ?_)
  · obtain ⟨l, rfl, _⟩ := h
    rfl
  obtain ⟨l, rfl, k⟩ := h
  have hu := hu_of hr
  have nd := scascending.nd
  refine ⟨_, (pss_one (ps_ret (pe_joinK (K := K) rfl (pe_tx [] (by decide +kernel)) (pe_lc (own := [("letter", 1)]) (g := gName 1) (by rfl) nd (pi_str (pe_globS T.g_LETTERS)) (blkOk_by (own := [("letter", 1)]) (N := Nascending) (sc := defScope stascending) (by decide +kernel)) (fun _ _ _ _ _ => (pg_name (i := 1) nd rfl (Or.inl rfl))) (fun _ _ _ _ _ => (pts_one (pt_cmpR op_inS (pv 1) (pv 0) (by rfl)))) (fun _ _ _ _ _ => (pv 1)))))), ?_⟩
  refine s_start [some _, none] rfl ?_
  walk_at "go"
  refine v_lcS (l := LET) (b := fun c => decide (c ∈ l)) (f := fun c => V.str (tx [c])) (by decide) (fun c _ H1 s1 R r => ?_) (fun c _ _ H1 s1 R r => ?_) (fun D H1 hD s1 e1 => ?_)
  · walk_at "go"
    exact r H1 (Same.refl _)
  · walk_at "go"
    exact r H1 (Same.refl _)
  walk_at "go"
  rw [strs_ones] at e1
  refine v_join e1 ?_ ?_
  · rw [flat_ones]
    have := ascOf_len l
    unfold ascOf at this
    omega
  · rw [flat_ones]
    exact k H1 s1
abbrev stis_list : Stmt := (top 20)
abbrev Nis_list : List Str := ["value"]
theorem scis_list : FnScope Nis_list ["value"] (defScope stis_list) := ⟨rfl, rfl, rfl, by decide +kernel, rfl, by decide +kernel, by decide +kernel⟩

theorem ok_is_list (F : FnAt K mg "is_list" stis_list) (T : TxtP K mg C) : Def P w K mg base CX0 1 "is_list" ["value"] (spIsList K) := by
  refine F.ok scis_list (fun _ _ _ _ _ _ us hl => match us, hl with | [_], _ => rfl) (fun vs H Q E h => ?_) (fun f cdv A outer s H vs Q E hr h => ?_)
  · obtain ⟨p, xs, rfl, _⟩ := h
    rfl
  obtain ⟨p, xs, rfl, hp, k⟩ := h
  have hu := hu_of hr
  have nd := scis_list.nd
  refine ⟨_, (pss_one (ps_ret (pe_callB (c_isiTK (K := K) rfl) (by rfl) T.isinstance (by decide +kernel) (pa_cons (pv 0) (pa_cons (pe_tup (pa_cons (pe_bltn (v := .ty "list") (u := .type "list") (by rfl) T.list (by decide +kernel) rfl) (pa_cons (pe_bltn (v := .ty "tuple") (u := .type "tuple") (by rfl) T.tuple (by decide +kernel) rfl) pa_nil))) pa_nil))))), ?_⟩
  refine s_start [some _] rfl ?_
  walk_at "go"
  intro t H1 ht s1 e1
  walk_at "go"
  exact v_isiQ (hp.same s1) e1 (k H1 s1)
abbrev stneed_few : Stmt := (top 32)
abbrev Nneed_few : List Str := ["kinds"]
theorem scneed_few : FnScope Nneed_few ["kinds"] (defScope stneed_few) := ⟨rfl, rfl, rfl, by decide +kernel, rfl, by decide +kernel, by decide +kernel⟩

theorem ok_need_few (F : FnAt K mg "need_few" stneed_few) (T : TxtP K mg C) : Def P w K mg base CX0 1 "need_few" ["kinds"] spNeedFew := by
  refine F.ok scneed_few (fun _ _ _ _ _ _ us hl => match us, hl with | [_], _ => rfl) (fun vs H Q E h => ?_) (fun f cdv A outer s H vs Q E hr h => ?_)
  · obtain ⟨l, rfl, _⟩ := h
    rfl
  obtain ⟨l, rfl, hl, k⟩ := h
  have hu := hu_of hr
  have nd := scneed_few.nd
  refine ⟨_, (pss_one (ps_if (pt_cmpR op_gt (pe_callB c_lenS (by rfl) T.len PySem.boot_len (pa_cons (pv 0) pa_nil)) (pe_globI T.g_MOST_KINDS) (nomark _))
      (pss_one ps_never)
      pss_nil)), ?_⟩
  refine s_start [some _] rfl ?_
  walk_at "go"
  refine if_dec (fun c => ?_) (fun c => ?_)
  · omega
  · walk_at "go"
    exact k
end
end Cw
set_option Elab.async false
set_option linter.all false
set_option maxRecDepth 100000
set_option maxHeartbeats 4000000
namespace Cw
open PySem PySem.Spec L2
local macro_rules | `(tactic| walk_at "side") => `(tactic| first | omega | assumption | (dsimp only; omega) | (unfold CMul; omega) | exact ⟨by decide, by decide, by decide⟩ | exact wdiv (by first | assumption | decide | omega) (by first | assumption | decide | omega) | (simp only [List.length_cons, List.length_nil]; omega) | rfl)
local macro_rules | `(tactic| walk_at "hl") => `(tactic| first | assumption | exact upd_same | ((refine Cw.Same.at (by assumption) ?_); walk_at "hl") | ((refine Cw.Keep.at (by assumption) ?_ (by assumption)); walk_at "hl"))
local macro_rules | `(tactic| walk_at "st") => `(tactic| first
  | (with_reducible refine s_seq ?_) | (with_reducible refine g_nm ?_) | (with_reducible refine s_next ?_) | (with_reducible refine s_set ?_) | (with_reducible refine s_drop ?_) | (with_reducible refine s_ret ?_) | (with_reducible refine s_if ?_)
  | ((with_reducible refine e_varG ?_); refine ⟨_, (by with_unfolding_all rfl), ?_⟩) | (with_reducible refine e_c ?_) | (with_reducible refine e_op ?_) | (with_reducible refine e_un ?_)
  | (with_reducible refine e_cons ?_) | (with_reducible refine e_nil ?_) | (with_reducible refine e_cb ?_) | (with_reducible refine e_call ?_) | (with_reducible refine e_md ?_)
  | (with_reducible refine t_test ?_) | (with_reducible refine t_B ?_) | (with_reducible refine t_and ?_) | (with_reducible refine t_or ?_) | (with_reducible refine t_not ?_)
  | (with_reducible refine e_andV ?_) | (with_reducible refine e_orV ?_) | (with_reducible refine e_notV ?_) | (with_reducible refine e_if ?_)
  | (with_reducible refine v_I0 ?_) | ((with_reducible refine v_I ?c ?_); try (case c => walk_at "side")) | (with_reducible refine v_bl ?_)
  | ((with_reducible refine v_eq ?c ?_); (case c => with_unfolding_all rfl)) | ((with_reducible refine v_ne ?c ?_); (case c => with_unfolding_all rfl))
  | (with_reducible refine v_inti ?_) | (with_reducible refine v_intb ?_) | ((with_reducible refine v_lenG ?_); refine ⟨_, (by walk_at "hl"), ?_⟩)
  | ((with_reducible refine v_lenS ?c ?_); try (case c => walk_at "side"))
  | (with_reducible refine e_dnew ?_) | (with_reducible refine e_dget ?_) | (with_reducible refine s_dput ?_) | (with_reducible refine e_lst ?_) | (with_reducible refine e_tup ?_)
  | ((with_reducible refine v_lst ?c ?_); (case c => walk_at "side")) | ((with_reducible refine v_tup ?c ?_); (case c => walk_at "side"))
  | ((with_reducible refine v_dgetG ?_); refine ⟨_, (by assumption), ?_⟩)
  | (with_reducible refine e_sl ?_) | (with_reducible refine e_nopart ?_) | (with_reducible refine e_part ?_) | (with_reducible refine e_m1 ?_) | (with_reducible refine v_isS ?_) | (with_reducible refine v_int ?_)
  | (with_reducible refine e_lc ?_) | (with_reducible refine e_iStr ?_) | (with_reducible refine e_iEnumS ?_) | (with_reducible refine v_iEnumS ?_) | (with_reducible refine v_str ?_) | (with_reducible refine e_yes ?_) | (with_reducible refine e_fld ?_) | (with_reducible refine e_sfld ?_)
  | ((with_reducible refine v_addS ?c ?_); try (case c => walk_at "side")) | (with_reducible refine v_inS ?_) | (with_reducible refine v_notInS ?_) | (with_reducible refine v_ltS ?_)
  | ((with_reducible refine v_inLG ?_); refine ⟨_, (by walk_at "hl"), ?_⟩) | (with_reducible refine v_isiS ?_) | (with_reducible refine e_revS ?_) | ((with_reducible refine v_revS ?c ?_); try (case c => walk_at "side"))
  | ((with_reducible refine v_lenSetG ?_); refine ⟨_, (by walk_at "hl"), ?_⟩)
  | (with_reducible refine e_bm ?_) | (with_reducible refine e_bm0 ?_) | ((with_reducible refine v_tyLG ?_); refine ⟨_, (by walk_at "hl"), ?_⟩)
  | (with_reducible refine iteNT ?_) | (with_reducible refine iteNF ?_) | (with_reducible refine e_for ?_)
  | (with_reducible refine e_iL ?_) | (with_reducible refine e_iT ?_) | ((with_reducible refine v_iLG ?_); refine ⟨_, (by walk_at "hl"), ?_⟩) | (with_reducible refine e_iR1 ?_) | ((with_reducible refine v_iR1 ?c1 ?c2 ?_); try (case c1 => walk_at "side"); try (case c2 => walk_at "side"))
  | (with_reducible refine e_iR2 ?_) | ((with_reducible refine v_iR2 ?c1 ?_); try (case c1 => walk_at "side"))
  | (with_reducible refine e_pr0 ?_) | (with_reducible refine e_pr ?_) | (with_reducible refine e_disp ?_) | (with_reducible refine s_asgT ?_) | (with_reducible refine e_tryA ?_) | (with_reducible refine e_callS ?_) | (with_reducible refine e_mdS ?_) | (with_reducible refine e_par ?_) | (with_reducible refine v_par ?_) | (with_reducible refine e_par3 ?_) | (with_reducible refine v_par3 ?_) | (with_reducible refine e_iK ?_) | (with_reducible refine e_dnotin ?_)
  | (with_reducible refine iteT ?_) | (with_reducible refine iteF ?_))
local macro_rules | `(tactic| walk_at "go") => `(tactic| repeat walk_at "st")
def spChecked (K : PySem.W.Frag) : Sp := fun vs H Q _ => ∃ (ks : List Nat) (p : Addr) (ps : List (List Nat)), vs = [.str (tx ks), .ref p] ∧ SeqO K H p (strsV ps) ∧ ps.length < 1000 ∧ PairsIn ks ps ∧ (∀ c ∈ ks, c ∈ LET) ∧
  ∀ t H', H t = none → Same H H' → H' t = some (.tup (strsV (pairsOf (ps.map ascOf)))) → Q (.ref t) H'
def spCross : Sp := fun vs H Q _ => ∃ (ks : List Nat) (t : Addr) (ps : List (List Nat)), vs = [.str (tx ks), .ref t] ∧ H t = some (.tup (strsV ps)) ∧ ks.length < 1000 ∧ ks.Nodup ∧
  ∀ d H', H d = none → Same H H' → H' d = some (.dK (crossKV ks ps ks)) → Q (.ref d) H'
section
variable {P : Program} {w : World} {K : PySem.W.Frag} {mg : Str → Option Value} {base : Heap} {C : Addr}
abbrev stchecked_pairs : Stmt := (top 30)
abbrev Nchecked_pairs : List Str := ["kinds", "crossing", "found", "pair", "a", "b"]
theorem scchecked_pairs : FnScope Nchecked_pairs ["kinds", "crossing"] (defScope stchecked_pairs) := ⟨rfl, rfl, rfl, by decide +kernel, rfl, by decide +kernel, by decide +kernel⟩

theorem ok_checked_pairs (F : FnAt K mg "checked_pairs" stchecked_pairs) (T : TxtP K mg C) (D_is_list : Def P w K mg base CX0 1 "is_list" ["value"] (spIsList K)) (D_are_letters : Def P w K mg base CX0 1 "are_letters" ["value"] spAreLetters) (D_ascending : Def P w K mg base CX0 1 "ascending" ["letters"] spAscending) :
    Def P w K mg base CX0 2 "checked_pairs" ["kinds", "crossing"] (spChecked K) := by
  refine F.ok scchecked_pairs (fun _ _ _ _ _ _ us hl => match us, hl with | [_, _], _ => rfl) (fun vs H Q E h => ?_) (fun f cdv A outer s H vs Q E hr h => ?_)
  · obtain ⟨ks, p, ps, rfl, _⟩ := h
    rfl
  obtain ⟨ks, p, ps, rfl, hp, hl, hps, hks, k⟩ := h
  have hu := hu_of hr
  have nd := scchecked_pairs.nd
  refine ⟨_, (pss_cons (ps_if (pt_not (pt_val (pe_cd D_is_list hr pass0 (pa_cons (pv 1) pa_nil))))
      (pss_one ps_never)
      pss_nil)
      (pss_cons (ps_set (i := 2) nd rfl (Or.inr rfl) (pe_lst pa_nil))
      (pss_cons (ps_for PassesOwn.never rfl (pi_or (pi_listK (K := K) rfl (pv 1)) (pi_tupK (K := K) rfl (pv 1))) (pg_name (i := 3) nd rfl (Or.inl rfl))
      (pss_cutS (ps_if (PW.pt (pw_or (pt_not (pt_val (pe_callB (c_isiK (K := K) rfl) (by rfl) T.isinstance (by decide +kernel) (pa_cons (pv 3) (pa_cons (pe_bltn (v := .ty "str") (u := .type "str") (by rfl) T.str (by decide +kernel) rfl) pa_nil))))) (pw_or (pt_cmpR op_ne (pe_callB c_lenS (by rfl) T.len PySem.boot_len (pa_cons (pv 3) pa_nil)) pe_int (nomark _)) (pw_or1 (pt_not (pt_val (pe_cd D_are_letters hr pass0 (pa_cons (pv 3) pa_nil))))))))
        (pss_one ps_never)
        pss_nil)
        (pss_cutS (ps_if (PW.pt (pw_or (pt_cmpR op_notInS (pe_ix ix_str (pv 3) pe_int (fun _ _ => rfl)) (pv 0) (by rfl)) (pw_or1 (pt_cmpR op_notInS (pe_ix ix_str (pv 3) pe_int (fun _ _ => rfl)) (pv 0) (by rfl)))))
        (pss_one ps_never)
        pss_nil)
        (pss_one (ps_expr (pe_appK (K := K) rfl (pv 2) (pe_cd D_ascending hr pass0 (pa_cons (pv 3) pa_nil))))))))
      (pss_one (ps_ret (pe_callTy (c_tupleK (K := K) rfl) (by rfl) T.tuple (by decide +kernel) (pa_cons (pe_lc2 (own := [("a", 4), ("b", 5)]) (vs1 := [5]) (by rfl) nd (pi_str (pe_globS T.g_LETTERS)) (blkOk_by (own := [("a", 4), ("b", 5)]) (N := Nchecked_pairs) (sc := defScope stchecked_pairs) (by decide +kernel)) (by decide) (fun _ _ _ _ _ => (pg_name (i := 4) nd rfl (Or.inl rfl))) (fun _ _ _ _ _ => pts_nil) (fun _ _ _ _ _ => (pi_str (pe_globS T.g_LETTERS))) (fun _ _ _ _ _ => (pg_name (i := 5) nd rfl (Or.inl rfl))) (fun _ _ _ _ _ => (pts_one (pt_cmpR (op_inLK (K := K) rfl) (pe_op op_addS (pv 4) (pv 5)) (pv 2) (by rfl)))) (fun _ _ _ _ _ => (pe_op op_addS (pv 4) (pv 5)))) pa_nil))))))), ?_⟩
  refine s_start [some _, some _, none, none, none, none] rfl ?_
  walk_at "go"
  refine ⟨p, _, rfl, hp, fun H1 s1 => ?_⟩
  walk_at "go"
  intro q H2 hq s2 e2
  walk_at "go"
  refine e_forSeq (xs := strsV ps) hp (s1.trans s2) (fun Q q => by walk_at "go"; exact q) (fun k σ H' => ∃ x, σ = [some (.str (tx ks)), some (.ref p), some (.ref q), x, none, none] ∧ Same H H' ∧ H' q = some (.lst (strsV ((ps.take k).map ascOf)))) ⟨_, rfl, s1.trans s2, e2⟩ ?_ ?_ ?_
  · rintro i σ H' ⟨x, rfl, s3, e3⟩
    exact s3
  · rintro i v σ H3 H4 hi ⟨x, rfl, s3, e3⟩ ⟨rfl, hv⟩
    have hi' : i < ps.length := by simpa using hi
    obtain ⟨a, b, hab, hne, ha, hb⟩ := hps _ (List.getElem_mem hi')
    have hv' : v = .str (tx [a, b]) := by
      have : (strsV ps)[i]? = some (V.str (tx ps[i])) := by
        rw [List.getElem?_map, List.getElem?_eq_getElem hi']
        rfl
      rw [hv, hab] at this
      exact Option.some.inj this
    subst hv'
    have ha2 := hks a ha
    have hb2 := hks b hb
    refine s_cut (fun σ' H' => σ' = [some (.str (tx ks)), some (.ref p), some (.ref q), some (.str (tx [a, b])), none, none] ∧ Same H4 H') ?_ ?_
    · walk_at "go"
      refine if_ndec (fun c => absurd rfl c) (fun _ => ?_)
      walk_at "go"
      refine ⟨[a, b], rfl, by simp, fun H5 s5 => ?_⟩
      have e5 : decide ((∀ c ∈ [a, b], c ∈ LET) ∧ [a, b].Nodup) = true := by
        rw [decide_eq_true_iff]
        refine ⟨?_, by simp [hne]⟩
        intro c hc
        simp only [List.mem_cons, List.not_mem_nil, or_false] at hc
        rcases hc with rfl | rfl <;> assumption
      rw [e5]
      walk_at "go"
      exact ⟨rfl, s5⟩
    · rintro σ' H5 ⟨rfl, s5⟩
      refine s_cut (fun σ' H' => σ' = [some (.str (tx ks)), some (.ref p), some (.ref q), some (.str (tx [a, b])), none, none] ∧ H' = H5) ?_ ?_
      · walk_at "go"
        refine v_ixS (c := a) (by simp) rfl ?_
        walk_at "go"
        refine if_ndec (fun c => absurd ha c) (fun _ => ?_)
        walk_at "go"
        refine v_ixS (c := b) (by simp) rfl ?_
        walk_at "go"
        refine if_ndec (fun c => absurd hb c) (fun _ => ?_)
        walk_at "go"
        exact ⟨rfl, rfl⟩
      · rintro σ' H6 ⟨rfl, rfl⟩
        have e6 := s5 _ _ e3
        walk_at "go"
        refine ⟨[a, b], rfl, fun H7 s7 => ?_⟩
        walk_at "go"
        refine v_app (s7 _ _ e6) ?_ fun H8 s8 e8 => ?_
        · simp only [strsV, List.length_map, List.length_take]
          omega
        refine ⟨_, rfl, fun b' o hb' => s8 _ _ (s7 _ _ (s5 _ _ (s3 _ _ hb'))) (ne_of_none hb' (L2.Same.free s1 hq)), ?_⟩
        rw [e8, List.take_add_one, List.getElem?_eq_getElem hi', hab, List.map_append]
        simp only [strsV, List.map_append]
        rfl
  · rintro σ H3 ⟨x, rfl, s3, e3⟩
    walk_at "go"
    rw [List.take_of_length_le (by simp)] at e3
    refine v_lc2S (lb := LET) (b := fun a b => decide ([a, b] ∈ ps.map ascOf)) (f := fun a b => V.str (tx [a, b])) (by decide) (by decide) (fun c _ H1 s1 R r => r) (fun c d _ _ H1 s1 R r => ?_) (fun c d _ _ _ H1 s1 R r => ?_) (fun D H5 hD s5 e5 => ?_)
    · have e1 := s1 _ _ e3
      walk_at "go"
      exact r H1 (Same.refl _)
    · walk_at "go"
      exact r H1 (Same.refl _)
    · walk_at "go"
      refine v_tuple e5 fun t H6 ht s6 e6 => ?_
      refine k t H6 (L2.Same.free s3 (L2.Same.free s5 ht)) ((s3.trans s5).trans s6) ?_
      rw [e6]
      unfold strsV pairsOf
      rw [List.map_flatMap]
      simp only [List.map_map]
      rfl
abbrev stcrossing_table : Stmt := (top 34)
abbrev Ncrossing_table : List Str := ["kinds", "pairs", "found", "kind", "other"]
theorem sccrossing_table : FnScope Ncrossing_table ["kinds", "pairs"] (defScope stcrossing_table) := ⟨rfl, rfl, rfl, by decide +kernel, rfl, by decide +kernel, by decide +kernel⟩

theorem ok_crossing_table (F : FnAt K mg "crossing_table" stcrossing_table) (T : TxtP K mg C) : Def P w K mg base CX0 1 "crossing_table" ["kinds", "pairs"] spCross := by
  refine F.ok sccrossing_table (fun _ _ _ _ _ _ us hl => match us, hl with | [_, _], _ => rfl) (fun vs H Q E h => ?_) (fun f cdv A outer s H vs Q E hr h => ?_)
  · obtain ⟨ks, t, ps, rfl, _⟩ := h
    rfl
  obtain ⟨ks, t, ps, rfl, ht, hl, hnd, k⟩ := h
  have hu := hu_of hr
  have nd := sccrossing_table.nd
  refine ⟨_, (pss_cons (ps_set (i := 2) nd rfl (Or.inl rfl) pe_dnewK)
      (pss_cons (ps_for PassesOwn.never rfl (pi_str (pv 0)) (pg_name (i := 3) nd rfl (Or.inr rfl))
      (pss_one (ps_dput hu (pv 2) (pv 3) (pe_joinK (K := K) rfl (pe_tx [] (by decide +kernel)) (pe_lc (own := [("other", 4)]) (g := gName 4) (by rfl) nd (pi_str (pv 0)) (blkOk_by (own := [("other", 4)]) (N := Ncrossing_table) (sc := defScope stcrossing_table) (by decide +kernel)) (fun _ _ _ _ _ => (pg_name (i := 4) nd rfl (Or.inl rfl))) (fun _ _ _ _ _ => (pts_one (PW.pt (pw_or (pt_cmpR (op_inLK (K := K) rfl) (pe_op op_addS (pv 3) (pv 4)) (pv 1) (by rfl)) (pw_or1 (pt_cmpR (op_inLK (K := K) rfl) (pe_op op_addS (pv 4) (pv 3)) (pv 1) (by rfl))))))) (fun _ _ _ _ _ => (pv 4)))) rfl)))
      (pss_one (ps_ret (pv 2))))), ?_⟩
  refine s_start [some _, some _, none, none, none] rfl ?_
  walk_at "go"
  intro d H1 hd s1 e1
  walk_at "go"
  refine for_it (walk_tx ks) (fun k σ H' => ∃ x, σ = [some (.str (tx ks)), some (.ref t), some (.ref d), x, none] ∧ Same H H' ∧ H' d = some (.dK (crossKV ks ps (ks.take k)))) ⟨_, rfl, s1, e1⟩ (fun _ _ _ _ _ => trivial) ?_ ?_
  · rintro i v σ H2 H3 hi ⟨x, rfl, s2, e2⟩ ⟨rfl, rfl⟩
    have h0 := s2 _ _ ht
    show sDPut _ _ _ _ _ _
    walk_at "go"
    refine v_lcS (b := fun o => decide ([ks.getD i 0, o] ∈ ps) || decide ([o, ks.getD i 0] ∈ ps)) (f := fun c => V.str (tx [c])) (by omega) (fun c _ H1 s1 R r => ?_) (fun c _ _ H1 s1 R r => ?_) (fun D H4 hD s4 e4 => ?_)
    · have h1 := s1 _ _ h0
      walk_at "go"
      refine v_inT (SqT.of h1) ?_
      walk_at "go"
      refine if_dec (fun c1 => ?_) (fun c1 => ?_)
      · rw [show [ks.getD i 0] ++ [c] = [ks.getD i 0, c] from rfl] at c1
        rw [decide_eq_true c1, Bool.true_or] at r
        exact r H1 (Same.refl _)
      · rw [show [ks.getD i 0] ++ [c] = [ks.getD i 0, c] from rfl] at c1
        walk_at "go"
        refine v_inT (SqT.of h1) ?_
        walk_at "go"
        rw [decide_eq_false c1, Bool.false_or] at r
        exact r H1 (Same.refl _)
    · walk_at "go"
      exact r H1 (Same.refl _)
    walk_at "go"
    rw [strs_ones] at e4
    refine v_join e4 ?_ ?_
    · rw [flat_ones]
      have := crossOf_len ks ps (ks.getD i 0)
      unfold crossOf at this
      omega
    rw [flat_ones]
    walk_at "go"
    have e5 := s4 _ _ e2
    have hz : valV (crossKV ks ps (ks.take i)) (Sum.inr (tx [ks.getD i 0])) = none := letV_none (take_notin hnd hi)
    refine v_put (DPut.cross e5 hz ?_) fun H6 s6 e6 => ?_
    · unfold crossKV
      rw [List.length_map, List.length_take]
      omega
    refine ⟨_, rfl, fun b o hb => s6 _ _ (s4 _ _ (s2 _ _ hb)) (ne_of_none hb hd), ?_⟩
    rw [e6, take_getD hi]
    unfold crossKV
    rw [List.map_append]
    rfl
  · rintro σ H2 ⟨x, rfl, s2, e2⟩
    rw [List.take_of_length_le (Nat.le_refl _)] at e2
    walk_at "go"
    exact k d H2 hd s2 e2
end
end Cw
set_option Elab.async false
set_option linter.all false
set_option maxRecDepth 100000
set_option maxHeartbeats 4000000
namespace Cw
open PySem PySem.Spec L2
local macro_rules | `(tactic| walk_at "side") => `(tactic| first | omega | assumption | (dsimp only; omega) | (unfold CMul; omega) | exact ⟨by decide, by decide, by decide⟩ | exact wdiv (by first | assumption | decide | omega) (by first | assumption | decide | omega) | (simp only [List.length_cons, List.length_nil]; omega) | rfl)
local macro_rules | `(tactic| walk_at "hl") => `(tactic| first | assumption | exact upd_same | ((refine Cw.Same.at (by assumption) ?_); walk_at "hl") | ((refine Cw.Keep.at (by assumption) ?_ (by assumption)); walk_at "hl"))
local macro_rules | `(tactic| walk_at "st") => `(tactic| first
  | (with_reducible refine s_seq ?_) | (with_reducible refine g_nm ?_) | (with_reducible refine s_next ?_) | (with_reducible refine s_set ?_) | (with_reducible refine s_drop ?_) | (with_reducible refine s_ret ?_) | (with_reducible refine s_if ?_)
  | ((with_reducible refine e_varG ?_); refine ⟨_, (by with_unfolding_all rfl), ?_⟩) | (with_reducible refine e_c ?_) | (with_reducible refine e_op ?_) | (with_reducible refine e_un ?_)
  | (with_reducible refine e_cons ?_) | (with_reducible refine e_nil ?_) | (with_reducible refine e_cb ?_) | (with_reducible refine e_call ?_) | (with_reducible refine e_md ?_)
  | (with_reducible refine t_test ?_) | (with_reducible refine t_B ?_) | (with_reducible refine t_and ?_) | (with_reducible refine t_or ?_) | (with_reducible refine t_not ?_)
  | (with_reducible refine e_andV ?_) | (with_reducible refine e_orV ?_) | (with_reducible refine e_notV ?_) | (with_reducible refine e_if ?_)
  | (with_reducible refine v_I0 ?_) | ((with_reducible refine v_I ?c ?_); try (case c => walk_at "side")) | (with_reducible refine v_bl ?_)
  | ((with_reducible refine v_eq ?c ?_); (case c => with_unfolding_all rfl)) | ((with_reducible refine v_ne ?c ?_); (case c => with_unfolding_all rfl))
  | (with_reducible refine v_inti ?_) | (with_reducible refine v_intb ?_) | ((with_reducible refine v_lenG ?_); refine ⟨_, (by walk_at "hl"), ?_⟩)
  | ((with_reducible refine v_lenS ?c ?_); try (case c => walk_at "side"))
  | (with_reducible refine e_dnew ?_) | (with_reducible refine e_dget ?_) | (with_reducible refine s_dput ?_) | (with_reducible refine e_lst ?_) | (with_reducible refine e_tup ?_)
  | ((with_reducible refine v_lst ?c ?_); (case c => walk_at "side")) | ((with_reducible refine v_tup ?c ?_); (case c => walk_at "side"))
  | ((with_reducible refine v_dgetG ?_); refine ⟨_, (by assumption), ?_⟩)
  | (with_reducible refine e_sl ?_) | (with_reducible refine e_nopart ?_) | (with_reducible refine e_part ?_) | (with_reducible refine e_m1 ?_) | (with_reducible refine v_isS ?_) | (with_reducible refine v_int ?_)
  | (with_reducible refine e_lc ?_) | (with_reducible refine e_iStr ?_) | (with_reducible refine e_iEnumS ?_) | (with_reducible refine v_iEnumS ?_) | (with_reducible refine v_str ?_) | (with_reducible refine e_yes ?_) | (with_reducible refine e_fld ?_) | (with_reducible refine e_sfld ?_)
  | ((with_reducible refine v_addS ?c ?_); try (case c => walk_at "side")) | (with_reducible refine v_inS ?_) | (with_reducible refine v_notInS ?_) | (with_reducible refine v_ltS ?_)
  | ((with_reducible refine v_inLG ?_); refine ⟨_, (by walk_at "hl"), ?_⟩) | (with_reducible refine v_isiS ?_) | (with_reducible refine e_revS ?_) | ((with_reducible refine v_revS ?c ?_); try (case c => walk_at "side"))
  | ((with_reducible refine v_lenSetG ?_); refine ⟨_, (by walk_at "hl"), ?_⟩)
  | (with_reducible refine e_bm ?_) | (with_reducible refine e_bm0 ?_) | ((with_reducible refine v_tyLG ?_); refine ⟨_, (by walk_at "hl"), ?_⟩)
  | (with_reducible refine iteNT ?_) | (with_reducible refine iteNF ?_) | (with_reducible refine e_for ?_)
  | (with_reducible refine e_iL ?_) | (with_reducible refine e_iT ?_) | ((with_reducible refine v_iLG ?_); refine ⟨_, (by walk_at "hl"), ?_⟩) | (with_reducible refine e_iR1 ?_) | ((with_reducible refine v_iR1 ?c1 ?c2 ?_); try (case c1 => walk_at "side"); try (case c2 => walk_at "side"))
  | (with_reducible refine e_iR2 ?_) | ((with_reducible refine v_iR2 ?c1 ?_); try (case c1 => walk_at "side"))
  | (with_reducible refine e_pr0 ?_) | (with_reducible refine e_pr ?_) | (with_reducible refine e_disp ?_) | (with_reducible refine s_asgT ?_) | (with_reducible refine e_tryA ?_) | (with_reducible refine e_callS ?_) | (with_reducible refine e_mdS ?_) | (with_reducible refine e_par ?_) | (with_reducible refine v_par ?_) | (with_reducible refine e_par3 ?_) | (with_reducible refine v_par3 ?_) | (with_reducible refine e_iK ?_) | (with_reducible refine e_dnotin ?_)
  | (with_reducible refine iteT ?_) | (with_reducible refine iteF ?_))
local macro_rules | `(tactic| walk_at "go") => `(tactic| repeat walk_at "st")
def planF (ks : List Nat) (t d : Addr) : List (Str × V) := putF "own_crossing" (.ref d) (putF "pairs" (.ref t) (putF "kinds" (.str (tx ks)) []))
theorem nkp : ¬ (("kinds" : Str) = "pairs") := by decide +kernel
theorem nko : ¬ (("kinds" : Str) = "own_crossing") := by decide +kernel
theorem npo : ¬ (("pairs" : Str) = "own_crossing") := by decide +kernel
section
variable {ks : List Nat} {t d : Addr}
theorem planF_k : (planF ks t d).lookup ("kinds" : Str) = some (.str (tx ks)) := by
  unfold planF
  rw [lookup_putF, if_neg nko, lookup_putF, if_neg nkp, lookup_putF, if_pos rfl]
theorem planF_p : (planF ks t d).lookup ("pairs" : Str) = some (.ref t) := by
  unfold planF
  rw [lookup_putF, if_neg npo, lookup_putF, if_pos rfl]
theorem planF_o : (planF ks t d).lookup ("own_crossing" : Str) = some (.ref d) := by
  unfold planF
  rw [lookup_putF, if_pos rfl]
end
/-- a plan of the kinds ks and the pairs ps stands at x -/
structure PlanAt (C : Addr) (H : Hp) (x : Addr) (ks : List Nat) (ps : List (List Nat)) : Prop where
  ex : ∃ dx t d, H x = some (.ins C dx (planF ks t d)) ∧ H t = some (.tup (strsV ps)) ∧ H d = some (.dK (crossKV ks ps ks))
theorem PlanAt.same {C : Addr} {H H' : Hp} {x : Addr} {ks : List Nat} {ps : List (List Nat)} (h : PlanAt C H x ks ps) (s : Same H H') : PlanAt C H' x ks ps := by
  obtain ⟨dx, t, d, a, b, c⟩ := h.ex
  exact ⟨dx, t, d, s _ _ a, s _ _ b, s _ _ c⟩
/-- the plan at x does not rest on the object at b -/
def PlanOff (C : Addr) (H : Hp) (x b : Addr) : Prop := ∃ dx ks t d, H x = some (.ins C dx (planF ks t d)) ∧ b ≠ t ∧ b ≠ d
theorem PlanOff.same {C : Addr} {H H' : Hp} {x b : Addr} (h : PlanOff C H x b) (s : Same H H') : PlanOff C H' x b := by
  obtain ⟨dx, ks, t, d, e, n⟩ := h
  exact ⟨dx, ks, t, d, s _ _ e, n⟩
theorem PlanAt.off {C : Addr} {H H' : Hp} {x b : Addr} {ks : List Nat} {ps : List (List Nat)} (h : PlanAt C H x ks ps) (n : PlanOff C H x b) (nx : x ≠ b) (k : Keep b H H') : PlanAt C H' x ks ps := by
  obtain ⟨dx, t, d, a1, a2, a3⟩ := h.ex
  obtain ⟨dx', ks', t', d', e, n1, n2⟩ := n
  rw [a1] at e
  injection e with e
  injection e with _ _ e
  have e1 := planF_p (ks := ks) (t := t) (d := d)
  rw [e, planF_p] at e1
  injection e1 with e1
  injection e1 with e1
  have e2 := planF_o (ks := ks) (t := t) (d := d)
  rw [e, planF_o] at e2
  injection e2 with e2
  injection e2 with e2
  exact ⟨dx, t, d, k _ _ a1 nx, k _ _ a2 (fun z => n1 (z.symm.trans e1.symm)), k _ _ a3 (fun z => n2 (z.symm.trans e2.symm))⟩
/-- the kinds and pairs of Plan(l, ps) -/
abbrev kindsOf (l : List Nat) : List Nat := ascOf l
abbrev prsOf (ps : List (List Nat)) : List (List Nat) := pairsOf (ps.map ascOf)
def PlanArgs (K : PySem.W.Frag) (H : Hp) (l : List Nat) (p : Addr) (ps : List (List Nat)) : Prop := SeqO K H p (strsV ps) ∧ ps.length < 1000 ∧ PairsIn l ps ∧ (∀ c ∈ l, c ∈ LET) ∧ l.Nodup ∧ l.length ≤ 8
def spPlan0 (K : PySem.W.Frag) (C : Addr) : Sp := fun vs H Q _ => ∃ (x dx : Addr) (l : List Nat) (p : Addr) (ps : List (List Nat)), vs = [.ref x, .str (tx l), .ref p] ∧ H x = some (.ins C dx []) ∧ PlanArgs K H l p ps ∧
  ∀ H', Keep x H H' → PlanAt C H' x (kindsOf l) (prsOf ps) → (∀ b o, H b = some o → b ≠ x → PlanOff C H' x b) → Q .non H'
def spPlan (K : PySem.W.Frag) (C : Addr) : Sp := fun vs H Q _ => ∃ (l : List Nat) (p : Addr) (ps : List (List Nat)), vs = [.str (tx l), .ref p] ∧ PlanArgs K H l p ps ∧ ∀ x H', H x = none → Same H H' → PlanAt C H' x (kindsOf l) (prsOf ps) → (∀ b o, H b = some o → PlanOff C H' x b) → Q (.ref x) H'
theorem conv_plan (K : PySem.W.Frag) (C : Addr) : Conv C (spPlan0 K C) (spPlan K C) := by
  rintro vs H Q E ⟨l, p, ps, rfl, ⟨hp, hr⟩, k⟩ x dx hx hdx hne
  refine ⟨x, dx, l, p, ps, rfl, upd_same, ⟨hp.go fun o ho => by rw [upd_ne (ne_of_none ho hx), upd_ne (ne_of_none ho hdx)]; exact ho, hr⟩, fun H' s' a off => ⟨rfl, k x H' hx (fun b o hb => ?_) a fun b o hb => off b o (by rw [upd_ne (ne_of_none hb hx), upd_ne (ne_of_none hb hdx)]; exact hb) (ne_of_none hb hx)⟩⟩
  refine s' b o ?_ (ne_of_none hb hx)
  rw [upd_ne (ne_of_none hb hx), upd_ne (ne_of_none hb hdx)]
  exact hb
theorem asc_len {l : List Nat} (h1 : ∀ c ∈ l, c ∈ LET) (h2 : l.Nodup) : (ascOf l).length = l.length := by
  have p : (ascOf l).Perm l := by
    refine (List.perm_ext_iff_of_nodup (ascOf_nodup l) h2).mpr fun c => ?_
    rw [ascOf_mem]
    exact ⟨fun z => z.2, fun z => ⟨h1 c z, z⟩⟩
  exact p.length_eq
section
variable {P : Program} {w : World} {K : PySem.W.Frag} {mg : Str → Option Value} {base : Heap} {C : Addr}
abbrev stPlan_init : Stmt := (inClass (top 33) 0)
abbrev NPlan_init : List Str := ["self", "kinds", "crossing"]
theorem scPlan_init : FnScope NPlan_init ["self", "kinds", "crossing"] (defScope stPlan_init) := ⟨rfl, rfl, rfl, by decide +kernel, rfl, by decide +kernel, by decide +kernel⟩

theorem ok_Plan {dvs : List V} (F : MAtD K C "__init__" "Plan.__init__" stPlan_init dvs) (hd : dvs.length = 1) (T : TxtP K mg C) (D_are_letters : Def P w K mg base CX0 1 "are_letters" ["value"] spAreLetters) (D_ascending : Def P w K mg base CX0 1 "ascending" ["letters"] spAscending)
    (D_checked_pairs : Def P w K mg base CX0 2 "checked_pairs" ["kinds", "crossing"] (spChecked K)) (D_need_few : Def P w K mg base CX0 1 "need_few" ["kinds"] spNeedFew) (D_crossing_table : Def P w K mg base CX0 1 "crossing_table" ["kinds", "pairs"] spCross) :
    CMk P w K mg base CX0 3 "Plan" C (spPlan K C) ["self", "kinds", "crossing"] "Plan.__init__" stPlan_init dvs := by
  refine F.make (sp0 := spPlan0 K C) T.Plan scPlan_init (by intro z; rw [z] at hd; cases hd) (fun T kV doc pm an cdv ct us its l1 l2 => ?_) (fun vs H Q E h => ?_) (conv_plan K C) (fun f cdv A outer s H vs Q E hr h => ?_)
  · rw [hd] at l2 ⊢
    match us, l1, its, l2 with
    | [_, _, _], _, [_], _ => exact ⟨_, rfl, rfl⟩
  · obtain ⟨x, dx, l, p, ps, rfl, _⟩ := h
    rfl
  obtain ⟨x, dx, l, p, ps, rfl, hx, ⟨hp, h1, h2, h3, h4, h5⟩, k⟩ := h
  have hu := hu_of hr
  have nd := scPlan_init.nd
  replace D_are_letters := D_are_letters.mono (show 1 ≤ 2 by decide)
  replace D_ascending := D_ascending.mono (show 1 ≤ 2 by decide)
  replace D_need_few := D_need_few.mono (show 1 ≤ 2 by decide)
  replace D_crossing_table := D_crossing_table.mono (show 1 ≤ 2 by decide)
  refine ⟨_, (pss_cons (ps_if (pt_not (pt_val (pe_cd D_are_letters hr pass0 (pa_cons (pv 1) pa_nil))))
      (pss_one ps_never)
      pss_nil)
      (pss_cons (ps_flK (K := K) rfl (pv 0) (pe_cd D_ascending hr pass0 (pa_cons (pv 1) pa_nil)) rfl)
      (pss_cons (ps_flK (K := K) rfl (pv 0) (pe_cd D_checked_pairs hr pass0 (pa_cons (pe_flK (K := K) rfl (pv 0) rfl) (pa_cons (pv 2) pa_nil))) rfl)
      (pss_cons (ps_expr (pe_cd D_need_few hr pass0 (pa_cons (pe_flK (K := K) rfl (pv 0) rfl) pa_nil)))
      (pss_one (ps_flK (K := K) rfl (pv 0) (pe_cd D_crossing_table hr pass0 (pa_cons (pe_flK (K := K) rfl (pv 0) rfl) (pa_cons (pe_flK (K := K) rfl (pv 0) rfl) pa_nil))) rfl)))))), ?_⟩
  refine s_start [some _, some _, some _] rfl ?_
  walk_at "go"
  refine ⟨l, rfl, by omega, fun H1 s1 => ?_⟩
  rw [decide_eq_true (show (∀ c ∈ l, c ∈ LET) ∧ l.Nodup from ⟨h3, h4⟩)]
  walk_at "go"
  refine ⟨l, rfl, fun H2 s2 => ?_⟩
  walk_at "go"
  have s12 := s1.trans s2
  refine v_sfld (s12 _ _ hx) T.Plan.cl T.nK (by decide) fun H3 s3 e3 => ?_
  have hp3 := (hp.same s12).keepI s3 (s12 _ _ hx)
  walk_at "go"
  refine v_fld e3 T.Plan.cl T.nK (by rw [lookup_putF, if_pos rfl]) ?_
  walk_at "go"
  refine ⟨ascOf l, p, ps, rfl, hp3, h1, ?_, fun c hc => (ascOf_mem.mp hc).1, fun t H4 ht s4 e4 => ?_⟩
  · intro q hq
    obtain ⟨a, b, e, n, ha, hb⟩ := h2 q hq
    exact ⟨a, b, e, n, ascOf_mem.mpr ⟨h3 a ha, ha⟩, ascOf_mem.mpr ⟨h3 b hb, hb⟩⟩
  walk_at "go"
  refine v_sfld (s4 _ _ e3) T.Plan.cl T.nP (by show 1 < 1000; decide) fun H5 s5 e5 => ?_
  have nt : t ≠ x := fun z => by rw [z, e3] at ht; cases ht
  have e5t := s5 _ _ e4 nt
  walk_at "go"
  refine v_fld e5 T.Plan.cl T.nK (by rw [lookup_putF, if_neg nkp, lookup_putF, if_pos rfl]) ?_
  walk_at "go"
  refine ⟨ascOf l, rfl, by rw [asc_len h3 h4]; exact h5, ?_⟩
  walk_at "go"
  refine v_fld e5 T.Plan.cl T.nK (by rw [lookup_putF, if_neg nkp, lookup_putF, if_pos rfl]) ?_
  walk_at "go"
  refine v_fld e5 T.Plan.cl T.nP (by rw [lookup_putF, if_pos rfl]) ?_
  walk_at "go"
  refine ⟨ascOf l, t, _, rfl, e5t, by have := ascOf_len l; omega, ascOf_nodup l, fun d H6 hd s6 e6 => ?_⟩
  walk_at "go"
  refine v_sfld (s6 _ _ e5) T.Plan.cl T.nO (by show 2 < 1000; decide) fun H7 s7 e7 => ?_
  have ndx : d ≠ x := fun z => by rw [z, e5] at hd; cases hd
  refine k H7 (fun b o hb nb => s7 _ _ (s6 _ _ (s5 _ _ (s4 _ _ (s3 _ _ (s12 _ _ hb) nb)) nb)) nb) ⟨dx, t, d, e7, s7 _ _ (s6 _ _ e5t) nt, s7 _ _ e6 ndx⟩ fun b o hb nb => ⟨dx, _, t, d, e7, ?_, ?_⟩
  · exact ne_of_none (s3 _ _ (s12 _ _ hb) nb) ht
  · exact ne_of_none (s5 _ _ (s4 _ _ (s3 _ _ (s12 _ _ hb) nb)) nb) hd
end
end Cw
set_option Elab.async false
set_option linter.all false
set_option maxRecDepth 100000
set_option maxHeartbeats 4000000
namespace Cw
open PySem PySem.Spec L2
local macro_rules | `(tactic| walk_at "side") => `(tactic| first | omega | assumption | (dsimp only; omega) | (unfold CMul; omega) | exact ⟨by decide, by decide, by decide⟩ | exact wdiv (by first | assumption | decide | omega) (by first | assumption | decide | omega) | (simp only [List.length_cons, List.length_nil]; omega) | rfl)
local macro_rules | `(tactic| walk_at "hl") => `(tactic| first | assumption | exact upd_same | ((refine Cw.Same.at (by assumption) ?_); walk_at "hl") | ((refine Cw.Keep.at (by assumption) ?_ (by assumption)); walk_at "hl"))
local macro_rules | `(tactic| walk_at "st") => `(tactic| first
  | (with_reducible refine s_seq ?_) | (with_reducible refine g_nm ?_) | (with_reducible refine s_next ?_) | (with_reducible refine s_set ?_) | (with_reducible refine s_drop ?_) | (with_reducible refine s_ret ?_) | (with_reducible refine s_if ?_)
  | ((with_reducible refine e_varG ?_); refine ⟨_, (by with_unfolding_all rfl), ?_⟩) | (with_reducible refine e_c ?_) | (with_reducible refine e_op ?_) | (with_reducible refine e_un ?_)
  | (with_reducible refine e_cons ?_) | (with_reducible refine e_nil ?_) | (with_reducible refine e_cb ?_) | (with_reducible refine e_call ?_) | (with_reducible refine e_md ?_)
  | (with_reducible refine t_test ?_) | (with_reducible refine t_B ?_) | (with_reducible refine t_and ?_) | (with_reducible refine t_or ?_) | (with_reducible refine t_not ?_)
  | (with_reducible refine e_andV ?_) | (with_reducible refine e_orV ?_) | (with_reducible refine e_notV ?_) | (with_reducible refine e_if ?_)
  | (with_reducible refine v_I0 ?_) | ((with_reducible refine v_I ?c ?_); try (case c => walk_at "side")) | (with_reducible refine v_bl ?_)
  | ((with_reducible refine v_eq ?c ?_); (case c => with_unfolding_all rfl)) | ((with_reducible refine v_ne ?c ?_); (case c => with_unfolding_all rfl))
  | (with_reducible refine v_inti ?_) | (with_reducible refine v_intb ?_) | ((with_reducible refine v_lenG ?_); refine ⟨_, (by walk_at "hl"), ?_⟩)
  | ((with_reducible refine v_lenS ?c ?_); try (case c => walk_at "side"))
  | (with_reducible refine e_dnew ?_) | (with_reducible refine e_dget ?_) | (with_reducible refine s_dput ?_) | (with_reducible refine e_lst ?_) | (with_reducible refine e_tup ?_)
  | ((with_reducible refine v_lst ?c ?_); (case c => walk_at "side")) | ((with_reducible refine v_tup ?c ?_); (case c => walk_at "side"))
  | ((with_reducible refine v_dgetG ?_); refine ⟨_, (by assumption), ?_⟩)
  | (with_reducible refine e_sl ?_) | (with_reducible refine e_nopart ?_) | (with_reducible refine e_part ?_) | (with_reducible refine e_m1 ?_) | (with_reducible refine v_isS ?_) | (with_reducible refine v_int ?_)
  | (with_reducible refine e_lc ?_) | (with_reducible refine e_iStr ?_) | (with_reducible refine e_iEnumS ?_) | (with_reducible refine v_iEnumS ?_) | (with_reducible refine v_str ?_) | (with_reducible refine e_yes ?_) | (with_reducible refine e_fld ?_) | (with_reducible refine e_sfld ?_)
  | ((with_reducible refine v_addS ?c ?_); try (case c => walk_at "side")) | (with_reducible refine v_inS ?_) | (with_reducible refine v_notInS ?_) | (with_reducible refine v_ltS ?_)
  | ((with_reducible refine v_inLG ?_); refine ⟨_, (by walk_at "hl"), ?_⟩) | (with_reducible refine v_isiS ?_) | (with_reducible refine e_revS ?_) | ((with_reducible refine v_revS ?c ?_); try (case c => walk_at "side"))
  | ((with_reducible refine v_lenSetG ?_); refine ⟨_, (by walk_at "hl"), ?_⟩)
  | (with_reducible refine e_bm ?_) | (with_reducible refine e_bm0 ?_) | ((with_reducible refine v_tyLG ?_); refine ⟨_, (by walk_at "hl"), ?_⟩)
  | (with_reducible refine iteNT ?_) | (with_reducible refine iteNF ?_) | (with_reducible refine e_for ?_)
  | (with_reducible refine e_iL ?_) | (with_reducible refine e_iT ?_) | ((with_reducible refine v_iLG ?_); refine ⟨_, (by walk_at "hl"), ?_⟩) | (with_reducible refine e_iR1 ?_) | ((with_reducible refine v_iR1 ?c1 ?c2 ?_); try (case c1 => walk_at "side"); try (case c2 => walk_at "side"))
  | (with_reducible refine e_iR2 ?_) | ((with_reducible refine v_iR2 ?c1 ?_); try (case c1 => walk_at "side"))
  | (with_reducible refine e_pr0 ?_) | (with_reducible refine e_pr ?_) | (with_reducible refine e_disp ?_) | (with_reducible refine s_asgT ?_) | (with_reducible refine e_tryA ?_) | (with_reducible refine e_callS ?_) | (with_reducible refine e_mdS ?_) | (with_reducible refine e_par ?_) | (with_reducible refine v_par ?_) | (with_reducible refine e_par3 ?_) | (with_reducible refine v_par3 ?_) | (with_reducible refine e_iK ?_) | (with_reducible refine e_dnotin ?_)
  | (with_reducible refine iteT ?_) | (with_reducible refine iteF ?_))
local macro_rules | `(tactic| walk_at "go") => `(tactic| repeat walk_at "st")
/-- letters alone -/
def PsOk (ps : List (List Nat)) : Prop := ∀ l ∈ ps, ∀ c ∈ l, c < 1000
def spPlanEq (C : Addr) : Sp := fun vs H Q _ => ∃ (x y : Addr) (ks ks' : List Nat) (ps ps' : List (List Nat)), vs = [.ref x, .ref y] ∧ PlanAt C H x ks ps ∧ PlanAt C H y ks' ps' ∧ PsOk ps ∧ PsOk ps' ∧ Q (.bl (decide (ks = ks' ∧ ps = ps'))) H
def spStepped (C : Addr) : Sp := fun vs H Q _ => ∃ (x : Addr) (ks : List Nat) (ps : List (List Nat)) (name : List Nat) (k : Nat), vs = [.ref x, .str (tx name), .str (tx [k])] ∧ PlanAt C H x ks ps ∧ k ∈ ks ∧ name.length ≤ 100000 ∧ Q (.str (tx (stepOf (crossOf ks ps k) name k))) H
def spJoined (C : Addr) : Sp := fun vs H Q _ => ∃ (x : Addr) (ks : List Nat) (ps : List (List Nat)) (name way : List Nat), vs = [.ref x, .str (tx name), .str (tx way)] ∧ PlanAt C H x ks ps ∧ (∀ c ∈ way, c ∈ ks) ∧ name.length + way.length ≤ 100000 ∧ Q (.str (tx (joinOf ks ps name way))) H
def spBack (C : Addr) : Sp := fun vs H Q _ => ∃ (x : Addr) (ks : List Nat) (ps : List (List Nat)) (name : List Nat), vs = [.ref x, .str (tx name)] ∧ PlanAt C H x ks ps ∧ (∀ c ∈ name, c ∈ ks) ∧ name.length ≤ 50000 ∧ Q (.str (tx (backOf ks ps name))) H
def spWayFrom (C : Addr) : Sp := fun vs H Q _ => ∃ (x : Addr) (ks : List Nat) (ps : List (List Nat)) (name goal : List Nat), vs = [.ref x, .str (tx name), .str (tx goal)] ∧ PlanAt C H x ks ps ∧ (∀ c ∈ name, c ∈ ks) ∧ (∀ c ∈ goal, c ∈ ks) ∧ name.length ≤ 50000 ∧ goal.length ≤ 50000 ∧ Q (.str (tx (wayOf ks ps name goal))) H
section
variable {P : Program} {w : World} {K : PySem.W.Frag} {mg : Str → Option Value} {base : Heap} {C : Addr}
abbrev stPlan_eq : Stmt := (inClass (top 33) 2)
abbrev NPlan_eq : List Str := ["self", "other"]
theorem scPlan_eq : FnScope NPlan_eq ["self", "other"] (defScope stPlan_eq) := ⟨rfl, rfl, rfl, by decide +kernel, rfl, by decide +kernel, by decide +kernel⟩

theorem ok_Plan_eq (F : MAt K C "__eq__" "Plan.__eq__" stPlan_eq) (T : TxtP K mg C) : MDef P w K mg base CX0 1 C "__eq__" ["self", "other"] (spPlanEq C) := by
  refine F.ok scPlan_eq (fun _ _ _ _ _ _ us hl => match us, hl with | [_, _], _ => rfl) (fun vs H Q E h => ?_) (fun f cdv A outer s H vs Q E hr h => ?_)
  · obtain ⟨x, y, ks, ks', ps, ps', rfl, _⟩ := h
    rfl
  obtain ⟨x, y, ks, ks', ps, ps', rfl, h1, h2, o1, o2, k⟩ := h
  have hu := hu_of hr
  have nd := scPlan_eq.nd
  refine ⟨_, (pss_one (ps_ret (pe_and (pe_callB (c_isiK (K := K) rfl) (by rfl) T.isinstance (by decide +kernel) (pa_cons (pv 1) (pa_cons (pe_globC T.Plan.at) pa_nil))) (pe_and (pe_cmpR op_eq (pe_flK (K := K) rfl (pv 0) rfl) (pe_flK (K := K) rfl (pv 1) rfl) (nomark _)) (pe_one (pe_cmpR (op_eqDK (K := K) rfl hr.units) (pe_flK (K := K) rfl (pv 0) rfl) (pe_flK (K := K) rfl (pv 1) rfl) (nomark _))))))), ?_⟩
  refine s_start [some _, some _] rfl ?_
  obtain ⟨dx, t, d, a1, a2, a3⟩ := h1.ex
  obtain ⟨dy, t', d', b1, b2, b3⟩ := h2.ex
  walk_at "go"
  refine v_isiC T.Plan b1 ?_
  walk_at "go"
  refine v_fld a1 T.Plan.cl T.nK planF_k ?_
  walk_at "go"
  refine v_fld b1 T.Plan.cl T.nK planF_k ?_
  walk_at "go"
  rw [dec_tx]
  refine if_dec (fun c => ?_) (fun c => ?_)
  · walk_at "go"
    refine v_fld a1 T.Plan.cl T.nP planF_p ?_
    walk_at "go"
    refine v_fld b1 T.Plan.cl T.nP planF_p ?_
    walk_at "go"
    refine v_eqT a2 b2 o1 o2 ?_
    have e : decide (ks = ks' ∧ ps = ps') = decide (ps = ps') := decide_eq_decide.mpr ⟨fun z => z.2, fun z => ⟨c, z⟩⟩
    rw [e] at k
    exact k
  · rw [decide_eq_false fun z => c z.1] at k
    exact k
abbrev ststepped : Stmt := (top 2)
abbrev Nstepped : List Str := ["plan", "name", "kind", "partners", "place"]
theorem scstepped : FnScope Nstepped ["plan", "name", "kind"] (defScope ststepped) := ⟨rfl, rfl, rfl, by decide +kernel, rfl, by decide +kernel, by decide +kernel⟩

theorem ok_stepped (F : FnAt K mg "stepped" ststepped) (T : TxtP K mg C) : Def P w K mg base CX0 1 "stepped" ["plan", "name", "kind"] (spStepped C) := by
  refine F.ok scstepped (fun _ _ _ _ _ _ us hl => match us, hl with | [_, _, _], _ => rfl) (fun vs H Q E h => ?_) (fun f cdv A outer s H vs Q E hr h => ?_)
  · obtain ⟨x, ks, ps, name, k, rfl, _⟩ := h
    rfl
  obtain ⟨x, ks, ps, name, k, rfl, h1, hk, hl, q⟩ := h
  have hu := hu_of hr
  have nd := scstepped.nd
  refine ⟨_, (pss_cons (ps_set (i := 3) nd rfl (Or.inl rfl) (pe_dget hu (pe_flK (K := K) rfl (pv 0) rfl) (pv 2) (fun _ _ => rfl)))
      (pss_cons (ps_set (i := 4) nd rfl (Or.inl rfl) (pe_callB c_lenS (by rfl) T.len PySem.boot_len (pa_cons (pv 1) pa_nil)))
      (pss_cutS (ps_while PassesOwn.never (PW.pt (pw_and (pt_cmpR op_gt (pv 4) pe_int (nomark _)) (pw_and1 (pt_cmpR op_inS (pe_ix ix_str (pv 1) (pe_op op_sub (pv 4) pe_int) (fun _ _ => rfl)) (pv 3) (by rfl)))))
      (pss_one (ps_set (i := 4) nd rfl (Or.inl rfl) (pe_op op_sub (pv 4) pe_int))))
      (pss_cutS (ps_if (PW.pt (pw_and (pt_cmpR op_gt (pv 4) pe_int (nomark _)) (pw_and1 (pt_cmpR op_eq (pe_ix ix_str (pv 1) (pe_op op_sub (pv 4) pe_int) (fun _ _ => rfl)) (pv 2) (nomark _)))))
      (pss_one (ps_ret (pe_op op_addS (pe_slice sl_S (pv 1) po_none (po_some (pe_op op_sub (pv 4) pe_int))) (pe_slice sl_S (pv 1) (po_some (pv 4)) po_none))))
      pss_nil)
      (pss_cutS (ps_while PassesOwn.never (PW.pt (pw_and (pt_cmpR op_lt (pv 4) (pe_callB c_lenS (by rfl) T.len PySem.boot_len (pa_cons (pv 1) pa_nil)) (nomark _)) (pw_and1 (pt_cmpR op_ltS (pe_ix ix_str (pv 1) (pv 4) (fun _ _ => rfl)) (pv 2) (nomark _)))))
      (pss_one (ps_set (i := 4) nd rfl (Or.inl rfl) (pe_op op_add (pv 4) pe_int))))
      (pss_one (ps_ret (pe_op op_addS (pe_op op_addS (pe_slice sl_S (pv 1) po_none (po_some (pv 4))) (pv 2)) (pe_slice sl_S (pv 1) (po_some (pv 4)) po_none))))))))), ?_⟩
  refine s_start [some _, some _, some _, none, none] rfl ?_
  obtain ⟨dx, t, d, a1, a2, a3⟩ := h1.ex
  walk_at "go"
  refine v_fld a1 T.Plan.cl T.nO planF_o ?_
  walk_at "go"
  refine v_dget (dget_let (g := fun k => V.str (tx (crossOf ks ps k))) a3 hk) ?_
  walk_at "go"
  refine s_cut (fun σ H' => ∃ ra b : List Nat, name = ra.reverse ++ b ∧ splitB (crossOf ks ps k) name.reverse [] = (ra, b) ∧ σ = [some (.ref x), some (.str (tx name)), some (.str (tx [k])), some (.str (tx (crossOf ks ps k))), some (.int (ra.length : Nat))] ∧ H' = H) ?_ ?_
  · refine s_while (fun m σ H' => ∃ ra b : List Nat, m = ra.length ∧ name = ra.reverse ++ b ∧ splitB (crossOf ks ps k) name.reverse [] = splitB (crossOf ks ps k) ra b ∧ σ = [some (.ref x), some (.str (tx name)), some (.str (tx [k])), some (.str (tx (crossOf ks ps k))), some (.int (ra.length : Nat))] ∧ H' = H) name.length ⟨name.reverse, [], by simp, by simp, rfl, by simp, rfl⟩ ?_
    rintro m σ H' ⟨ra, b, rfl, e1, e2, rfl, rfl⟩
    walk_at "go"
    cases ra with
    | nil =>
      refine if_dec (fun c => absurd c (by simp)) (fun _ => ?_)
      walk_at "go"
      exact ⟨[], b, e1, e2, rfl, rfl⟩
    | cons y r =>
      refine if_dec (fun _ => ?_) (fun c => absurd (by simp) c)
      walk_at "go"
      refine v_ixS (c := y) (by omega) (by rw [e1]; exact at_last) ?_
      walk_at "go"
      refine if_dec (fun c => ?_) (fun c => ?_)
      · refine v_turn ?_
        walk_at "go"
        refine ⟨r.length, by simp, r, y :: b, rfl, ?_, ?_, ?_, rfl⟩
        · rw [e1, List.reverse_cons, List.append_assoc]
          rfl
        · rw [e2]
          show (if y ∈ crossOf ks ps k then _ else _) = _
          rw [if_pos c]
        · have e : (((y :: r).length : Nat) : Int) - 1 = (r.length : Nat) := by
            rw [List.length_cons]
            omega
          rw [e]
          rfl
      · walk_at "go"
        refine ⟨y :: r, b, e1, ?_, rfl, rfl⟩
        rw [e2]
        show (if y ∈ crossOf ks ps k then _ else _) = _
        rw [if_neg c]
  rintro σ H' ⟨ra, b, e1, e2, rfl, rfl⟩
  have hl2 : ra.length + b.length = name.length := by
    rw [e1, List.length_append, List.length_reverse]
  have q : Q (.str (tx (stepAt k ra b))) H' := by
    have e : stepOf (crossOf ks ps k) name k = stepAt k ra b := by
      unfold stepOf
      rw [e2]
    rw [e] at q
    exact q
  refine s_cut (fun σ H2 => ra.head? ≠ some k ∧ σ = [some (.ref x), some (.str (tx name)), some (.str (tx [k])), some (.str (tx (crossOf ks ps k))), some (.int (ra.length : Nat))] ∧ H2 = H') ?_ ?_
  · walk_at "go"
    cases ra with
    | nil =>
      refine if_dec (fun c => absurd c (by simp)) (fun _ => ?_)
      walk_at "go"
      exact ⟨by simp, rfl, rfl⟩
    | cons y r =>
      refine if_dec (fun _ => ?_) (fun c => absurd (by simp) c)
      walk_at "go"
      refine v_ixS (c := y) (by omega) (by rw [e1]; exact at_last) ?_
      walk_at "go"
      rw [dec_tx]
      refine if_dec (fun c => ?_) (fun c => ?_)
      · walk_at "go"
        have ey : y = k := by
          injection c
        subst ey
        have e3 : (((y :: r).length : Nat) : Int) - 1 = (r.length : Nat) := by
          rw [List.length_cons]
          omega
        rw [e3]
        refine v_slTo (by omega) (by omega) ?_
        walk_at "go"
        refine v_slFrom (by omega) (by omega) ?_
        have e4 : name.take ((r.length : Nat) : Int).toNat = r.reverse := by
          rw [e1, List.reverse_cons, List.append_assoc]
          exact List.take_left' (by simp)
        have e5 : name.drop (((y :: r).length : Nat) : Int).toNat = b := by
          rw [e1]
          exact List.drop_left' (by simp)
        rw [e4, e5]
        refine v_addS (by rw [List.length_reverse]; rw [List.length_cons] at hl2; omega) ?_
        have e6 : stepAt y (y :: r) b = r.reverse ++ b := by
          unfold stepAt
          rw [if_pos (show (y :: r).head? = some y from rfl)]
          rfl
        rw [e6] at q
        exact q
      · walk_at "go"
        refine ⟨?_, rfl, rfl⟩
        intro z
        injection z with z
        exact c (by rw [z])
  rintro σ H2 ⟨hh, rfl, rfl⟩
  refine s_cut (fun σ H3 => ∃ c d : List Nat, b = c ++ d ∧ putIn k b = c ++ k :: d ∧ σ = [some (.ref x), some (.str (tx name)), some (.str (tx [k])), some (.str (tx (crossOf ks ps k))), some (.int ((ra.length + c.length : Nat) : Int))] ∧ H3 = H2) ?_ ?_
  · refine s_while (fun m σ H3 => ∃ c d : List Nat, m = d.length ∧ b = c ++ d ∧ putIn k b = c ++ putIn k d ∧ σ = [some (.ref x), some (.str (tx name)), some (.str (tx [k])), some (.str (tx (crossOf ks ps k))), some (.int ((ra.length + c.length : Nat) : Int))] ∧ H3 = H2) b.length ⟨[], b, rfl, rfl, rfl, rfl, rfl⟩ ?_
    rintro m σ H3 ⟨c, d, rfl, e3, e4, rfl, rfl⟩
    have hl3 : ra.length + (c.length + d.length) = name.length := by
      rw [← hl2, e3, List.length_append]
    walk_at "go"
    cases d with
    | nil =>
      refine if_dec (fun z => ?_) (fun _ => ?_)
      · rw [List.length_nil] at hl3
        omega
      walk_at "go"
      exact ⟨c, [], e3, e4, rfl, rfl⟩
    | cons y r =>
      rw [List.length_cons] at hl3
      refine if_dec (fun _ => ?_) (fun z => by omega)
      walk_at "go"
      refine v_ixS (c := y) (by omega) ?_ ?_
      · rw [e1, e3, ← List.append_assoc]
        have := at_mid (x := y) (a := ra.reverse ++ c) (b := r)
        rw [List.length_append, List.length_reverse] at this
        exact this
      walk_at "go"
      rw [lt_one]
      refine if_dec (fun z => ?_) (fun z => ?_)
      · refine v_turn ?_
        walk_at "go"
        refine ⟨r.length, by simp, c ++ [y], r, rfl, ?_, ?_, ?_, rfl⟩
        · rw [e3, List.append_assoc]
          rfl
        · rw [e4, List.append_assoc]
          congr 1
          unfold putIn
          rw [List.takeWhile_cons_of_pos (by simpa using z), List.dropWhile_cons_of_pos (by simpa using z)]
          rfl
        · have e : ((ra.length + c.length : Nat) : Int) + 1 = ((ra.length + (c ++ [y]).length : Nat) : Int) := by
            rw [List.length_append, List.length_singleton]
            omega
          rw [e]
          rfl
      · walk_at "go"
        refine ⟨c, y :: r, e3, ?_, rfl, rfl⟩
        rw [e4]
        congr 1
        unfold putIn
        rw [List.takeWhile_cons_of_neg (by simpa using z), List.dropWhile_cons_of_neg (by simpa using z)]
        rfl
  rintro σ H3 ⟨c, d, e3, e4, rfl, rfl⟩
  have hl3 : ra.length + (c.length + d.length) = name.length := by
    rw [← hl2, e3, List.length_append]
  walk_at "go"
  refine v_slTo (by omega) (by omega) ?_
  have e5 : name.take ((ra.length + c.length : Nat) : Int).toNat = ra.reverse ++ c := by
    rw [e1, e3, ← List.append_assoc]
    exact List.take_left' (by rw [List.length_append, List.length_reverse]; omega)
  have e6 : name.drop ((ra.length + c.length : Nat) : Int).toNat = d := by
    rw [e1, e3, ← List.append_assoc]
    exact List.drop_left' (by rw [List.length_append, List.length_reverse]; omega)
  rw [e5]
  have l1 : (ra.reverse ++ c).length + [k].length ≤ 1000000 := by
    rw [List.length_append, List.length_reverse, List.length_singleton]
    omega
  have l2 : (ra.reverse ++ c ++ [k]).length + d.length ≤ 1000000 := by
    rw [List.length_append, List.length_append, List.length_reverse, List.length_singleton]
    omega
  walk_at "go"
  refine v_slFrom (by omega) (by omega) ?_
  rw [e6]
  refine v_addS l2 ?_
  have e7 : stepAt k ra b = ra.reverse ++ c ++ [k] ++ d := by
    unfold stepAt
    rw [if_neg hh, e4]
    simp
  rw [e7] at q
  exact q
abbrev stjoined : Stmt := (top 3)
abbrev Njoined : List Str := ["plan", "name", "way", "kind"]
theorem scjoined : FnScope Njoined ["plan", "name", "way"] (defScope stjoined) := ⟨rfl, rfl, rfl, by decide +kernel, rfl, by decide +kernel, by decide +kernel⟩

theorem ok_joined (F : FnAt K mg "joined" stjoined) (D_stepped : Def P w K mg base CX0 1 "stepped" ["plan", "name", "kind"] (spStepped C)) : Def P w K mg base CX0 2 "joined" ["plan", "name", "way"] (spJoined C) := by
  refine F.ok scjoined (fun _ _ _ _ _ _ us hl => match us, hl with | [_, _, _], _ => rfl) (fun vs H Q E h => ?_) (fun f cdv A outer s H vs Q E hr h => ?_)
  · obtain ⟨x, ks, ps, name, k, rfl, _⟩ := h
    rfl
  obtain ⟨x, ks, ps, name, way, rfl, h1, hk, hl, q⟩ := h
  have hu := hu_of hr
  have nd := scjoined.nd
  refine ⟨_, (pss_cons (ps_for PassesOwn.never rfl (pi_str (pv 2)) (pg_name (i := 3) nd rfl (Or.inl rfl))
      (pss_one (ps_set (i := 1) nd rfl (Or.inl rfl) (pe_cd D_stepped hr pass0 (pa_cons (pv 0) (pa_cons (pv 1) (pa_cons (pv 3) pa_nil)))))))
      (pss_one (ps_ret (pv 1)))), ?_⟩
  refine s_start [some _, some _, some _, none] rfl ?_
  walk_at "go"
  refine for_it (walk_tx way) (fun i σ H' => ∃ z, σ = [some (.ref x), some (.str (tx (joinOf ks ps name (way.take i)))), some (.str (tx way)), z] ∧ H' = H) ⟨_, rfl, rfl⟩ (fun _ _ _ _ _ => trivial) ?_ ?_
  · rintro i v σ H2 H3 hi ⟨z, rfl, rfl⟩ ⟨rfl, rfl⟩
    walk_at "go"
    refine ⟨x, ks, ps, _, way.getD i 0, rfl, h1, hk _ (getD_mem hi), ?_, ?_⟩
    · have := joinOf_len ks ps (way.take i) name
      rw [List.length_take] at this
      omega
    walk_at "go"
    rw [← joinOf_snoc, ← take_getD hi]
    exact ⟨_, rfl, rfl⟩
  · rintro σ H2 ⟨z, rfl, rfl⟩
    walk_at "go"
    rw [List.take_of_length_le (Nat.le_refl _)]
    exact q
end
end Cw
set_option Elab.async false
set_option linter.all false
set_option maxRecDepth 100000
set_option maxHeartbeats 4000000
namespace Cw
open PySem PySem.Spec L2
local macro_rules | `(tactic| walk_at "side") => `(tactic| first | omega | assumption | (dsimp only; omega) | (unfold CMul; omega) | exact ⟨by decide, by decide, by decide⟩ | exact wdiv (by first | assumption | decide | omega) (by first | assumption | decide | omega) | (simp only [List.length_cons, List.length_nil]; omega) | rfl)
local macro_rules | `(tactic| walk_at "hl") => `(tactic| first | assumption | exact upd_same | ((refine Cw.Same.at (by assumption) ?_); walk_at "hl") | ((refine Cw.Keep.at (by assumption) ?_ (by assumption)); walk_at "hl"))
local macro_rules | `(tactic| walk_at "st") => `(tactic| first
  | (with_reducible refine s_seq ?_) | (with_reducible refine g_nm ?_) | (with_reducible refine s_next ?_) | (with_reducible refine s_set ?_) | (with_reducible refine s_drop ?_) | (with_reducible refine s_ret ?_) | (with_reducible refine s_if ?_)
  | ((with_reducible refine e_varG ?_); refine ⟨_, (by with_unfolding_all rfl), ?_⟩) | (with_reducible refine e_c ?_) | (with_reducible refine e_op ?_) | (with_reducible refine e_un ?_)
  | (with_reducible refine e_cons ?_) | (with_reducible refine e_nil ?_) | (with_reducible refine e_cb ?_) | (with_reducible refine e_call ?_) | (with_reducible refine e_md ?_)
  | (with_reducible refine t_test ?_) | (with_reducible refine t_B ?_) | (with_reducible refine t_and ?_) | (with_reducible refine t_or ?_) | (with_reducible refine t_not ?_)
  | (with_reducible refine e_andV ?_) | (with_reducible refine e_orV ?_) | (with_reducible refine e_notV ?_) | (with_reducible refine e_if ?_)
  | (with_reducible refine v_I0 ?_) | ((with_reducible refine v_I ?c ?_); try (case c => walk_at "side")) | (with_reducible refine v_bl ?_)
  | ((with_reducible refine v_eq ?c ?_); (case c => with_unfolding_all rfl)) | ((with_reducible refine v_ne ?c ?_); (case c => with_unfolding_all rfl))
  | (with_reducible refine v_inti ?_) | (with_reducible refine v_intb ?_) | ((with_reducible refine v_lenG ?_); refine ⟨_, (by walk_at "hl"), ?_⟩)
  | ((with_reducible refine v_lenS ?c ?_); try (case c => walk_at "side"))
  | (with_reducible refine e_dnew ?_) | (with_reducible refine e_dget ?_) | (with_reducible refine s_dput ?_) | (with_reducible refine e_lst ?_) | (with_reducible refine e_tup ?_)
  | ((with_reducible refine v_lst ?c ?_); (case c => walk_at "side")) | ((with_reducible refine v_tup ?c ?_); (case c => walk_at "side"))
  | ((with_reducible refine v_dgetG ?_); refine ⟨_, (by assumption), ?_⟩)
  | (with_reducible refine e_sl ?_) | (with_reducible refine e_nopart ?_) | (with_reducible refine e_part ?_) | (with_reducible refine e_m1 ?_) | (with_reducible refine v_isS ?_) | (with_reducible refine v_int ?_)
  | (with_reducible refine e_lc ?_) | (with_reducible refine e_iStr ?_) | (with_reducible refine e_iEnumS ?_) | (with_reducible refine v_iEnumS ?_) | (with_reducible refine v_str ?_) | (with_reducible refine e_yes ?_) | (with_reducible refine e_fld ?_) | (with_reducible refine e_sfld ?_)
  | ((with_reducible refine v_addS ?c ?_); try (case c => walk_at "side")) | (with_reducible refine v_inS ?_) | (with_reducible refine v_notInS ?_) | (with_reducible refine v_ltS ?_)
  | ((with_reducible refine v_inLG ?_); refine ⟨_, (by walk_at "hl"), ?_⟩) | (with_reducible refine v_isiS ?_) | (with_reducible refine e_revS ?_) | ((with_reducible refine v_revS ?c ?_); try (case c => walk_at "side"))
  | ((with_reducible refine v_lenSetG ?_); refine ⟨_, (by walk_at "hl"), ?_⟩)
  | (with_reducible refine e_bm ?_) | (with_reducible refine e_bm0 ?_) | ((with_reducible refine v_tyLG ?_); refine ⟨_, (by walk_at "hl"), ?_⟩)
  | (with_reducible refine iteNT ?_) | (with_reducible refine iteNF ?_) | (with_reducible refine e_for ?_)
  | (with_reducible refine e_iL ?_) | (with_reducible refine e_iT ?_) | ((with_reducible refine v_iLG ?_); refine ⟨_, (by walk_at "hl"), ?_⟩) | (with_reducible refine e_iR1 ?_) | ((with_reducible refine v_iR1 ?c1 ?c2 ?_); try (case c1 => walk_at "side"); try (case c2 => walk_at "side"))
  | (with_reducible refine e_iR2 ?_) | ((with_reducible refine v_iR2 ?c1 ?_); try (case c1 => walk_at "side"))
  | (with_reducible refine e_pr0 ?_) | (with_reducible refine e_pr ?_) | (with_reducible refine e_disp ?_) | (with_reducible refine s_asgT ?_) | (with_reducible refine e_tryA ?_) | (with_reducible refine e_callS ?_) | (with_reducible refine e_mdS ?_) | (with_reducible refine e_par ?_) | (with_reducible refine v_par ?_) | (with_reducible refine e_par3 ?_) | (with_reducible refine v_par3 ?_) | (with_reducible refine e_iK ?_) | (with_reducible refine e_dnotin ?_)
  | (with_reducible refine iteT ?_) | (with_reducible refine iteF ?_))
local macro_rules | `(tactic| walk_at "go") => `(tactic| repeat walk_at "st")
def roomF (x : Addr) (name : List Nat) : List (Str × V) := putF "name" (.str (tx name)) (putF "plan" (.ref x) [])
theorem npn : ¬ (("plan" : Str) = "name") := by decide +kernel
theorem roomF_p {x : Addr} {name : List Nat} : (roomF x name).lookup ("plan" : Str) = some (.ref x) := by
  unfold roomF
  rw [lookup_putF, if_neg npn, lookup_putF, if_pos rfl]
theorem roomF_n {x : Addr} {name : List Nat} : (roomF x name).lookup ("name" : Str) = some (.str (tx name)) := by
  unfold roomF
  rw [lookup_putF, if_pos rfl]
/-- a room of the plan at x stands at r -/
structure RoomAt (R : Addr) (H : Hp) (r x : Addr) (name : List Nat) : Prop where
  ex : ∃ dx, H r = some (.ins R dx (roomF x name))
theorem RoomAt.same {R : Addr} {H H' : Hp} {r x : Addr} {name : List Nat} (h : RoomAt R H r x name) (s : Same H H') : RoomAt R H' r x name := by
  obtain ⟨dx, e⟩ := h.ex
  exact ⟨dx, s _ _ e⟩
structure TxtR (K : PySem.W.Frag) (mg : Str → Option Value) (C R O : Addr) : Prop extends TxtP K mg C where
  enumerate : mg "enumerate" = none
  g_MOST_LETTERS : ∃ t, mg "MOST_LETTERS" = some (.int 2000 t)
  Room : ClsF K mg "Room" R
  nPl : NoAttr K R "plan"
  nNm : NoAttr K R "name"
  OtherPlan : ExcF K mg "OtherPlan" O
def spNeedWay (C : Addr) : Sp := fun vs H Q _ => ∃ (x : Addr) (ks : List Nat) (ps : List (List Nat)) (way : List Nat), vs = [.ref x, .str (tx way)] ∧ PlanAt C H x ks ps ∧ (∀ c ∈ way, c ∈ ks) ∧ way.length ≤ 2000 ∧ ∀ H', Same H H' → Q (.str (tx way)) H'
/-- two plans, and what is due if they are equal and if not -/
def Plans2 (C : Addr) (H : Hp) (x y : Addr) (e : Bool) : Prop := ∃ (ks ks' : List Nat) (ps ps' : List (List Nat)), PlanAt C H x ks ps ∧ PlanAt C H y ks' ps' ∧ PsOk ps ∧ PsOk ps' ∧ e = decide (ks = ks' ∧ ps = ps')
def spNeedSame (C O : Addr) : Sp := fun vs H Q E => ∃ (x y : Addr) (e : Bool), vs = [.ref x, .ref y] ∧ Plans2 C H x y e ∧ (e = true → Q .non H) ∧ (e = false → E (.ref O) none H)
def spRoom0 (C R : Addr) : Sp := fun vs H Q _ => ∃ (r dx x : Addr) (ks : List Nat) (ps : List (List Nat)) (way : List Nat), vs = [.ref r, .ref x, .str (tx way)] ∧ H r = some (.ins R dx []) ∧ PlanAt C H x ks ps ∧ (∀ c ∈ way, c ∈ ks) ∧ way.length ≤ 2000 ∧
  ∀ H', Keep r H H' → RoomAt R H' r x (joinOf ks ps [] way) → Q .non H'
def spRoom (C R : Addr) : Sp := fun vs H Q _ => ∃ (x : Addr) (ks : List Nat) (ps : List (List Nat)) (way : List Nat), vs = [.ref x, .str (tx way)] ∧ PlanAt C H x ks ps ∧ (∀ c ∈ way, c ∈ ks) ∧ way.length ≤ 2000 ∧ ∀ r H', H r = none → Same H H' → RoomAt R H' r x (joinOf ks ps [] way) → Q (.ref r) H'
theorem PlanAt.none {C : Addr} {H : Hp} {x : Addr} {ks : List Nat} {ps : List (List Nat)} (h : PlanAt C H x ks ps) {a b : Addr} {o u : HO} (ha : H a = none) (hb : H b = none) : PlanAt C (upd (upd H a o) b u) x ks ps := by
  refine h.same fun c z hc => ?_
  rw [upd_ne (ne_of_none hc hb), upd_ne (ne_of_none hc ha)]
  exact hc
theorem conv_room (C R : Addr) : Conv R (spRoom0 C R) (spRoom C R) := by
  rintro vs H Q E ⟨x, ks, ps, way, rfl, hp, h1, h2, k⟩ r dx hx hdx hne
  refine ⟨r, dx, x, ks, ps, way, rfl, upd_same, hp.none hdx hx, h1, h2, fun H' s' a => ⟨rfl, k r H' hx (fun b o hb => ?_) a⟩⟩
  refine s' b o ?_ (ne_of_none hb hx)
  rw [upd_ne (ne_of_none hb hx), upd_ne (ne_of_none hb hdx)]
  exact hb
section
variable {P : Program} {w : World} {K : PySem.W.Frag} {mg : Str → Option Value} {base : Heap} {C R O : Addr}
abbrev stneed_way : Stmt := (top 23)
abbrev Nneed_way : List Str := ["plan", "way", "index", "letter"]
theorem scneed_way : FnScope Nneed_way ["plan", "way"] (defScope stneed_way) := ⟨rfl, rfl, rfl, by decide +kernel, rfl, by decide +kernel, by decide +kernel⟩

theorem ok_need_way (F : FnAt K mg "need_way" stneed_way) (T : TxtR K mg C R O) : Def P w K mg base CX0 1 "need_way" ["plan", "way"] (spNeedWay C) := by
  refine F.ok scneed_way (fun _ _ _ _ _ _ us hl => match us, hl with | [_, _], _ => rfl) (fun vs H Q E h => ?_) (fun f cdv A outer s H vs Q E hr h => ?_)
  · obtain ⟨x, ks, ps, way, rfl, _⟩ := h
    rfl
  obtain ⟨x, ks, ps, way, rfl, h1, hk, hl, q⟩ := h
  have hu := hu_of hr
  have nd := scneed_way.nd
  refine ⟨_, (pss_cons (ps_if (pt_not (pt_val (pe_callB (c_isiK (K := K) rfl) (by rfl) T.isinstance (by decide +kernel) (pa_cons (pv 1) (pa_cons (pe_bltn (v := .ty "str") (u := .type "str") (by rfl) T.str (by decide +kernel) rfl) pa_nil)))))
      (pss_one ps_never)
      pss_nil)
      (pss_cons (ps_for PassesOwn.never rfl (pi_enumS (by rfl) T.enumerate (pa_cons (pv 1) pa_nil)) (pg_tup rfl (pgs_cons (pg_name (i := 2) nd rfl (Or.inl rfl)) (pgs_cons (pg_name (i := 3) nd rfl (Or.inl rfl)) pgs_nil)))
      (pss_one (ps_if (pt_cmpR op_notInS (pv 3) (pe_flK (K := K) rfl (pv 0) rfl) (by rfl))
        (pss_one ps_never)
        pss_nil)))
      (pss_cons (ps_if (pt_cmpR op_gt (pe_callB c_lenS (by rfl) T.len PySem.boot_len (pa_cons (pv 1) pa_nil)) (pe_globI T.g_MOST_LETTERS) (nomark _))
      (pss_one ps_never)
      pss_nil)
      (pss_one (ps_ret (pv 1)))))), ?_⟩
  refine s_start [some _, some _, none, none] rfl ?_
  walk_at "go"
  refine for_it (walk_enumS way) (fun i σ H' => ∃ y z, σ = [some (.ref x), some (.str (tx way)), y, z] ∧ Same H H') ⟨_, _, rfl, Same.refl _⟩ (fun _ _ _ _ _ => trivial) ?_ ?_
  · rintro i v σ H2 H3 hi ⟨y, z, rfl, s2⟩ ⟨t, c, rfl, ht, rfl, hc⟩
    have s3 : Same H (upd H2 t (.tup [.int (i : Nat), .str (tx [c])])) := s2.trans (Same.new ht)
    obtain ⟨dx, t', d, a1, a2, a3⟩ := h1.ex
    refine v_gTup2 rfl upd_same ?_
    walk_at "go"
    refine v_fld (s3 _ _ a1) T.Plan.cl T.nK planF_k ?_
    walk_at "go"
    refine if_ndec (fun z => absurd (hk c (List.mem_of_getElem? hc)) z) (fun _ => ?_)
    walk_at "go"
    exact ⟨_, _, rfl, s3⟩
  · rintro σ H2 ⟨y, z, rfl, s2⟩
    walk_at "go"
    refine if_dec (fun c => ?_) (fun c => ?_)
    · omega
    walk_at "go"
    exact q H2 s2
abbrev stneed_same : Stmt := (top 24)
abbrev Nneed_same : List Str := ["plan", "other"]
theorem scneed_same : FnScope Nneed_same ["plan", "other"] (defScope stneed_same) := ⟨rfl, rfl, rfl, by decide +kernel, rfl, by decide +kernel, by decide +kernel⟩

theorem ok_need_same (F : FnAt K mg "need_same" stneed_same) (T : TxtR K mg C R O) (N_Plan_eq : MDef P w K mg base CX0 1 C "__eq__" ["self", "other"] (spPlanEq C)) : Def P w K mg base (L2.CX P w) 3 "need_same" ["plan", "other"] (spNeedSame C O) := by
  refine F.okX scneed_same (fun _ _ _ _ _ _ us hl => match us, hl with | [_, _], _ => rfl) (fun vs H Q E h => ?_) (fun f cdv A outer s H vs Q E hr h => ?_)
  · obtain ⟨x, y, e, rfl, _⟩ := h
    rfl
  obtain ⟨x, y, e, rfl, ⟨ks, ks', ps, ps', p1, p2, o1, o2, he⟩, q1, q2⟩ := h
  have hu := hu_of hr
  have nd := scneed_same.nd
  refine ⟨_, (pss_one (ps_if (pt_cmpR (op_neM N_Plan_eq T.Plan.ne T.Plan.ob hr pass0) (pv 0) (pv 1) (nomark _))
      (pss_one (ps_raise rfl (takes_of rfl rfl rfl rfl) (pmk_own0 T.OtherPlan)))
      pss_nil)), ?_⟩
  refine s_start [some _, some _] rfl ?_
  walk_at "go"
  obtain ⟨dx, t, d, a1, a2, a3⟩ := p1.ex
  obtain ⟨dy, t', d', b1, b2, b3⟩ := p2.ex
  refine v_M2n a1 b1 ?_
  refine ⟨x, y, ks, ks', ps, ps', rfl, p1, p2, o1, o2, ?_⟩
  refine ⟨_, rfl, ?_⟩
  walk_at "go"
  refine if_ndec (fun c => ?_) (fun c => ?_)
  · exact q2 (by rw [he, decide_eq_false c])
  · walk_at "go"
    exact q1 (by rw [he, decide_eq_true c])
abbrev stRoom_init : Stmt := (inClass (top 26) 0)
abbrev NRoom_init : List Str := ["self", "plan", "way"]
theorem scRoom_init : FnScope NRoom_init ["self", "plan", "way"] (defScope stRoom_init) := ⟨rfl, rfl, rfl, by decide +kernel, rfl, by decide +kernel, by decide +kernel⟩

theorem ok_Room {dvs : List V} (F : MAtD K R "__init__" "Room.__init__" stRoom_init dvs) (hd : dvs.length = 1) (T : TxtR K mg C R O) (D_need_way : Def P w K mg base CX0 1 "need_way" ["plan", "way"] (spNeedWay C)) (D_joined : Def P w K mg base CX0 2 "joined" ["plan", "name", "way"] (spJoined C)) :
    CMk P w K mg base CX0 3 "Room" R (spRoom C R) ["self", "plan", "way"] "Room.__init__" stRoom_init dvs := by
  refine F.make (sp0 := spRoom0 C R) T.Room scRoom_init (by intro z; rw [z] at hd; cases hd) (fun T kV doc pm an cdv ct us its l1 l2 => ?_) (fun vs H Q E h => ?_) (conv_room C R) (fun f cdv A outer s H vs Q E hr h => ?_)
  · rw [hd] at l2 ⊢
    match us, l1, its, l2 with
    | [_, _, _], _, [_], _ => exact ⟨_, rfl, rfl⟩
  · obtain ⟨r, dx, x, ks, ps, way, rfl, _⟩ := h
    rfl
  obtain ⟨r, dx, x, ks, ps, way, rfl, hx, hp, h1, h2, k⟩ := h
  have hu := hu_of hr
  have nd := scRoom_init.nd
  replace D_need_way := D_need_way.mono (show 1 ≤ 2 by decide)
  refine ⟨_, (pss_cons (ps_flK (K := K) rfl (pv 0) (pv 1) rfl)
      (pss_one (ps_flK (K := K) rfl (pv 0) (pe_cd D_joined hr pass0 (pa_cons (pv 1) (pa_cons (pe_tx [] (by decide +kernel)) (pa_cons (pe_cd D_need_way hr pass0 (pa_cons (pv 1) (pa_cons (pv 2) pa_nil))) pa_nil)))) rfl))), ?_⟩
  refine s_start [some _, some _, some _] rfl ?_
  walk_at "go"
  refine v_sfld hx T.Room.cl T.nPl (by decide) fun H1 s1 e1 => ?_
  walk_at "go"
  have hp1 : PlanAt C H1 x ks ps := by
    obtain ⟨dx', t', d, a1, a2, a3⟩ := hp.ex
    exact ⟨dx', t', d, s1 _ _ a1 (fun z => by rw [z, hx] at a1; injection a1 with a1; injection a1 with _ _ a1; cases a1), s1 _ _ a2 (ne_of a2 hx (by intro z; cases z)), s1 _ _ a3 (ne_of a3 hx (by intro z; cases z))⟩
  refine ⟨x, ks, ps, way, rfl, hp1, h1, h2, fun H2 s2 => ?_⟩
  walk_at "go"
  refine ⟨x, ks, ps, [], way, rfl, hp1.same s2, h1, by rw [List.length_nil]; omega, ?_⟩
  walk_at "go"
  refine v_sfld (s2 _ _ e1) T.Room.cl T.nNm (by show 1 < 1000; decide) fun H3 s3 e3 => ?_
  refine k H3 (fun b o hb nb => s3 _ _ (s2 _ _ (s1 _ _ hb nb)) nb) ⟨dx, e3⟩
end
end Cw
set_option Elab.async false
set_option linter.all false
set_option maxRecDepth 100000
set_option maxHeartbeats 4000000
namespace Cw
open PySem PySem.Spec L2
local macro_rules | `(tactic| walk_at "side") => `(tactic| first | omega | assumption | (dsimp only; omega) | (unfold CMul; omega) | exact ⟨by decide, by decide, by decide⟩ | exact wdiv (by first | assumption | decide | omega) (by first | assumption | decide | omega) | (simp only [List.length_cons, List.length_nil]; omega) | rfl)
local macro_rules | `(tactic| walk_at "hl") => `(tactic| first | assumption | exact upd_same | ((refine Cw.Same.at (by assumption) ?_); walk_at "hl") | ((refine Cw.Keep.at (by assumption) ?_ (by assumption)); walk_at "hl"))
local macro_rules | `(tactic| walk_at "st") => `(tactic| first
  | (with_reducible refine s_seq ?_) | (with_reducible refine g_nm ?_) | (with_reducible refine s_next ?_) | (with_reducible refine s_set ?_) | (with_reducible refine s_drop ?_) | (with_reducible refine s_ret ?_) | (with_reducible refine s_if ?_)
  | ((with_reducible refine e_varG ?_); refine ⟨_, (by with_unfolding_all rfl), ?_⟩) | (with_reducible refine e_c ?_) | (with_reducible refine e_op ?_) | (with_reducible refine e_un ?_)
  | (with_reducible refine e_cons ?_) | (with_reducible refine e_nil ?_) | (with_reducible refine e_cb ?_) | (with_reducible refine e_call ?_) | (with_reducible refine e_md ?_)
  | (with_reducible refine t_test ?_) | (with_reducible refine t_B ?_) | (with_reducible refine t_and ?_) | (with_reducible refine t_or ?_) | (with_reducible refine t_not ?_)
  | (with_reducible refine e_andV ?_) | (with_reducible refine e_orV ?_) | (with_reducible refine e_notV ?_) | (with_reducible refine e_if ?_)
  | (with_reducible refine v_I0 ?_) | ((with_reducible refine v_I ?c ?_); try (case c => walk_at "side")) | (with_reducible refine v_bl ?_)
  | ((with_reducible refine v_eq ?c ?_); (case c => with_unfolding_all rfl)) | ((with_reducible refine v_ne ?c ?_); (case c => with_unfolding_all rfl))
  | (with_reducible refine v_inti ?_) | (with_reducible refine v_intb ?_) | ((with_reducible refine v_lenG ?_); refine ⟨_, (by walk_at "hl"), ?_⟩)
  | ((with_reducible refine v_lenS ?c ?_); try (case c => walk_at "side"))
  | (with_reducible refine e_dnew ?_) | (with_reducible refine e_dget ?_) | (with_reducible refine s_dput ?_) | (with_reducible refine e_lst ?_) | (with_reducible refine e_tup ?_)
  | ((with_reducible refine v_lst ?c ?_); (case c => walk_at "side")) | ((with_reducible refine v_tup ?c ?_); (case c => walk_at "side"))
  | ((with_reducible refine v_dgetG ?_); refine ⟨_, (by assumption), ?_⟩)
  | (with_reducible refine e_sl ?_) | (with_reducible refine e_nopart ?_) | (with_reducible refine e_part ?_) | (with_reducible refine e_m1 ?_) | (with_reducible refine v_isS ?_) | (with_reducible refine v_int ?_)
  | (with_reducible refine e_lc ?_) | (with_reducible refine e_iStr ?_) | (with_reducible refine e_iEnumS ?_) | (with_reducible refine v_iEnumS ?_) | (with_reducible refine v_str ?_) | (with_reducible refine e_yes ?_) | (with_reducible refine e_fld ?_) | (with_reducible refine e_sfld ?_)
  | ((with_reducible refine v_addS ?c ?_); try (case c => walk_at "side")) | (with_reducible refine v_inS ?_) | (with_reducible refine v_notInS ?_) | (with_reducible refine v_ltS ?_)
  | ((with_reducible refine v_inLG ?_); refine ⟨_, (by walk_at "hl"), ?_⟩) | (with_reducible refine v_isiS ?_) | (with_reducible refine e_revS ?_) | ((with_reducible refine v_revS ?c ?_); try (case c => walk_at "side"))
  | ((with_reducible refine v_lenSetG ?_); refine ⟨_, (by walk_at "hl"), ?_⟩)
  | (with_reducible refine e_bm ?_) | (with_reducible refine e_bm0 ?_) | ((with_reducible refine v_tyLG ?_); refine ⟨_, (by walk_at "hl"), ?_⟩)
  | (with_reducible refine iteNT ?_) | (with_reducible refine iteNF ?_) | (with_reducible refine e_for ?_)
  | (with_reducible refine e_iL ?_) | (with_reducible refine e_iT ?_) | ((with_reducible refine v_iLG ?_); refine ⟨_, (by walk_at "hl"), ?_⟩) | (with_reducible refine e_iR1 ?_) | ((with_reducible refine v_iR1 ?c1 ?c2 ?_); try (case c1 => walk_at "side"); try (case c2 => walk_at "side"))
  | (with_reducible refine e_iR2 ?_) | ((with_reducible refine v_iR2 ?c1 ?_); try (case c1 => walk_at "side"))
  | (with_reducible refine e_pr0 ?_) | (with_reducible refine e_pr ?_) | (with_reducible refine e_disp ?_) | (with_reducible refine s_asgT ?_) | (with_reducible refine e_tryA ?_) | (with_reducible refine e_callS ?_) | (with_reducible refine e_mdS ?_) | (with_reducible refine e_par ?_) | (with_reducible refine v_par ?_) | (with_reducible refine e_par3 ?_) | (with_reducible refine v_par3 ?_) | (with_reducible refine e_iK ?_) | (with_reducible refine e_dnotin ?_)
  | (with_reducible refine iteT ?_) | (with_reducible refine iteF ?_))
local macro_rules | `(tactic| walk_at "go") => `(tactic| repeat walk_at "st")
theorem Plans2.same {C : Addr} {H H' : Hp} {x y : Addr} {e : Bool} (h : Plans2 C H x y e) (s : Same H H') : Plans2 C H' x y e := by
  obtain ⟨ks, ks', ps, ps', a, b, c⟩ := h
  exact ⟨ks, ks', ps, ps', a.same s, b.same s, c⟩
def spRoomLen (R : Addr) : Sp := fun vs H Q _ => ∃ (r x : Addr) (name : List Nat), vs = [.ref r] ∧ RoomAt R H r x name ∧ name.length ≤ 100000 ∧ Q (.int name.length) H
/-- two rooms, and whether their plans are equal -/
structure Rooms2 (C R : Addr) (H : Hp) (r x : Addr) (a : List Nat) (r' y : Addr) (b : List Nat) (e : Bool) : Prop where
  one : RoomAt R H r x a
  two : RoomAt R H r' y b
  pl : Plans2 C H x y e
  la : a.length ≤ 2000
  lb : b.length ≤ 2000
theorem Rooms2.same {C R : Addr} {H H' : Hp} {r x : Addr} {a : List Nat} {r' y : Addr} {b : List Nat} {e : Bool} (h : Rooms2 C R H r x a r' y b e) (s : Same H H') : Rooms2 C R H' r x a r' y b e := ⟨h.one.same s, h.two.same s, h.pl.same s, h.la, h.lb⟩
def spRoomEq (C R : Addr) : Sp := fun vs H Q _ => ∃ (r x : Addr) (a : List Nat) (r' y : Addr) (b : List Nat) (e : Bool), vs = [.ref r, .ref r'] ∧ Rooms2 C R H r x a r' y b e ∧ Q (.bl (e && decide (a = b))) H
def spRoomCmp (f : Int → List Nat → Int → List Nat → Bool) (C R O : Addr) : Sp := fun vs H Q E => ∃ (r x : Addr) (a : List Nat) (r' y : Addr) (b : List Nat) (e : Bool), vs = [.ref r, .ref r'] ∧ Rooms2 C R H r x a r' y b e ∧
  (e = true → ∀ H', Same H H' → Q (.bl (f a.length a b.length b)) H') ∧ (e = false → E (.ref O) none H)
def spWayTo (C R O : Addr) : Sp := fun vs H Q E => ∃ (r x : Addr) (a : List Nat) (r' y : Addr) (b : List Nat) (e : Bool) (ks : List Nat) (ps : List (List Nat)), vs = [.ref r, .ref r'] ∧ Rooms2 C R H r x a r' y b e ∧
  PlanAt C H x ks ps ∧ (∀ c ∈ a, c ∈ ks) ∧ (e = true → ∀ c ∈ b, c ∈ ks) ∧ (e = true → Q (.str (tx (wayOf ks ps a b))) H) ∧ (e = false → E (.ref O) none H)
def spDistance (C R O : Addr) : Sp := fun vs H Q E => ∃ (r x : Addr) (a : List Nat) (r' y : Addr) (b : List Nat) (e : Bool) (ks : List Nat) (ps : List (List Nat)), vs = [.ref r, .ref r'] ∧ Rooms2 C R H r x a r' y b e ∧
  PlanAt C H x ks ps ∧ (∀ c ∈ a, c ∈ ks) ∧ (e = true → ∀ c ∈ b, c ∈ ks) ∧ (e = true → Q (.int (wayOf ks ps a b).length) H) ∧ (e = false → E (.ref O) none H)
theorem roomF_no {x : Addr} {name : List Nat} {m : Str} (h1 : ¬ m = "name") (h2 : ¬ m = "plan") : (roomF x name).lookup m = none := by
  unfold roomF
  rw [lookup_putF, if_neg h1, lookup_putF, if_neg h2]
  rfl
theorem roomF_way {x : Addr} {name : List Nat} : (roomF x name).lookup ("way_to" : Str) = none := roomF_no (by decide +kernel) (by decide +kernel)
theorem roomF_dist {x : Addr} {name : List Nat} : (roomF x name).lookup ("distance" : Str) = none := roomF_no (by decide +kernel) (by decide +kernel)
section
variable {P : Program} {w : World} {K : PySem.W.Frag} {mg : Str → Option Value} {base : Heap} {C R O : Addr}
abbrev stRoom_len : Stmt := (inClass (top 26) 1)
abbrev NRoom_len : List Str := ["self"]
theorem scRoom_len : FnScope NRoom_len ["self"] (defScope stRoom_len) := ⟨rfl, rfl, rfl, by decide +kernel, rfl, by decide +kernel, by decide +kernel⟩

theorem ok_Room_len (F : MAt K R "__len__" "Room.__len__" stRoom_len) (T : TxtR K mg C R O) : MDef P w K mg base CX0 1 R "__len__" ["self"] (spRoomLen R) := by
  refine F.ok scRoom_len (fun _ _ _ _ _ _ us hl => match us, hl with | [_], _ => rfl) (fun vs H Q E h => ?_) (fun f cdv A outer s H vs Q E hr h => ?_)
  · obtain ⟨r, x, name, rfl, _⟩ := h
    rfl
  obtain ⟨r, x, name, rfl, ha, hl, q⟩ := h
  have hu := hu_of hr
  have nd := scRoom_len.nd
  refine ⟨_, (pss_one (ps_ret (pe_callB c_lenS (by rfl) T.len PySem.boot_len (pa_cons (pe_flK (K := K) rfl (pv 0) rfl) pa_nil)))), ?_⟩
  refine s_start [some _] rfl ?_
  obtain ⟨dx, a1⟩ := ha.ex
  walk_at "go"
  refine v_fld a1 T.Room.cl T.nNm roomF_n ?_
  walk_at "go"
  exact q
abbrev stRoom_eq : Stmt := (inClass (top 26) 9)
abbrev NRoom_eq : List Str := ["self", "other"]
theorem scRoom_eq : FnScope NRoom_eq ["self", "other"] (defScope stRoom_eq) := ⟨rfl, rfl, rfl, by decide +kernel, rfl, by decide +kernel, by decide +kernel⟩

theorem ok_Room_eq (F : MAt K R "__eq__" "Room.__eq__" stRoom_eq) (T : TxtR K mg C R O) (M_Plan_eq : MDef P w K mg base CX0 1 C "__eq__" ["self", "other"] (spPlanEq C)) : MDef P w K mg base CX0 2 R "__eq__" ["self", "other"] (spRoomEq C R) := by
  refine F.ok scRoom_eq (fun _ _ _ _ _ _ us hl => match us, hl with | [_, _], _ => rfl) (fun vs H Q E h => ?_) (fun f cdv A outer s H vs Q E hr h => ?_)
  · obtain ⟨r, x, a, r', y, b, e, rfl, _⟩ := h
    rfl
  obtain ⟨r, x, a, r', y, b, e, rfl, h, q⟩ := h
  have hu := hu_of hr
  have nd := scRoom_eq.nd
  refine ⟨_, (pss_one (ps_ret (pe_and (pe_callB (c_isiK (K := K) rfl) (by rfl) T.isinstance (by decide +kernel) (pa_cons (pv 1) (pa_cons (pe_globC T.Room.at) pa_nil))) (pe_and (pe_cmpR (op_cmpM (op := .Eq) (fun _ _ => rfl) M_Plan_eq hr pass0) (pe_flK (K := K) rfl (pv 0) rfl) (pe_flK (K := K) rfl (pv 1) rfl) (nomark _)) (pe_one (pe_cmpR op_eq (pe_flK (K := K) rfl (pv 0) rfl) (pe_flK (K := K) rfl (pv 1) rfl) (nomark _))))))), ?_⟩
  refine s_start [some _, some _] rfl ?_
  obtain ⟨dr, a1⟩ := h.one.ex
  obtain ⟨dr', b1⟩ := h.two.ex
  obtain ⟨ks, ks', ps, ps', p1, p2, o1, o2, he⟩ := h.pl
  obtain ⟨dx, t, d, c1, c2, c3⟩ := p1.ex
  obtain ⟨dy, t', d', d1, d2, d3⟩ := p2.ex
  walk_at "go"
  refine v_isiC T.Room b1 ?_
  walk_at "go"
  refine v_fld a1 T.Room.cl T.nPl roomF_p ?_
  walk_at "go"
  refine v_fld b1 T.Room.cl T.nPl roomF_p ?_
  refine v_M2 c1 d1 ⟨x, y, ks, ks', ps, ps', rfl, p1, p2, o1, o2, ?_⟩
  rw [← he]
  walk_at "go"
  cases e with
  | true =>
    walk_at "go"
    refine v_fld a1 T.Room.cl T.nNm roomF_n ?_
    walk_at "go"
    refine v_fld b1 T.Room.cl T.nNm roomF_n ?_
    walk_at "go"
    rw [dec_tx]
    exact q
  | false =>
    walk_at "go"
    exact q
end
end Cw
set_option Elab.async false
set_option linter.all false
set_option maxRecDepth 100000
set_option maxHeartbeats 4000000
namespace Cw
open PySem PySem.Spec L2
local macro_rules | `(tactic| walk_at "side") => `(tactic| first | omega | assumption | (dsimp only; omega) | (unfold CMul; omega) | exact ⟨by decide, by decide, by decide⟩ | exact wdiv (by first | assumption | decide | omega) (by first | assumption | decide | omega) | (simp only [List.length_cons, List.length_nil]; omega) | rfl)
local macro_rules | `(tactic| walk_at "hl") => `(tactic| first | assumption | exact upd_same | ((refine Cw.Same.at (by assumption) ?_); walk_at "hl") | ((refine Cw.Keep.at (by assumption) ?_ (by assumption)); walk_at "hl"))
local macro_rules | `(tactic| walk_at "st") => `(tactic| first
  | (with_reducible refine s_seq ?_) | (with_reducible refine g_nm ?_) | (with_reducible refine s_next ?_) | (with_reducible refine s_set ?_) | (with_reducible refine s_drop ?_) | (with_reducible refine s_ret ?_) | (with_reducible refine s_if ?_)
  | ((with_reducible refine e_varG ?_); refine ⟨_, (by with_unfolding_all rfl), ?_⟩) | (with_reducible refine e_c ?_) | (with_reducible refine e_op ?_) | (with_reducible refine e_un ?_)
  | (with_reducible refine e_cons ?_) | (with_reducible refine e_nil ?_) | (with_reducible refine e_cb ?_) | (with_reducible refine e_call ?_) | (with_reducible refine e_md ?_)
  | (with_reducible refine t_test ?_) | (with_reducible refine t_B ?_) | (with_reducible refine t_and ?_) | (with_reducible refine t_or ?_) | (with_reducible refine t_not ?_)
  | (with_reducible refine e_andV ?_) | (with_reducible refine e_orV ?_) | (with_reducible refine e_notV ?_) | (with_reducible refine e_if ?_)
  | (with_reducible refine v_I0 ?_) | ((with_reducible refine v_I ?c ?_); try (case c => walk_at "side")) | (with_reducible refine v_bl ?_)
  | ((with_reducible refine v_eq ?c ?_); (case c => with_unfolding_all rfl)) | ((with_reducible refine v_ne ?c ?_); (case c => with_unfolding_all rfl))
  | (with_reducible refine v_inti ?_) | (with_reducible refine v_intb ?_) | ((with_reducible refine v_lenG ?_); refine ⟨_, (by walk_at "hl"), ?_⟩)
  | ((with_reducible refine v_lenS ?c ?_); try (case c => walk_at "side"))
  | (with_reducible refine e_dnew ?_) | (with_reducible refine e_dget ?_) | (with_reducible refine s_dput ?_) | (with_reducible refine e_lst ?_) | (with_reducible refine e_tup ?_)
  | ((with_reducible refine v_lst ?c ?_); (case c => walk_at "side")) | ((with_reducible refine v_tup ?c ?_); (case c => walk_at "side"))
  | ((with_reducible refine v_dgetG ?_); refine ⟨_, (by assumption), ?_⟩)
  | (with_reducible refine e_sl ?_) | (with_reducible refine e_nopart ?_) | (with_reducible refine e_part ?_) | (with_reducible refine e_m1 ?_) | (with_reducible refine v_isS ?_) | (with_reducible refine v_int ?_)
  | (with_reducible refine e_lc ?_) | (with_reducible refine e_iStr ?_) | (with_reducible refine e_iEnumS ?_) | (with_reducible refine v_iEnumS ?_) | (with_reducible refine v_str ?_) | (with_reducible refine e_yes ?_) | (with_reducible refine e_fld ?_) | (with_reducible refine e_sfld ?_)
  | ((with_reducible refine v_addS ?c ?_); try (case c => walk_at "side")) | (with_reducible refine v_inS ?_) | (with_reducible refine v_notInS ?_) | (with_reducible refine v_ltS ?_)
  | ((with_reducible refine v_inLG ?_); refine ⟨_, (by walk_at "hl"), ?_⟩) | (with_reducible refine v_isiS ?_) | (with_reducible refine e_revS ?_) | ((with_reducible refine v_revS ?c ?_); try (case c => walk_at "side"))
  | ((with_reducible refine v_lenSetG ?_); refine ⟨_, (by walk_at "hl"), ?_⟩)
  | (with_reducible refine e_bm ?_) | (with_reducible refine e_bm0 ?_) | ((with_reducible refine v_tyLG ?_); refine ⟨_, (by walk_at "hl"), ?_⟩)
  | (with_reducible refine iteNT ?_) | (with_reducible refine iteNF ?_) | (with_reducible refine e_for ?_)
  | (with_reducible refine e_iL ?_) | (with_reducible refine e_iT ?_) | ((with_reducible refine v_iLG ?_); refine ⟨_, (by walk_at "hl"), ?_⟩) | (with_reducible refine e_iR1 ?_) | ((with_reducible refine v_iR1 ?c1 ?c2 ?_); try (case c1 => walk_at "side"); try (case c2 => walk_at "side"))
  | (with_reducible refine e_iR2 ?_) | ((with_reducible refine v_iR2 ?c1 ?_); try (case c1 => walk_at "side"))
  | (with_reducible refine e_pr0 ?_) | (with_reducible refine e_pr ?_) | (with_reducible refine e_disp ?_) | (with_reducible refine s_asgT ?_) | (with_reducible refine e_tryA ?_) | (with_reducible refine e_callS ?_) | (with_reducible refine e_mdS ?_) | (with_reducible refine e_par ?_) | (with_reducible refine v_par ?_) | (with_reducible refine e_par3 ?_) | (with_reducible refine v_par3 ?_) | (with_reducible refine e_iK ?_) | (with_reducible refine e_dnotin ?_)
  | (with_reducible refine iteT ?_) | (with_reducible refine iteF ?_))
local macro_rules | `(tactic| walk_at "go") => `(tactic| repeat walk_at "st")
def spPen (K : PySem.W.Frag) : Sp := fun vs H Q _ => ∃ (a : Addr) (ns : List Int), vs = [.ref a] ∧ SqL K H a (ns.map V.int) ∧ ns.length ≤ 63 ∧ ∀ (g : Pen) (H' : Hp), PenAt g H' 0 → Same H H' → H g.p = none → Q (.ref g.p) H'
theorem cut_ints (ns : List Int) (lo hi : Option Int) : ∃ ms : List Int, cutV (ns.map V.int) lo hi = ms.map V.int ∧ ms.length ≤ ns.length := by
  unfold cutV
  rw [← List.map_drop, ← List.map_take]
  refine ⟨_, rfl, ?_⟩
  rw [List.length_take, List.length_drop]
  omega
section
variable {P : Program} {w : World} {K : PySem.W.Frag} {mg : Str → Option Value} {base : Heap}
abbrev stpen : Stmt := (top 36)
abbrev Npen : List Str := ["_law_script"]
theorem scpen : FnScope Npen ["_law_script"] (defScope stpen) := ⟨rfl, rfl, rfl, by decide +kernel, rfl, by decide +kernel, by decide +kernel⟩

theorem ok_pen (F : FnAt K mg "_law_pen" stpen) (T : Txt K mg) : Def P w K mg base CX0 1 "_law_pen" ["_law_script"] (spPen K) := by
  refine F.ok scpen (fun _ _ _ _ _ _ us hl => match us, hl with | [_], _ => rfl) (fun vs H Q E h => ?_) (fun f cdv A outer s H vs Q E hr h => ?_)
  · obtain ⟨a, ns, rfl, _⟩ := h
    rfl
  obtain ⟨a, ns, rfl, ha, hn, k⟩ := h
  have hu := hu_of hr
  have nd := scpen.nd
  refine ⟨_, (pss_one (ps_ret (pe_disp (pps_cons pe_str (pe_callTy (c_listK (K := K) rfl) (by rfl) T.list (by decide +kernel) (pa_cons (pe_slice (sl_LK (K := K) rfl) (pv 0) po_none (po_some pe_int)) pa_nil)) (pps_cons pe_str pe_int (pps_cons pe_str pe_int pps_nil))) (by rfl) (by rfl) (fun z => by cases z) (by decide)))), ?_⟩
  refine s_start [some _] rfl ?_
  walk_at "go"
  intro p hp
  have s1 : Same H (upd H p (.dK [])) := Same.new hp
  obtain ⟨ms, e1, l1⟩ := cut_ints ns none (some 63)
  walk_at "go"
  refine v_slL (sqL_same ha s1) fun b H2 hb s2 e2 => ?_
  rw [e1] at e2
  walk_at "go"
  refine v_list (SqL.of e2) fun c H3 hc s3 e3 => ?_
  walk_at "go"
  have ep : H3 p = some (.dK []) := s3 _ _ (s2 _ _ upd_same)
  refine ⟨ep, [(Sum.inr "cells", .ref c), (Sum.inr "place", .int 0), (Sum.inr "rest", .int 0)], rfl, (by show 3 ≤ 15; decide), ?_⟩
  have hcp : c ≠ p := (ne_of_none (s2 _ _ upd_same) hc).symm
  have em : mergeK [] [(Sum.inr ("cells" : Str), V.ref c), (Sum.inr ("place" : Str), .int 0), (Sum.inr ("rest" : Str), .int 0)] = penL c 0 0 := by
    unfold mergeK penL
    rw [List.foldl_cons, List.foldl_cons, List.foldl_cons, List.foldl_nil]
    rw [putK_new (k := Sum.inr ("cells" : Str)) _ rfl, putK_new (k := Sum.inr ("place" : Str)) _ (by rw [List.nil_append, valV_neg kcp]; rfl), putK_new (k := Sum.inr ("rest" : Str)) _ (by rw [List.nil_append, List.cons_append, valV_neg kcr, List.nil_append, valV_neg kpr]; rfl)]
    rfl
  rw [em]
  have s4 : Same H (upd H3 p (.dK (penL c 0 0))) := fun b' o hb' => by
    rw [upd_ne (ne_of_none hb' hp)]
    exact s3 _ _ (s2 _ _ (s1 _ _ hb'))
  refine k ⟨p, c, ms⟩ _ ⟨0, 0, upd_same, ?_, by show ms.length ≤ 63; omega, by omega, by omega, by omega⟩ s4 hp
  show upd H3 p _ c = _
  rw [upd_ne hcp]
  exact e3
end
end Cw
set_option Elab.async false
set_option linter.all false
set_option maxRecDepth 100000
set_option maxHeartbeats 4000000
namespace Cw
open PySem PySem.Spec L2
theorem cells_ne {k : Nat} : ¬ ((Sum.inr (tx [k]) : Key) = Sum.inr ("cells" : Str)) := by
  intro h
  injection h with h
  have : (tx [k]).length = ("cells" : Str).length := by rw [h]
  rw [tx_len, List.length_singleton] at this
  exact absurd this (by decide +kernel)
theorem RoomAt.pen {R : Addr} {H H' : Hp} {r x : Addr} {nm : List Nat} {g : Pen} {n : Nat} (h : RoomAt R H r x nm) (p : PenAt g H n) (k : Keep g.p H H') : RoomAt R H' r x nm := by
  obtain ⟨dx, e⟩ := h.ex
  obtain ⟨a, b, h1, _⟩ := p.ex
  exact ⟨dx, k _ _ e (ne_of e h1 (by intro z; cases z))⟩
theorem PlanAt.pen {C : Addr} {H H' : Hp} {x : Addr} {ks : List Nat} {ps : List (List Nat)} {g : Pen} {n : Nat} (h : PlanAt C H x ks ps) (p : PenAt g H n) (k : Keep g.p H H') : PlanAt C H' x ks ps := by
  obtain ⟨dx, t, d, a1, a2, a3⟩ := h.ex
  obtain ⟨a, b, h1, _⟩ := p.ex
  refine ⟨dx, t, d, k _ _ a1 (ne_of a1 h1 (by intro z; cases z)), k _ _ a2 (ne_of a2 h1 (by intro z; cases z)), k _ _ a3 fun z => ?_⟩
  rw [z, h1] at a3
  injection a3 with a3
  injection a3 with a3
  unfold crossKV penL at a3
  generalize hk : ks.map _ = m at a3
  cases ks with
  | nil => rw [List.map_nil] at hk; rw [← hk] at a3; cases a3
  | cons c r =>
    rw [List.map_cons] at hk
    rw [← hk] at a3
    injection a3 with a3 _
    injection a3 with a3 _
    exact cells_ne a3.symm
theorem RoomAt.lst {R : Addr} {H H' : Hp} {r x q : Addr} {nm : List Nat} {l : List V} (h : RoomAt R H r x nm) (e0 : H q = some (.lst l)) (k : Keep q H H') : RoomAt R H' r x nm := by
  obtain ⟨dx, e⟩ := h.ex
  exact ⟨dx, k _ _ e (ne_of e e0 (by intro z; cases z))⟩
theorem PlanAt.lst {C : Addr} {H H' : Hp} {x q : Addr} {ks : List Nat} {ps : List (List Nat)} {l : List V} (h : PlanAt C H x ks ps) (e0 : H q = some (.lst l)) (k : Keep q H H') : PlanAt C H' x ks ps := by
  obtain ⟨dx, t, d, a1, a2, a3⟩ := h.ex
  exact ⟨dx, t, d, k _ _ a1 (ne_of a1 e0 (by intro z; cases z)), k _ _ a2 (ne_of a2 e0 (by intro z; cases z)), k _ _ a3 (ne_of a3 e0 (by intro z; cases z))⟩
end Cw
set_option Elab.async false
set_option linter.all false
set_option maxRecDepth 100000
set_option maxHeartbeats 4000000
namespace Cw
open PySem PySem.Spec L2
local macro_rules | `(tactic| walk_at "side") => `(tactic| first | omega | assumption | (dsimp only; omega) | (unfold CMul; omega) | exact ⟨by decide, by decide, by decide⟩ | exact wdiv (by first | assumption | decide | omega) (by first | assumption | decide | omega) | (simp only [List.length_cons, List.length_nil]; omega) | rfl)
local macro_rules | `(tactic| walk_at "hl") => `(tactic| first | assumption | exact upd_same | ((refine Cw.Same.at (by assumption) ?_); walk_at "hl") | ((refine Cw.Keep.at (by assumption) ?_ (by assumption)); walk_at "hl"))
local macro_rules | `(tactic| walk_at "st") => `(tactic| first
  | (with_reducible refine s_seq ?_) | (with_reducible refine g_nm ?_) | (with_reducible refine s_next ?_) | (with_reducible refine s_set ?_) | (with_reducible refine s_drop ?_) | (with_reducible refine s_ret ?_) | (with_reducible refine s_if ?_)
  | ((with_reducible refine e_varG ?_); refine ⟨_, (by with_unfolding_all rfl), ?_⟩) | (with_reducible refine e_c ?_) | (with_reducible refine e_op ?_) | (with_reducible refine e_un ?_)
  | (with_reducible refine e_cons ?_) | (with_reducible refine e_nil ?_) | (with_reducible refine e_cb ?_) | (with_reducible refine e_call ?_) | (with_reducible refine e_md ?_)
  | (with_reducible refine t_test ?_) | (with_reducible refine t_B ?_) | (with_reducible refine t_and ?_) | (with_reducible refine t_or ?_) | (with_reducible refine t_not ?_)
  | (with_reducible refine e_andV ?_) | (with_reducible refine e_orV ?_) | (with_reducible refine e_notV ?_) | (with_reducible refine e_if ?_)
  | (with_reducible refine v_I0 ?_) | ((with_reducible refine v_I ?c ?_); try (case c => walk_at "side")) | (with_reducible refine v_bl ?_)
  | ((with_reducible refine v_eq ?c ?_); (case c => with_unfolding_all rfl)) | ((with_reducible refine v_ne ?c ?_); (case c => with_unfolding_all rfl))
  | (with_reducible refine v_inti ?_) | (with_reducible refine v_intb ?_) | ((with_reducible refine v_lenG ?_); refine ⟨_, (by walk_at "hl"), ?_⟩)
  | ((with_reducible refine v_lenS ?c ?_); try (case c => walk_at "side"))
  | (with_reducible refine e_dnew ?_) | (with_reducible refine e_dget ?_) | (with_reducible refine s_dput ?_) | (with_reducible refine e_lst ?_) | (with_reducible refine e_tup ?_)
  | ((with_reducible refine v_lst ?c ?_); (case c => walk_at "side")) | ((with_reducible refine v_tup ?c ?_); (case c => walk_at "side"))
  | ((with_reducible refine v_dgetG ?_); refine ⟨_, (by assumption), ?_⟩)
  | (with_reducible refine e_sl ?_) | (with_reducible refine e_nopart ?_) | (with_reducible refine e_part ?_) | (with_reducible refine e_m1 ?_) | (with_reducible refine v_isS ?_) | (with_reducible refine v_int ?_)
  | (with_reducible refine e_lc ?_) | (with_reducible refine e_iStr ?_) | (with_reducible refine e_iEnumS ?_) | (with_reducible refine v_iEnumS ?_) | (with_reducible refine v_str ?_) | (with_reducible refine e_yes ?_) | (with_reducible refine e_fld ?_) | (with_reducible refine e_sfld ?_)
  | ((with_reducible refine v_addS ?c ?_); try (case c => walk_at "side")) | (with_reducible refine v_inS ?_) | (with_reducible refine v_notInS ?_) | (with_reducible refine v_ltS ?_)
  | ((with_reducible refine v_inLG ?_); refine ⟨_, (by walk_at "hl"), ?_⟩) | (with_reducible refine v_isiS ?_) | (with_reducible refine e_revS ?_) | ((with_reducible refine v_revS ?c ?_); try (case c => walk_at "side"))
  | ((with_reducible refine v_lenSetG ?_); refine ⟨_, (by walk_at "hl"), ?_⟩)
  | (with_reducible refine e_bm ?_) | (with_reducible refine e_bm0 ?_) | ((with_reducible refine v_tyLG ?_); refine ⟨_, (by walk_at "hl"), ?_⟩)
  | (with_reducible refine iteNT ?_) | (with_reducible refine iteNF ?_) | (with_reducible refine e_for ?_)
  | (with_reducible refine e_iL ?_) | (with_reducible refine e_iT ?_) | ((with_reducible refine v_iLG ?_); refine ⟨_, (by walk_at "hl"), ?_⟩) | (with_reducible refine e_iR1 ?_) | ((with_reducible refine v_iR1 ?c1 ?c2 ?_); try (case c1 => walk_at "side"); try (case c2 => walk_at "side"))
  | (with_reducible refine e_iR2 ?_) | ((with_reducible refine v_iR2 ?c1 ?_); try (case c1 => walk_at "side"))
  | (with_reducible refine e_pr0 ?_) | (with_reducible refine e_pr ?_) | (with_reducible refine e_disp ?_) | (with_reducible refine s_asgT ?_) | (with_reducible refine e_tryA ?_) | (with_reducible refine e_callS ?_) | (with_reducible refine e_mdS ?_) | (with_reducible refine e_par ?_) | (with_reducible refine v_par ?_) | (with_reducible refine e_par3 ?_) | (with_reducible refine v_par3 ?_) | (with_reducible refine e_iK ?_) | (with_reducible refine e_dnotin ?_)
  | (with_reducible refine iteT ?_) | (with_reducible refine iteF ?_))
local macro_rules | `(tactic| walk_at "go") => `(tactic| repeat walk_at "st")
def spIsKind (C : Addr) : Sp := fun vs H Q _ => ∃ (x : Addr) (ks : List Nat) (ps : List (List Nat)) (k : Nat), vs = [.ref x, .str (tx [k])] ∧ PlanAt C H x ks ps ∧ k ∈ ks ∧ Q (.bl true) H
def spNeedKind (C : Addr) : Sp := fun vs H Q _ => ∃ (x : Addr) (ks : List Nat) (ps : List (List Nat)) (k : Nat), vs = [.ref x, .str (tx [k])] ∧ PlanAt C H x ks ps ∧ k ∈ ks ∧ Q (.str (tx [k])) H
def spGetitem (C R : Addr) : Sp := fun vs H Q _ => ∃ (r x : Addr) (ks : List Nat) (ps : List (List Nat)) (name : List Nat) (k : Nat), vs = [.ref r, .str (tx [k])] ∧ RoomAt R H r x name ∧ PlanAt C H x ks ps ∧ k ∈ ks ∧ (∀ c ∈ name, c ∈ ks) ∧ name.length < 2000 ∧
  ∀ r' H', H r' = none → Same H H' → RoomAt R H' r' x (joinOf ks ps [] (stepOf (crossOf ks ps k) name k)) → Q (.ref r') H'
def spRoomAdd (C R : Addr) : Sp := fun vs H Q _ => ∃ (r x : Addr) (ks : List Nat) (ps : List (List Nat)) (name way : List Nat), vs = [.ref r, .str (tx way)] ∧ RoomAt R H r x name ∧ PlanAt C H x ks ps ∧ (∀ c ∈ name, c ∈ ks) ∧ (∀ c ∈ way, c ∈ ks) ∧ name.length ≤ 2000 ∧ way.length ≤ 2000 ∧ (joinOf ks ps name way).length ≤ 2000 ∧
  ∀ r' H', H r' = none → Same H H' → RoomAt R H' r' x (joinOf ks ps [] (joinOf ks ps name way)) → Q (.ref r') H'
/-- a room and a text -/
def spRoomEqS (R : Addr) : Sp := fun vs H Q _ => ∃ (r : Addr) (z : Str), vs = [.ref r, .str z] ∧ Q (.bl false) H
section
variable {P : Program} {w : World} {K : PySem.W.Frag} {mg : Str → Option Value} {base : Heap} {C R O : Addr}
abbrev stis_kind : Stmt := (top 21)
abbrev Nis_kind : List Str := ["plan", "value"]
theorem scis_kind : FnScope Nis_kind ["plan", "value"] (defScope stis_kind) := ⟨rfl, rfl, rfl, by decide +kernel, rfl, by decide +kernel, by decide +kernel⟩

theorem ok_is_kind (F : FnAt K mg "is_kind" stis_kind) (T : TxtP K mg C) : Def P w K mg base CX0 1 "is_kind" ["plan", "value"] (spIsKind C) := by
  refine F.ok scis_kind (fun _ _ _ _ _ _ us hl => match us, hl with | [_, _], _ => rfl) (fun vs H Q E h => ?_) (fun f cdv A outer s H vs Q E hr h => ?_)
  · obtain ⟨x, ks, ps, k, rfl, _⟩ := h
    rfl
  obtain ⟨x, ks, ps, k, rfl, h1, hk, q⟩ := h
  have hu := hu_of hr
  have nd := scis_kind.nd
  refine ⟨_, (pss_one (ps_ret (pe_and (pe_callB (c_isiK (K := K) rfl) (by rfl) T.isinstance (by decide +kernel) (pa_cons (pv 1) (pa_cons (pe_bltn (v := .ty "str") (u := .type "str") (by rfl) T.str (by decide +kernel) rfl) pa_nil))) (pe_and (pe_cmpR op_eq (pe_callB c_lenS (by rfl) T.len PySem.boot_len (pa_cons (pv 1) pa_nil)) pe_int (nomark _)) (pe_one (pe_cmpR op_inS (pv 1) (pe_flK (K := K) rfl (pv 0) rfl) (by rfl))))))), ?_⟩
  refine s_start [some _, some _] rfl ?_
  obtain ⟨dx, t, d, a1, a2, a3⟩ := h1.ex
  have l1 : [k].length ≤ 1000000 := by simp
  walk_at "go"
  refine if_dec (fun c => ?_) (fun c => (c (by rfl)).elim)
  walk_at "go"
  refine v_fld a1 T.Plan.cl T.nK planF_k ?_
  walk_at "go"
  rw [decide_eq_true hk]
  exact q
abbrev stneed_kind : Stmt := (top 22)
abbrev Nneed_kind : List Str := ["plan", "value"]
theorem scneed_kind : FnScope Nneed_kind ["plan", "value"] (defScope stneed_kind) := ⟨rfl, rfl, rfl, by decide +kernel, rfl, by decide +kernel, by decide +kernel⟩

theorem ok_need_kind (F : FnAt K mg "need_kind" stneed_kind) (D_is_kind : Def P w K mg base CX0 1 "is_kind" ["plan", "value"] (spIsKind C)) : Def P w K mg base CX0 2 "need_kind" ["plan", "value"] (spNeedKind C) := by
  refine F.ok scneed_kind (fun _ _ _ _ _ _ us hl => match us, hl with | [_, _], _ => rfl) (fun vs H Q E h => ?_) (fun f cdv A outer s H vs Q E hr h => ?_)
  · obtain ⟨x, ks, ps, k, rfl, _⟩ := h
    rfl
  obtain ⟨x, ks, ps, k, rfl, h1, hk, q⟩ := h
  have hu := hu_of hr
  have nd := scneed_kind.nd
  refine ⟨_, (pss_cons (ps_if (pt_not (pt_val (pe_cd D_is_kind hr pass0 (pa_cons (pv 0) (pa_cons (pv 1) pa_nil)))))
      (pss_one ps_never)
      pss_nil)
      (pss_one (ps_ret (pv 1)))), ?_⟩
  refine s_start [some _, some _] rfl ?_
  walk_at "go"
  refine ⟨x, ks, ps, k, rfl, h1, hk, ?_⟩
  walk_at "go"
  exact q
abbrev stRoom_getitem : Stmt := (inClass (top 26) 2)
abbrev NRoom_getitem : List Str := ["self", "kind"]
theorem scRoom_getitem : FnScope NRoom_getitem ["self", "kind"] (defScope stRoom_getitem) := ⟨rfl, rfl, rfl, by decide +kernel, rfl, by decide +kernel, by decide +kernel⟩

theorem ok_Room_getitem (F : MAt K R "__getitem__" "Room.__getitem__" stRoom_getitem) (T : TxtR K mg C R O) (D_need_kind : Def P w K mg base CX0 2 "need_kind" ["plan", "value"] (spNeedKind C)) (D_stepped : Def P w K mg base CX0 1 "stepped" ["plan", "name", "kind"] (spStepped C)) (C_Room : CDef P w K mg base CX0 3 "Room" R (spRoom C R)) : MDef P w K mg base CX0 5 R "__getitem__" ["self", "kind"] (spGetitem C R) := by
  refine F.ok scRoom_getitem (fun _ _ _ _ _ _ us hl => match us, hl with | [_, _], _ => rfl) (fun vs H Q E h => ?_) (fun f cdv A outer s H vs Q E hr h => ?_)
  · obtain ⟨r, x, ks, ps, name, k, rfl, _⟩ := h
    rfl
  obtain ⟨r, x, ks, ps, name, k, rfl, h1, h2, hk, hm, hl, q⟩ := h
  have hu := hu_of hr
  have nd := scRoom_getitem.nd
  replace D_need_kind := D_need_kind.mono (show 2 ≤ 4 by decide)
  replace D_stepped := D_stepped.mono (show 1 ≤ 4 by decide)
  refine ⟨_, (pss_one (ps_ret (pe_mk C_Room hr pass0 (pa_cons (pe_flK (K := K) rfl (pv 0) rfl) (pa_cons (pe_cd D_stepped hr pass0 (pa_cons (pe_flK (K := K) rfl (pv 0) rfl) (pa_cons (pe_flK (K := K) rfl (pv 0) rfl) (pa_cons (pe_cd D_need_kind hr pass0 (pa_cons (pe_flK (K := K) rfl (pv 0) rfl) (pa_cons (pv 1) pa_nil))) pa_nil)))) pa_nil))))), ?_⟩
  refine s_start [some _, some _] rfl ?_
  obtain ⟨dr, a1⟩ := h1.ex
  walk_at "go"
  refine v_fld a1 T.Room.cl T.nPl roomF_p ?_
  walk_at "go"
  refine v_fld a1 T.Room.cl T.nPl roomF_p ?_
  walk_at "go"
  refine v_fld a1 T.Room.cl T.nNm roomF_n ?_
  walk_at "go"
  refine v_fld a1 T.Room.cl T.nPl roomF_p ?_
  walk_at "go"
  refine ⟨x, ks, ps, k, rfl, h2, hk, ?_⟩
  walk_at "go"
  refine ⟨x, ks, ps, name, k, rfl, h2, hk, by omega, ?_⟩
  walk_at "go"
  have sl := stepOf_len (crossOf ks ps k) name k
  refine ⟨x, ks, ps, _, rfl, h2, fun c hc => ?_, by omega, fun r' H' a b c => q r' H' a b c⟩
  rcases stepOf_mem hc with e | e
  · rw [e]
    exact hk
  · exact hm c e
abbrev stRoom_add : Stmt := (inClass (top 26) 4)
abbrev NRoom_add : List Str := ["self", "way"]
theorem scRoom_add : FnScope NRoom_add ["self", "way"] (defScope stRoom_add) := ⟨rfl, rfl, rfl, by decide +kernel, rfl, by decide +kernel, by decide +kernel⟩

theorem ok_Room_add (F : MAt K R "__add__" "Room.__add__" stRoom_add) (T : TxtR K mg C R O) (D_need_way : Def P w K mg base CX0 1 "need_way" ["plan", "way"] (spNeedWay C)) (D_joined : Def P w K mg base CX0 2 "joined" ["plan", "name", "way"] (spJoined C)) (C_Room : CDef P w K mg base CX0 3 "Room" R (spRoom C R)) : MDef P w K mg base CX0 5 R "__add__" ["self", "way"] (spRoomAdd C R) := by
  refine F.ok scRoom_add (fun _ _ _ _ _ _ us hl => match us, hl with | [_, _], _ => rfl) (fun vs H Q E h => ?_) (fun f cdv A outer s H vs Q E hr h => ?_)
  · obtain ⟨r, x, ks, ps, name, way, rfl, _⟩ := h
    rfl
  obtain ⟨r, x, ks, ps, name, way, rfl, h1, h2, hn, hw, l1, l2, l3, q⟩ := h
  have hu := hu_of hr
  have nd := scRoom_add.nd
  replace D_need_way := D_need_way.mono (show 1 ≤ 4 by decide)
  replace D_joined := D_joined.mono (show 2 ≤ 4 by decide)
  refine ⟨_, (pss_one (ps_ret (pe_mk C_Room hr pass0 (pa_cons (pe_flK (K := K) rfl (pv 0) rfl) (pa_cons (pe_cd D_joined hr pass0 (pa_cons (pe_flK (K := K) rfl (pv 0) rfl) (pa_cons (pe_flK (K := K) rfl (pv 0) rfl) (pa_cons (pe_cd D_need_way hr pass0 (pa_cons (pe_flK (K := K) rfl (pv 0) rfl) (pa_cons (pv 1) pa_nil))) pa_nil)))) pa_nil))))), ?_⟩
  refine s_start [some _, some _] rfl ?_
  obtain ⟨dr, a1⟩ := h1.ex
  walk_at "go"
  refine v_fld a1 T.Room.cl T.nPl roomF_p ?_
  walk_at "go"
  refine v_fld a1 T.Room.cl T.nPl roomF_p ?_
  walk_at "go"
  refine v_fld a1 T.Room.cl T.nNm roomF_n ?_
  walk_at "go"
  refine v_fld a1 T.Room.cl T.nPl roomF_p ?_
  walk_at "go"
  refine ⟨x, ks, ps, way, rfl, h2, hw, l2, fun H1 s1 => ?_⟩
  walk_at "go"
  refine ⟨x, ks, ps, name, way, rfl, h2.same s1, hw, by omega, ?_⟩
  walk_at "go"
  refine ⟨x, ks, ps, _, rfl, h2.same s1, fun c hc => (joinOf_mem hc).elim (hn c) (hw c), l3, fun r' H' a b c => q r' H' ?_ (s1.trans b) c⟩
  exact L2.Same.free s1 a
theorem ok_Room_eqS (F : MAt K R "__eq__" "Room.__eq__" stRoom_eq) (T : TxtR K mg C R O) (kf : PySem.W.kitOne K (.type "str") (.ref R) = some false) (M_Plan_eq : MDef P w K mg base CX0 1 C "__eq__" ["self", "other"] (spPlanEq C)) : MDef P w K mg base CX0 2 R "__eq__" ["self", "other"] (spRoomEqS R) := by
  refine F.ok scRoom_eq (fun _ _ _ _ _ _ us hl => match us, hl with | [_, _], _ => rfl) (fun vs H Q E h => ?_) (fun f cdv A outer s H vs Q E hr h => ?_)
  · obtain ⟨r, z, rfl, _⟩ := h
    rfl
  obtain ⟨r, z, rfl, q⟩ := h
  have hu := hu_of hr
  have nd := scRoom_eq.nd
  refine ⟨_, (pss_one (ps_ret (pe_and (pe_callB (c_isiK (K := K) rfl) (by rfl) T.isinstance (by decide +kernel) (pa_cons (pv 1) (pa_cons (pe_globC T.Room.at) pa_nil))) (pe_and (pe_cmpR (op_cmpM (op := .Eq) (fun _ _ => rfl) M_Plan_eq hr pass0) (pe_flK (K := K) rfl (pv 0) rfl) (pe_flK (K := K) rfl (pv 1) rfl) (nomark _)) (pe_one (pe_cmpR op_eq (pe_flK (K := K) rfl (pv 0) rfl) (pe_flK (K := K) rfl (pv 1) rfl) (nomark _))))))), ?_⟩
  refine s_start [some _, some _] rfl ?_
  walk_at "go"
  refine ⟨.str z, .ref R, .type "str", .ref R, false, rfl, .own R, .base (.str z), kf, ?_⟩
  walk_at "go"
  exact q
end
end Cw
set_option Elab.async false
set_option linter.all false
set_option maxRecDepth 100000
set_option maxHeartbeats 4000000
/-! rooms of a drawn floor -/
namespace Cw
open PySem PySem.Spec L2
def spLaw (K : PySem.W.Frag) : Sp := fun vs H Q _ => ∃ (a : Addr) (ns : List Int), vs = [.ref a] ∧ SqL K H a (ns.map V.int) ∧ ns.length ≤ 63 ∧ ∀ H', Q (.bl true) H'
theorem if_nI {c A B : Prop} {inst : Decidable c} (h : c) (q : B) : if (!decide c) = true then A else B := if_ndec (fun z => absurd h z) (fun _ => q)
theorem if_I {c A B : Prop} {inst : Decidable c} (h : c) (q : A) : if decide c = true then A else B := if_dec (fun _ => q) (fun z => absurd h z)
/-! ### rooms of one plan -/
theorem RoomAt.go {R : Addr} {H H' : Hp} {r x : Addr} {name : List Nat} (s : Same H H') (h : RoomAt R H r x name) : RoomAt R H' r x name := h.same s
theorem PlanAt.go {C : Addr} {H H' : Hp} {x : Addr} {ks : List Nat} {ps : List (List Nat)} (s : Same H H') (h : PlanAt C H x ks ps) : PlanAt C H' x ks ps := h.same s
section
variable {K : PySem.W.Frag} {H : Hp} {Q : VK} {C R r r' x : Addr} {a b : List Nat} {ks : List Nat} {ps : List (List Nat)} {E : XK}
theorem v_rname {P : V → Prop} (h : RoomAt R H r x a) (c : Cls K R) (n : NoAttr K R "name") (q : P (.str (tx a))) : ∃ a' C dx fs v, V.ref r = .ref a' ∧ H a' = some (.ins C dx fs) ∧ Cls K C ∧ NoAttr K C "name" ∧ fs.lookup ("name" : Str) = some v ∧ P v := by
  obtain ⟨dx, e⟩ := h.ex
  exact v_fld e c n roomF_n q
theorem v_rnameG {P : V → Prop} (q : ∃ R x a, RoomAt R H r x a ∧ Cls K R ∧ NoAttr K R "name" ∧ P (.str (tx a))) : ∃ a' C dx fs v, V.ref r = .ref a' ∧ H a' = some (.ins C dx fs) ∧ Cls K C ∧ NoAttr K C "name" ∧ fs.lookup ("name" : Str) = some v ∧ P v := by
  obtain ⟨R, x, a, h, c, n, q⟩ := q
  exact v_rname h c n q
theorem v_rplan {P : V → Prop} (h : RoomAt R H r x a) (c : Cls K R) (n : NoAttr K R "plan") (q : P (.ref x)) : ∃ a' C dx fs v, V.ref r = .ref a' ∧ H a' = some (.ins C dx fs) ∧ Cls K C ∧ NoAttr K C "plan" ∧ fs.lookup ("plan" : Str) = some v ∧ P v := by
  obtain ⟨dx, e⟩ := h.ex
  exact v_fld e c n roomF_p q
theorem v_rplanG {P : V → Prop} (q : ∃ R x a, RoomAt R H r x a ∧ Cls K R ∧ NoAttr K R "plan" ∧ P (.ref x)) : ∃ a' C dx fs v, V.ref r = .ref a' ∧ H a' = some (.ins C dx fs) ∧ Cls K C ∧ NoAttr K C "plan" ∧ fs.lookup ("plan" : Str) = some v ∧ P v := by
  obtain ⟨R, x, a, h, c, n, q⟩ := q
  exact v_rplan h c n q
theorem rooms2 (h1 : RoomAt R H r x a) (h2 : RoomAt R H r' x b) (pl : PlanAt C H x ks ps) (ok : PsOk ps) (la : a.length ≤ 2000) (lb : b.length ≤ 2000) : Rooms2 C R H r x a r' x b true := ⟨h1, h2, ⟨ks, ks, ps, ps, pl, pl, ok, ok, (decide_eq_true ⟨rfl, rfl⟩).symm⟩, la, lb⟩
theorem v_req (h1 : RoomAt R H r x a) (h2 : RoomAt R H r' x b) (pl : PlanAt C H x ks ps) (ok : PsOk ps) (la : a.length ≤ 2000) (lb : b.length ≤ 2000) (q : Q (.bl (decide (a = b))) H) : rM2 R (spRoomEq C R) E (.ref r) (.ref r') H Q := by
  obtain ⟨dx, e1⟩ := h1.ex
  obtain ⟨dy, e2⟩ := h2.ex
  refine v_M2 e1 e2 ⟨_, _, _, _, _, _, _, rfl, rooms2 h1 h2 pl ok la lb, ?_⟩
  rw [Bool.true_and]
  exact q
theorem v_rne (h1 : RoomAt R H r x a) (h2 : RoomAt R H r' x b) (pl : PlanAt C H x ks ps) (ok : PsOk ps) (la : a.length ≤ 2000) (lb : b.length ≤ 2000) (q : Q (.bl (!decide (a = b))) H) : rM2n R (spRoomEq C R) E (.ref r) (.ref r') H Q := by
  obtain ⟨dx, e1⟩ := h1.ex
  obtain ⟨dy, e2⟩ := h2.ex
  refine v_M2n e1 e2 ⟨_, _, _, _, _, _, _, rfl, rooms2 h1 h2 pl ok la lb, ?_⟩
  rw [Bool.true_and]
  exact ⟨_, rfl, q⟩
theorem v_rlen (h : RoomAt R H r x a) (l : a.length ≤ 100000) (q : Q (.int a.length) H) : rLenM R (spRoomLen R) E [.ref r] H Q := by
  obtain ⟨dx, e⟩ := h.ex
  exact v_lenM e ⟨_, _, _, rfl, h, l, a.length, rfl, by omega, q⟩
theorem v_reqT {z : Str} (h : RoomAt R H r x a) (q : Q (.bl false) H) : rMS R (spRoomEqS R) E (.ref r) (.str z) H Q := by
  obtain ⟨dx, e⟩ := h.ex
  exact v_MS e ⟨_, _, rfl, q⟩
theorem v_rlenG (q : ∃ x a, RoomAt R H r x a ∧ a.length ≤ 100000 ∧ Q (.int a.length) H) : rLenM R (spRoomLen R) E [.ref r] H Q := by
  obtain ⟨x, a, h, l, q⟩ := q
  exact v_rlen h l q
theorem v_reqG (q : ∃ x a b ks ps, RoomAt R H r x a ∧ RoomAt R H r' x b ∧ PlanAt C H x ks ps ∧ PsOk ps ∧ a.length ≤ 2000 ∧ b.length ≤ 2000 ∧ Q (.bl (decide (a = b))) H) : rM2 R (spRoomEq C R) E (.ref r) (.ref r') H Q := by
  obtain ⟨x, a, b, ks, ps, h1, h2, h3, h4, h5, h6, q⟩ := q
  exact v_req h1 h2 h3 h4 h5 h6 q
theorem v_rneG (q : ∃ x a b ks ps, RoomAt R H r x a ∧ RoomAt R H r' x b ∧ PlanAt C H x ks ps ∧ PsOk ps ∧ a.length ≤ 2000 ∧ b.length ≤ 2000 ∧ Q (.bl (!decide (a = b))) H) : rM2n R (spRoomEq C R) E (.ref r) (.ref r') H Q := by
  obtain ⟨x, a, b, ks, ps, h1, h2, h3, h4, h5, h6, q⟩ := q
  exact v_rne h1 h2 h3 h4 h5 h6 q
theorem v_reqTG {z : Str} (q : ∃ x a, RoomAt R H r x a ∧ Q (.bl false) H) : rMS R (spRoomEqS R) E (.ref r) (.str z) H Q := by
  obtain ⟨x, a, h, q⟩ := q
  exact v_reqT h q
theorem v_peqS {x : Addr} (pl : PlanAt C H x ks ps) (ok : PsOk ps) (q : Q (.bl true) H) : rM2 C (spPlanEq C) E (.ref x) (.ref x) H Q := by
  obtain ⟨dx, t, d, e, _⟩ := pl.ex
  refine v_M2 e e ⟨_, _, _, _, _, _, rfl, pl, pl, ok, ok, ?_⟩
  rw [decide_eq_true ⟨rfl, rfl⟩]
  exact q
theorem v_peqG {x : Addr} (q : ∃ ks ps, PlanAt C H x ks ps ∧ PsOk ps ∧ Q (.bl true) H) : rM2 C (spPlanEq C) E (.ref x) (.ref x) H Q := by
  obtain ⟨ks, ps, h1, h2, q⟩ := q
  exact v_peqS h1 h2 q
end
/-! ### rooms of a drawn floor -/
section
variable {K : PySem.W.Frag} {H : Hp} {Q : VK} {C R r x : Addr} {ls : List Nat} {fn : Nat → List Nat} {a b w : List Nat} {k : Nat} {E : XK}
theorem inAsc (T : Tab ls fn) (h : ∀ c ∈ a, c ∈ ls) : ∀ c ∈ a, c ∈ ascOf ls := fun c hc => ascOf_mem.mpr ⟨T.lt c (h c hc), h c hc⟩
theorem memN (h : ∀ c ∈ a, c ∈ ls) : ∀ c ∈ joinC fn [] a, c ∈ ls := fun c hc => h c (name_mem hc)
theorem sp_room (fl : Fl ls fn) (pl : PlanAt C H x (ascOf ls) (tabPairs ls fn)) (hw : ∀ c ∈ w, c ∈ ls) (l : w.length ≤ 2000) (q : ∀ r H', H r = none → Same H H' → RoomAt R H' r x (joinC fn [] w) → Q (.ref r) H') : spRoom C R [.ref x, .str (tx w)] H Q E := by
  refine ⟨x, _, _, w, rfl, pl, inAsc fl.tab hw, l, fun r H' h s ro => q r H' h s ?_⟩
  rw [joinOf_tab fl.tab (name := []) (by simp) hw] at ro
  exact ro
theorem v_add (fl : Fl ls fn) (h : RoomAt R H r x (joinC fn [] a)) (pl : PlanAt C H x (ascOf ls) (tabPairs ls fn)) (ha : ∀ c ∈ a, c ∈ ls) (hb : ∀ c ∈ b, c ∈ ls) (la : a.length ≤ 1000) (lb : b.length ≤ 1000) (q : ∀ r' H', H r' = none → Same H H' → RoomAt R H' r' x (joinC fn [] (a ++ b)) → Q (.ref r') H') : rMS R (spRoomAdd C R) E (.ref r) (.str (tx b)) H Q := by
  obtain ⟨dr, er⟩ := h.ex
  have n1 := name_len fn a
  have j1 := joinOf_len (ascOf ls) (tabPairs ls fn) b (joinC fn [] a)
  have n1 : (joinC fn [] a).length ≤ a.length := n1
  refine v_MS er ⟨r, x, _, _, _, b, rfl, h, pl, inAsc fl.tab (memN ha), inAsc fl.tab hb, by omega, by omega, by omega, fun r' H' hr' s' ro => q r' H' hr' s' ?_⟩
  have hm : ∀ c ∈ joinC fn (joinC fn [] a) b, c ∈ ls := fun c hc => (joinC_mem' hc).elim (memN ha c) (hb c)
  rw [joinOf_tab fl.tab (memN ha) hb, joinOf_tab fl.tab (name := []) (by simp) hm, show joinC fn [] (joinC fn (joinC fn [] a) b) = joinC fn [] (a ++ b) from name_app fl.ok a b] at ro
  exact ro
theorem v_get (fl : Fl ls fn) (h : RoomAt R H r x (joinC fn [] a)) (pl : PlanAt C H x (ascOf ls) (tabPairs ls fn)) (ha : ∀ c ∈ a, c ∈ ls) (hk : k ∈ ls) (la : a.length ≤ 1000) (q : ∀ r' H', H r' = none → Same H H' → RoomAt R H' r' x (joinC fn [] (a ++ [k])) → Q (.ref r') H') : rMS R (spGetitem C R) E (.ref r) (.str (tx [k])) H Q := by
  obtain ⟨dr, er⟩ := h.ex
  have n1 : (joinC fn [] a).length ≤ a.length := name_len fn a
  refine v_MS er ⟨r, x, _, _, _, k, rfl, h, pl, inAsc (a := [k]) fl.tab (by simpa using hk) k (by simp), inAsc fl.tab (memN ha), by omega, fun r' H' hr' s' ro => q r' H' hr' s' ?_⟩
  have hm : ∀ c ∈ stepOf (fn k) (joinC fn [] a) k, c ∈ ls := fun c hc => (stepOf_mem hc).elim (fun z => z ▸ hk) (memN ha c)
  rw [stepOf_tab fl.tab hk (memN ha), joinOf_tab fl.tab (name := []) (by simp) hm, show joinC fn [] (stepOf (fn k) (joinC fn [] a) k) = joinC fn [] (a ++ [k]) from name_step fl.ok a k] at ro
  exact ro
theorem sp_name {d : Addr} (fl : Fl ls fn) (hd : H d = some (.dK (tabKV ls fn))) (hw : ∀ c ∈ w, c ∈ ls) (l : w.length ≤ 10000) (q : ∀ H', Same H H' → Q (.str (tx (joinC fn [] w))) H') : spName [.ref d, .str (tx w)] H Q E := ⟨d, ls, fn, w, rfl, hd, fl.tab, fl.ok, fl.asc, hw, l, q⟩
end
theorem v_mdRG {R r : Addr} {H : Hp} {m : Str} {P : Prop} (q : ∃ x a, RoomAt R H r x a ∧ (¬ m = "name" ∧ ¬ m = "plan") ∧ P) : ∃ a dx fs, V.ref r = .ref a ∧ H a = some (.ins R dx fs) ∧ fs.lookup m = none ∧ P := by
  obtain ⟨x, a, h, ⟨h1, h2⟩, q⟩ := q
  obtain ⟨dx, e⟩ := h.ex
  exact ⟨r, dx, _, rfl, e, roomF_no h1 h2, q⟩
end Cw
set_option Elab.async false
set_option linter.all false
set_option maxRecDepth 100000
set_option maxHeartbeats 4000000
/-! ways turned back; the doors that lead nearer -/
namespace Cw
section
variable {cr f : Nat → List Nat} {ls : List Nat}
theorem act_rev (ok : CrOk f) : ∀ (w : List Nat) (g : Nat → Int), act f w.reverse (act f w g) = g
  | [], g => rfl
  | k :: r, g => by
    rw [List.reverse_cons, act_app]
    show act f r.reverse (thr f k (thr f k (act f r g))) = g
    rw [thr_thr ok, act_rev ok r]
theorem act_rev' (ok : CrOk f) (w : List Nat) (g : Nat → Int) : act f w (act f w.reverse g) = g := by
  have := act_rev ok w.reverse g
  rw [List.reverse_reverse] at this
  exact this
theorem act_rev_eq (ok : CrOk f) {v w : List Nat} (h : ∀ g, act f v g = act f w g) (g : Nat → Int) : act f v.reverse g = act f w.reverse g := by
  have e1 := act_rev' ok w g
  rw [← h] at e1
  have e2 := congrArg (act f v.reverse) e1
  rw [act_rev ok] at e2
  exact e2.symm
/-- the name of a way turned back -/
theorem name_rev (ok : CrOk f) (w : List Nat) : nameOf f (nameOf f w).reverse = nameOf f w.reverse := name_eq ok fun g => act_rev_eq ok (name_act ok w) g
theorem name_cat (ok : CrOk f) (a b : List Nat) : nameOf f (nameOf f a ++ nameOf f b) = nameOf f (a ++ b) := name_eq ok fun g => by
  rw [act_app, act_app, name_act ok, name_act ok]
theorem name_catL (ok : CrOk f) (a b : List Nat) : nameOf f (nameOf f a ++ b) = nameOf f (a ++ b) := name_eq ok fun g => by
  rw [act_app, act_app, name_act ok]
theorem name_catR (ok : CrOk f) (a b : List Nat) : nameOf f (a ++ nameOf f b) = nameOf f (a ++ b) := name_eq ok fun g => by
  rw [act_app, act_app, name_act ok]
theorem name_back (ok : CrOk f) (a : List Nat) : nameOf f (a.reverse ++ a) = [] := name_eq (w := []) ok fun g => by
  rw [act_app, act_rev ok]
  rfl
theorem name_there (ok : CrOk f) (a b : List Nat) : nameOf f (a ++ (a.reverse ++ b)) = nameOf f b := name_eq ok fun g => by
  rw [act_app, act_app, act_rev' ok]
/-- the way from one room to another one -/
def wayC (f : Nat → List Nat) (a b : List Nat) : List Nat := nameOf f (a.reverse ++ b)
theorem way_name (ok : CrOk f) (a b : List Nat) : wayC f (nameOf f a) (nameOf f b) = wayC f a b := name_eq ok fun g => by
  rw [act_app, act_app, name_act ok b, act_rev_eq ok (name_act ok a)]
theorem way_rev (ok : CrOk f) (a b : List Nat) : nameOf f (wayC f a b).reverse = wayC f b a := by
  unfold wayC
  rw [name_rev ok, List.reverse_append, List.reverse_reverse]
theorem way_len_le (ok : CrOk f) (a b : List Nat) : (wayC f b a).length ≤ (wayC f a b).length := by
  rw [← way_rev ok a b]
  have := name_len f (wayC f a b).reverse
  rw [List.length_reverse] at this
  exact this
theorem way_len (ok : CrOk f) (a b : List Nat) : (wayC f b a).length = (wayC f a b).length := Nat.le_antisymm (way_len_le ok a b) (way_len_le ok b a)
theorem way_tri (ok : CrOk f) (a b c : List Nat) : (wayC f a b).length ≤ (wayC f a c).length + (wayC f c b).length := by
  have e : wayC f a b = nameOf f (wayC f a c ++ wayC f c b) := by
    unfold wayC
    rw [name_cat ok]
    refine name_eq ok fun g => ?_
    simp only [act_app]
    rw [act_rev' ok]
  rw [e, ← List.length_append]
  exact name_len f _
theorem way_self (ok : CrOk f) (a : List Nat) : wayC f a a = [] := name_back ok a
theorem way_nil (a : List Nat) : wayC f [] a = nameOf f a := rfl
theorem way_goes (ok : CrOk f) (a b : List Nat) : nameOf f (a ++ wayC f a b) = nameOf f b := by
  unfold wayC
  rw [name_catR ok, name_there ok]
/-! ### odd and even -/
theorem step_len (part name : List Nat) (k : Nat) : (stepOf part name k).length = name.length + 1 ∨ (stepOf part name k).length + 1 = name.length := by
  obtain ⟨d, e, e1, hd, he, hc⟩ := stepOf_cases part name k
  have l1 := congrArg List.length e1
  rw [List.length_reverse, List.length_append] at l1
  rcases hc with ⟨e', rfl, e2⟩ | ⟨hk, e2⟩
  · have l2 := congrArg List.length e2
    rw [List.length_reverse, List.length_append] at l2
    rw [List.length_cons] at l1
    right
    omega
  · have l2 := congrArg List.length e2
    rw [List.length_reverse, List.length_append, List.length_reverse, putIn_len, List.length_reverse] at l2
    left
    omega
theorem join_par (f : Nat → List Nat) : ∀ (w n : List Nat), ((joinC f n w).length + n.length + w.length) % 2 = 0
  | [], n => by
    show (n.length + n.length + 0) % 2 = 0
    omega
  | k :: r, n => by
    have ih := join_par f r (stepOf (f k) n k)
    show ((joinC f (stepOf (f k) n k) r).length + n.length + (k :: r).length) % 2 = 0
    rw [List.length_cons]
    have := step_len (f k) n k
    omega
theorem name_par (f : Nat → List Nat) (w : List Nat) : ((nameOf f w).length + w.length) % 2 = 0 := by
  have := join_par f w []
  rw [List.length_nil] at this
  show ((joinC f [] w).length + w.length) % 2 = 0
  omega
theorem way_par (ok : CrOk f) (a b : List Nat) : ((nameOf f a).length + (nameOf f b).length + (wayC f a b).length) % 2 = 0 := by
  have h1 := name_par f a
  have h2 := name_par f b
  have h3 := name_par f (a.reverse ++ b)
  rw [List.length_append, List.length_reverse] at h3
  unfold wayC
  omega
/-! ### doors nearer -/
instance descDec (cr : Nat → List Nat) (s : Nat) : (w : List Nat) → Decidable (desc cr s w)
  | [] => isFalse id
  | t :: r => by
    have := descDec cr s r
    exact inferInstanceAs (Decidable (t = s ∨ (t ∈ cr s ∧ desc cr s r)))
theorem Red_iff : ∀ {w : List Nat}, Red cr w ↔ ∀ p t q r, w = p ++ t :: (q ++ t :: r) → ¬ ∀ y ∈ q, y ∈ cr t
  | [] => ⟨fun _ p t q r e => (by cases p <;> cases e), fun _ => trivial⟩
  | x :: w => by
    constructor
    · intro h p t q r e hq
      cases p with
      | nil =>
        injection e with e1 e2
        subst e1
        exact h.1 (e2 ▸ desc_of hq)
      | cons y p =>
        injection e with e1 e2
        exact Red_iff.mp h.2 p t q r e2 hq
    · intro h
      refine ⟨fun z => ?_, Red_iff.mpr fun p t q r e hq => h (x :: p) t q r (by rw [e]; rfl) hq⟩
      obtain ⟨p, q, e, hp⟩ := desc_split z
      exact h [] x p q (by rw [e]; rfl) hp
theorem Red.rev {w : List Nat} (h : Red cr w) : Red cr w.reverse := by
  rw [Red_iff]
  intro p t q r e hq
  have e2 := congrArg List.reverse e
  rw [List.reverse_reverse] at e2
  refine Red_iff.mp h r.reverse t q.reverse p.reverse ?_ fun y hy => hq y (List.mem_reverse.mp hy)
  rw [e2]
  simp
/-- the doors of a room that lead back -/
theorem backs_desc (ok : CrOk f) {w : List Nat} (hw : ∀ y ∈ w, y ∈ ls) : (ls.filter fun c => decide (∃ x ∈ ls, act f w.reverse (unit x) c < 0)) = ls.filter fun c => decide (desc f c (nameOf f w).reverse) := by
  refine List.filter_congr fun c hc => ?_
  have h1 := mark_neg (ls := ls) ok (name_NF ok w).red.rev (fun y hy => hw y (name_mem (List.mem_reverse.mp hy))) hc
  rw [Bool.eq_iff_iff, decide_eq_true_iff, decide_eq_true_iff, ← h1]
  unfold mark
  have e : ∀ g, act f (nameOf f w).reverse g = act f w.reverse g := act_rev_eq ok (name_act ok w)
  simp only [e]
theorem desc_two (ok : CrOk cr) {s t : Nat} (ne : s ≠ t) : ∀ {w : List Nat}, desc cr s w → desc cr t w → s ∈ cr t
  | [], h, _ => h.elim
  | x :: r, h1, h2 => by
    rcases h1 with rfl | ⟨a1, b1⟩
    · rcases h2 with rfl | ⟨a2, b2⟩
      · exact absurd rfl ne
      · exact a2
    · rcases h2 with rfl | ⟨a2, b2⟩
      · exact ok.sym _ _ a1
      · exact desc_two ok ne b1 b2
theorem step_len_desc (ok : CrOk cr) (name : List Nat) (k : Nat) : (desc cr k name.reverse → (stepOf (cr k) name k).length + 1 = name.length) ∧ (¬ desc cr k name.reverse → (stepOf (cr k) name k).length = name.length + 1) := by
  obtain ⟨d, e, e1, hd, he, hc⟩ := stepOf_cases (cr k) name k
  have l1 := congrArg List.length e1
  rw [List.length_reverse, List.length_append] at l1
  rw [e1]
  have hp := desc_pass (q := e) ok hd
  rcases hc with ⟨e', rfl, e2⟩ | ⟨hk, e2⟩
  · have l2 := congrArg List.length e2
    rw [List.length_reverse, List.length_append] at l2
    rw [List.length_cons] at l1
    exact ⟨fun _ => by omega, fun z => absurd (hp.mpr (.inl rfl)) z⟩
  · have l2 := congrArg List.length e2
    rw [List.length_reverse, List.length_append, List.length_reverse, putIn_len, List.length_reverse] at l2
    refine ⟨fun z => ?_, fun _ => by omega⟩
    have z := hp.mp z
    cases e with
    | nil => exact z.elim
    | cons y r =>
      rcases z with z | ⟨z, _⟩
      · exact absurd (by rw [z]; rfl) hk
      · exact absurd z (he y rfl)
/-- letters of a way that all before them cross -/
def frees (f : Nat → List Nat) (ks : List Nat) (p : List Nat) : List Nat := p.foldl (fun free k => free.filter fun o => decide (o ∈ f k)) ks
def founds (f : Nat → List Nat) : List Nat → List Nat → List Nat
  | _, [] => []
  | free, k :: r => (if k ∈ free then [k] else []) ++ founds f (free.filter fun o => decide (o ∈ f k)) r
theorem founds_mem (ok : CrOk f) {s : Nat} : ∀ {w free : List Nat}, s ∈ founds f free w ↔ s ∈ free ∧ desc f s w
  | [], free => ⟨fun z => (nomatch z), fun z => z.2.elim⟩
  | k :: r, free => by
    have ih := founds_mem ok (s := s) (w := r) (free := free.filter fun o => decide (o ∈ f k))
    show s ∈ (if k ∈ free then [k] else []) ++ founds f _ r ↔ s ∈ free ∧ (k = s ∨ (k ∈ f s ∧ desc f s r))
    rw [List.mem_append, ih, List.mem_filter, decide_eq_true_iff]
    constructor
    · rintro (h | ⟨⟨h1, h2⟩, h3⟩)
      · by_cases c : k ∈ free
        · rw [if_pos c, List.mem_singleton] at h
          exact ⟨h ▸ c, .inl h.symm⟩
        · rw [if_neg c] at h
          cases h
      · exact ⟨h1, .inr ⟨ok.sym _ _ h2, h3⟩⟩
    · rintro ⟨h1, rfl | ⟨h2, h3⟩⟩
      · left
        rw [if_pos h1]
        exact List.mem_singleton.mpr rfl
      · right
        exact ⟨⟨h1, ok.sym _ _ h2⟩, h3⟩
theorem founds_nil (f : Nat → List Nat) : ∀ w : List Nat, founds f [] w = []
  | [] => rfl
  | k :: r => by
    show (if k ∈ ([] : List Nat) then [k] else []) ++ founds f [] r = []
    rw [if_neg (fun z => nomatch z), founds_nil f r]
    rfl
end
end Cw
set_option Elab.async false
set_option linter.all false
set_option maxRecDepth 100000
set_option maxHeartbeats 4000000
namespace Cw
open PySem PySem.Spec L2
local macro_rules | `(tactic| walk_at "side") => `(tactic| first | omega | assumption | (dsimp only; omega) | (unfold CMul; omega) | exact ⟨by decide, by decide, by decide⟩ | exact wdiv (by first | assumption | decide | omega) (by first | assumption | decide | omega) | (simp only [List.length_cons, List.length_nil]; omega) | rfl)
local macro_rules | `(tactic| walk_at "hl") => `(tactic| first | assumption | exact upd_same | ((refine Cw.Same.at (by assumption) ?_); walk_at "hl") | ((refine Cw.Keep.at (by assumption) ?_ (by assumption)); walk_at "hl"))
local macro_rules | `(tactic| walk_at "st") => `(tactic| first
  | (with_reducible refine s_seq ?_) | (with_reducible refine g_nm ?_) | (with_reducible refine s_next ?_) | (with_reducible refine s_set ?_) | (with_reducible refine s_drop ?_) | (with_reducible refine s_ret ?_) | (with_reducible refine s_if ?_)
  | ((with_reducible refine e_varG ?_); refine ⟨_, (by with_unfolding_all rfl), ?_⟩) | (with_reducible refine e_c ?_) | (with_reducible refine e_op ?_) | (with_reducible refine e_un ?_)
  | (with_reducible refine e_cons ?_) | (with_reducible refine e_nil ?_) | (with_reducible refine e_cb ?_) | (with_reducible refine e_call ?_) | (with_reducible refine e_md ?_)
  | (with_reducible refine t_test ?_) | (with_reducible refine t_B ?_) | (with_reducible refine t_and ?_) | (with_reducible refine t_or ?_) | (with_reducible refine t_not ?_)
  | (with_reducible refine e_andV ?_) | (with_reducible refine e_orV ?_) | (with_reducible refine e_notV ?_) | (with_reducible refine e_if ?_)
  | (with_reducible refine v_I0 ?_) | ((with_reducible refine v_I ?c ?_); try (case c => walk_at "side")) | (with_reducible refine v_bl ?_)
  | ((with_reducible refine v_eq ?c ?_); (case c => with_unfolding_all rfl)) | ((with_reducible refine v_ne ?c ?_); (case c => with_unfolding_all rfl))
  | (with_reducible refine v_inti ?_) | (with_reducible refine v_intb ?_) | ((with_reducible refine v_lenG ?_); refine ⟨_, (by walk_at "hl"), ?_⟩)
  | ((with_reducible refine v_lenS ?c ?_); try (case c => walk_at "side"))
  | (with_reducible refine e_dnew ?_) | (with_reducible refine e_dget ?_) | (with_reducible refine s_dput ?_) | (with_reducible refine e_lst ?_) | (with_reducible refine e_tup ?_)
  | ((with_reducible refine v_lst ?c ?_); (case c => walk_at "side")) | ((with_reducible refine v_tup ?c ?_); (case c => walk_at "side"))
  | ((with_reducible refine v_dgetG ?_); refine ⟨_, (by assumption), ?_⟩)
  | (with_reducible refine e_sl ?_) | (with_reducible refine e_nopart ?_) | (with_reducible refine e_part ?_) | (with_reducible refine e_m1 ?_) | (with_reducible refine v_isS ?_) | (with_reducible refine v_int ?_)
  | (with_reducible refine e_lc ?_) | (with_reducible refine e_iStr ?_) | (with_reducible refine e_iEnumS ?_) | (with_reducible refine v_iEnumS ?_) | (with_reducible refine v_str ?_) | (with_reducible refine e_yes ?_) | (with_reducible refine e_fld ?_) | (with_reducible refine e_sfld ?_)
  | ((with_reducible refine v_addS ?c ?_); try (case c => walk_at "side")) | (with_reducible refine v_inS ?_) | (with_reducible refine v_notInS ?_) | (with_reducible refine v_ltS ?_)
  | ((with_reducible refine v_inLG ?_); refine ⟨_, (by walk_at "hl"), ?_⟩) | (with_reducible refine v_isiS ?_) | (with_reducible refine e_revS ?_) | ((with_reducible refine v_revS ?c ?_); try (case c => walk_at "side"))
  | ((with_reducible refine v_lenSetG ?_); refine ⟨_, (by walk_at "hl"), ?_⟩)
  | (with_reducible refine e_bm ?_) | (with_reducible refine e_bm0 ?_) | ((with_reducible refine v_tyLG ?_); refine ⟨_, (by walk_at "hl"), ?_⟩)
  | (with_reducible refine iteNT ?_) | (with_reducible refine iteNF ?_) | (with_reducible refine e_for ?_)
  | (with_reducible refine e_iL ?_) | (with_reducible refine e_iT ?_) | ((with_reducible refine v_iLG ?_); refine ⟨_, (by walk_at "hl"), ?_⟩) | (with_reducible refine e_iR1 ?_) | ((with_reducible refine v_iR1 ?c1 ?c2 ?_); try (case c1 => walk_at "side"); try (case c2 => walk_at "side"))
  | (with_reducible refine e_iR2 ?_) | ((with_reducible refine v_iR2 ?c1 ?_); try (case c1 => walk_at "side"))
  | (with_reducible refine e_pr0 ?_) | (with_reducible refine e_pr ?_) | (with_reducible refine e_disp ?_) | (with_reducible refine s_asgT ?_) | (with_reducible refine e_tryA ?_) | (with_reducible refine e_callS ?_) | (with_reducible refine e_mdS ?_) | (with_reducible refine e_par ?_) | (with_reducible refine v_par ?_) | (with_reducible refine e_par3 ?_) | (with_reducible refine v_par3 ?_) | (with_reducible refine e_iK ?_) | (with_reducible refine e_dnotin ?_)
  | (with_reducible refine iteT ?_) | (with_reducible refine iteF ?_))
local macro_rules | `(tactic| walk_at "go") => `(tactic| repeat walk_at "st")
section
variable {P : Program} {w : World} {K : PySem.W.Frag} {mg : Str → Option Value} {base : Heap} {C : Addr}
end
end Cw
set_option Elab.async false
set_option linter.all false
set_option maxRecDepth 100000
set_option maxHeartbeats 4000000
namespace Cw
open PySem PySem.Spec L2
local macro_rules | `(tactic| walk_at "side") => `(tactic| first | omega | assumption | (dsimp only; omega) | (unfold CMul; omega) | exact ⟨by decide, by decide, by decide⟩ | exact wdiv (by first | assumption | decide | omega) (by first | assumption | decide | omega) | (simp only [List.length_cons, List.length_nil]; omega) | rfl)
local macro_rules | `(tactic| walk_at "hl") => `(tactic| first | assumption | exact upd_same | ((refine Cw.Same.at (by assumption) ?_); walk_at "hl") | ((refine Cw.Keep.at (by assumption) ?_ (by assumption)); walk_at "hl"))
local macro_rules | `(tactic| walk_at "st") => `(tactic| first
  | (with_reducible refine s_seq ?_) | (with_reducible refine g_nm ?_) | (with_reducible refine s_next ?_) | (with_reducible refine s_set ?_) | (with_reducible refine s_drop ?_) | (with_reducible refine s_ret ?_) | (with_reducible refine s_if ?_)
  | ((with_reducible refine e_varG ?_); refine ⟨_, (by with_unfolding_all rfl), ?_⟩) | (with_reducible refine e_c ?_) | (with_reducible refine e_op ?_) | (with_reducible refine e_un ?_)
  | (with_reducible refine e_cons ?_) | (with_reducible refine e_nil ?_) | (with_reducible refine e_cb ?_) | (with_reducible refine e_call ?_) | (with_reducible refine e_md ?_)
  | (with_reducible refine t_test ?_) | (with_reducible refine t_B ?_) | (with_reducible refine t_and ?_) | (with_reducible refine t_or ?_) | (with_reducible refine t_not ?_)
  | (with_reducible refine e_andV ?_) | (with_reducible refine e_orV ?_) | (with_reducible refine e_notV ?_) | (with_reducible refine e_if ?_)
  | (with_reducible refine v_I0 ?_) | ((with_reducible refine v_I ?c ?_); try (case c => walk_at "side")) | (with_reducible refine v_bl ?_)
  | ((with_reducible refine v_eq ?c ?_); (case c => with_unfolding_all rfl)) | ((with_reducible refine v_ne ?c ?_); (case c => with_unfolding_all rfl))
  | (with_reducible refine v_inti ?_) | (with_reducible refine v_intb ?_) | ((with_reducible refine v_lenG ?_); refine ⟨_, (by walk_at "hl"), ?_⟩)
  | ((with_reducible refine v_lenS ?c ?_); try (case c => walk_at "side"))
  | (with_reducible refine e_dnew ?_) | (with_reducible refine e_dget ?_) | (with_reducible refine s_dput ?_) | (with_reducible refine e_lst ?_) | (with_reducible refine e_tup ?_)
  | ((with_reducible refine v_lst ?c ?_); (case c => walk_at "side")) | ((with_reducible refine v_tup ?c ?_); (case c => walk_at "side"))
  | ((with_reducible refine v_dgetG ?_); refine ⟨_, (by assumption), ?_⟩)
  | (with_reducible refine e_sl ?_) | (with_reducible refine e_nopart ?_) | (with_reducible refine e_part ?_) | (with_reducible refine e_m1 ?_) | (with_reducible refine v_isS ?_) | (with_reducible refine v_int ?_)
  | (with_reducible refine e_lc ?_) | (with_reducible refine e_iStr ?_) | (with_reducible refine e_iEnumS ?_) | (with_reducible refine v_iEnumS ?_) | (with_reducible refine v_str ?_) | (with_reducible refine e_yes ?_) | (with_reducible refine e_fld ?_) | (with_reducible refine e_sfld ?_)
  | ((with_reducible refine v_addS ?c ?_); try (case c => walk_at "side")) | (with_reducible refine v_inS ?_) | (with_reducible refine v_notInS ?_) | (with_reducible refine v_ltS ?_)
  | ((with_reducible refine v_inLG ?_); refine ⟨_, (by walk_at "hl"), ?_⟩) | (with_reducible refine v_isiS ?_) | (with_reducible refine e_revS ?_) | ((with_reducible refine v_revS ?c ?_); try (case c => walk_at "side"))
  | ((with_reducible refine v_lenSetG ?_); refine ⟨_, (by walk_at "hl"), ?_⟩)
  | (with_reducible refine e_bm ?_) | (with_reducible refine e_bm0 ?_) | ((with_reducible refine v_tyLG ?_); refine ⟨_, (by walk_at "hl"), ?_⟩)
  | (with_reducible refine iteNT ?_) | (with_reducible refine iteNF ?_) | (with_reducible refine e_for ?_)
  | (with_reducible refine e_iL ?_) | (with_reducible refine e_iT ?_) | ((with_reducible refine v_iLG ?_); refine ⟨_, (by walk_at "hl"), ?_⟩) | (with_reducible refine e_iR1 ?_) | ((with_reducible refine v_iR1 ?c1 ?c2 ?_); try (case c1 => walk_at "side"); try (case c2 => walk_at "side"))
  | (with_reducible refine e_iR2 ?_) | ((with_reducible refine v_iR2 ?c1 ?_); try (case c1 => walk_at "side"))
  | (with_reducible refine e_pr0 ?_) | (with_reducible refine e_pr ?_) | (with_reducible refine e_disp ?_) | (with_reducible refine s_asgT ?_) | (with_reducible refine e_tryA ?_) | (with_reducible refine e_callS ?_) | (with_reducible refine e_mdS ?_) | (with_reducible refine e_par ?_) | (with_reducible refine v_par ?_) | (with_reducible refine e_par3 ?_) | (with_reducible refine v_par3 ?_) | (with_reducible refine e_iK ?_) | (with_reducible refine e_dnotin ?_)
  | (with_reducible refine iteT ?_) | (with_reducible refine iteF ?_))
local macro_rules | `(tactic| walk_at "go") => `(tactic| repeat walk_at "st")
section
variable {P : Program} {w : World} {K : PySem.W.Frag} {mg : Str → Option Value} {base : Heap} {C R O : Addr}
end
end Cw
set_option Elab.async false
set_option linter.all false
set_option maxRecDepth 100000
set_option maxHeartbeats 4000000
namespace Cw
open PySem PySem.Spec L2
local macro_rules | `(tactic| walk_at "side") => `(tactic| first | omega | assumption | (dsimp only; omega) | (unfold CMul; omega) | exact ⟨by decide, by decide, by decide⟩ | exact wdiv (by first | assumption | decide | omega) (by first | assumption | decide | omega) | (simp only [List.length_cons, List.length_nil]; omega) | rfl)
local macro_rules | `(tactic| walk_at "hl") => `(tactic| first | assumption | exact upd_same | ((refine Cw.Same.at (by assumption) ?_); walk_at "hl") | ((refine Cw.Keep.at (by assumption) ?_ (by assumption)); walk_at "hl"))
local macro_rules | `(tactic| walk_at "st") => `(tactic| first
  | (with_reducible refine s_seq ?_) | (with_reducible refine g_nm ?_) | (with_reducible refine s_next ?_) | (with_reducible refine s_set ?_) | (with_reducible refine s_drop ?_) | (with_reducible refine s_ret ?_) | (with_reducible refine s_if ?_)
  | ((with_reducible refine e_varG ?_); refine ⟨_, (by with_unfolding_all rfl), ?_⟩) | (with_reducible refine e_c ?_) | (with_reducible refine e_op ?_) | (with_reducible refine e_un ?_)
  | (with_reducible refine e_cons ?_) | (with_reducible refine e_nil ?_) | (with_reducible refine e_cb ?_) | (with_reducible refine e_call ?_) | (with_reducible refine e_md ?_)
  | (with_reducible refine t_test ?_) | (with_reducible refine t_B ?_) | (with_reducible refine t_and ?_) | (with_reducible refine t_or ?_) | (with_reducible refine t_not ?_)
  | (with_reducible refine e_andV ?_) | (with_reducible refine e_orV ?_) | (with_reducible refine e_notV ?_) | (with_reducible refine e_if ?_)
  | (with_reducible refine v_I0 ?_) | ((with_reducible refine v_I ?c ?_); try (case c => walk_at "side")) | (with_reducible refine v_bl ?_)
  | ((with_reducible refine v_eq ?c ?_); (case c => with_unfolding_all rfl)) | ((with_reducible refine v_ne ?c ?_); (case c => with_unfolding_all rfl))
  | (with_reducible refine v_inti ?_) | (with_reducible refine v_intb ?_) | ((with_reducible refine v_lenG ?_); refine ⟨_, (by walk_at "hl"), ?_⟩)
  | ((with_reducible refine v_lenS ?c ?_); try (case c => walk_at "side"))
  | (with_reducible refine e_dnew ?_) | (with_reducible refine e_dget ?_) | (with_reducible refine s_dput ?_) | (with_reducible refine e_lst ?_) | (with_reducible refine e_tup ?_)
  | ((with_reducible refine v_lst ?c ?_); (case c => walk_at "side")) | ((with_reducible refine v_tup ?c ?_); (case c => walk_at "side"))
  | ((with_reducible refine v_dgetG ?_); refine ⟨_, (by assumption), ?_⟩)
  | (with_reducible refine e_sl ?_) | (with_reducible refine e_nopart ?_) | (with_reducible refine e_part ?_) | (with_reducible refine e_m1 ?_) | (with_reducible refine v_isS ?_) | (with_reducible refine v_int ?_)
  | (with_reducible refine e_lc ?_) | (with_reducible refine e_iStr ?_) | (with_reducible refine e_iEnumS ?_) | (with_reducible refine v_iEnumS ?_) | (with_reducible refine v_str ?_) | (with_reducible refine e_yes ?_) | (with_reducible refine e_fld ?_) | (with_reducible refine e_sfld ?_)
  | ((with_reducible refine v_addS ?c ?_); try (case c => walk_at "side")) | (with_reducible refine v_inS ?_) | (with_reducible refine v_notInS ?_) | (with_reducible refine v_ltS ?_)
  | ((with_reducible refine v_inLG ?_); refine ⟨_, (by walk_at "hl"), ?_⟩) | (with_reducible refine v_isiS ?_) | (with_reducible refine e_revS ?_) | ((with_reducible refine v_revS ?c ?_); try (case c => walk_at "side"))
  | ((with_reducible refine v_lenSetG ?_); refine ⟨_, (by walk_at "hl"), ?_⟩)
  | (with_reducible refine e_bm ?_) | (with_reducible refine e_bm0 ?_) | ((with_reducible refine v_tyLG ?_); refine ⟨_, (by walk_at "hl"), ?_⟩)
  | (with_reducible refine iteNT ?_) | (with_reducible refine iteNF ?_) | (with_reducible refine e_for ?_)
  | (with_reducible refine e_iL ?_) | (with_reducible refine e_iT ?_) | ((with_reducible refine v_iLG ?_); refine ⟨_, (by walk_at "hl"), ?_⟩) | (with_reducible refine e_iR1 ?_) | ((with_reducible refine v_iR1 ?c1 ?c2 ?_); try (case c1 => walk_at "side"); try (case c2 => walk_at "side"))
  | (with_reducible refine e_iR2 ?_) | ((with_reducible refine v_iR2 ?c1 ?_); try (case c1 => walk_at "side"))
  | (with_reducible refine e_pr0 ?_) | (with_reducible refine e_pr ?_) | (with_reducible refine e_disp ?_) | (with_reducible refine s_asgT ?_) | (with_reducible refine e_tryA ?_) | (with_reducible refine e_callS ?_) | (with_reducible refine e_mdS ?_) | (with_reducible refine e_par ?_) | (with_reducible refine v_par ?_) | (with_reducible refine e_par3 ?_) | (with_reducible refine v_par3 ?_) | (with_reducible refine e_iK ?_) | (with_reducible refine e_dnotin ?_)
  | (with_reducible refine iteT ?_) | (with_reducible refine iteF ?_))
local macro_rules | `(tactic| walk_at "go") => `(tactic| repeat walk_at "st")
def spFree (C : Addr) : Sp := fun vs H Q _ => ∃ (x : Addr) (ks : List Nat) (ps : List (List Nat)) (free : List Nat) (k : Nat), vs = [.ref x, .str (tx free), .str (tx [k])] ∧ PlanAt C H x ks ps ∧ k ∈ ks ∧ free.length ≤ 1000 ∧ ∀ H', Same H H' → Q (.str (tx (free.filter fun o => decide (o ∈ crossOf ks ps k)))) H'
/-- the kinds in front of a way -/
def firstsOf (ks : List Nat) (ps : List (List Nat)) (way : List Nat) : List Nat := ks.filter fun s => decide (s ∈ founds (crossOf ks ps) ks way)
def spFirst (C : Addr) : Sp := fun vs H Q _ => ∃ (x : Addr) (ks : List Nat) (ps : List (List Nat)) (way : List Nat), vs = [.ref x, .str (tx way)] ∧ PlanAt C H x ks ps ∧ (∀ c ∈ way, c ∈ ks) ∧ ks.length ≤ 1000 ∧ way.length ≤ 100000 ∧ ∀ H', Same H H' → Q (.str (tx (firstsOf ks ps way))) H'
def spLast (C : Addr) : Sp := fun vs H Q _ => ∃ (x : Addr) (ks : List Nat) (ps : List (List Nat)) (way : List Nat), vs = [.ref x, .str (tx way)] ∧ PlanAt C H x ks ps ∧ (∀ c ∈ way, c ∈ ks) ∧ ks.length ≤ 1000 ∧ way.length ≤ 100000 ∧ ∀ H', Same H H' → Q (.str (tx (firstsOf ks ps way.reverse))) H'
def spNearer (C R : Addr) : Sp := fun vs H Q _ => ∃ (r x : Addr) (ks : List Nat) (ps : List (List Nat)) (name : List Nat), vs = [.ref r] ∧ RoomAt R H r x name ∧ PlanAt C H x ks ps ∧ (∀ c ∈ name, c ∈ ks) ∧ ks.length ≤ 1000 ∧ name.length ≤ 100000 ∧ ∀ H', Same H H' → Q (.str (tx (firstsOf ks ps name.reverse))) H'
theorem filt_len {p : Nat → Bool} {l : List Nat} : (l.filter p).length ≤ l.length := List.length_filter_le p l
theorem founds_len (f : Nat → List Nat) : ∀ (w free : List Nat), (founds f free w).length ≤ w.length
  | [], _ => Nat.le_refl _
  | k :: r, free => by
    have := founds_len f r (free.filter fun o => decide (o ∈ f k))
    show ((if k ∈ free then [k] else []) ++ founds f _ r).length ≤ _
    rw [List.length_append, List.length_cons]
    split <;> simp <;> omega
theorem str_emp {free : List Nat} : decide (V.str (tx free) = V.str (tx [])) = decide (free = []) := dec_tx
section
variable {P : Program} {w : World} {K : PySem.W.Frag} {mg : Str → Option Value} {base : Heap} {C R O : Addr}
abbrev ststill_free : Stmt := (top 4)
abbrev Nstill_free : List Str := ["plan", "kinds", "kind", "other"]
theorem scstill_free : FnScope Nstill_free ["plan", "kinds", "kind"] (defScope ststill_free) := ⟨rfl, rfl, rfl, by decide +kernel, rfl, by decide +kernel, by decide +kernel⟩

theorem ok_still_free (F : FnAt K mg "still_free" ststill_free) (T : TxtP K mg C) : Def P w K mg base CX0 1 "still_free" ["plan", "kinds", "kind"] (spFree C) := by
  refine F.ok scstill_free (fun _ _ _ _ _ _ us hl => match us, hl with | [_, _, _], _ => rfl) (fun vs H Q E h => ?_) (fun f cdv A outer s H vs Q E hr h => ?_)
  · obtain ⟨x, ks, ps, free, k, rfl, _⟩ := h
    rfl
  obtain ⟨x, ks, ps, free, k, rfl, h1, hk, hl, q⟩ := h
  have hu := hu_of hr
  have nd := scstill_free.nd
  refine ⟨_, (pss_one (ps_ret (pe_joinK (K := K) rfl (pe_tx [] (by decide +kernel)) (pe_lc (own := [("other", 3)]) (g := gName 3) (by rfl) nd (pi_str (pv 1)) (blkOk_by (own := [("other", 3)]) (N := Nstill_free) (sc := defScope ststill_free) (by decide +kernel)) (fun _ _ _ _ _ => (pg_name (i := 3) nd rfl (Or.inl rfl))) (fun _ _ _ _ _ => (pts_one (pt_cmpR op_inS (pv 3) (pe_dget hu (pe_flK (K := K) rfl (pv 0) rfl) (pv 2) (fun _ _ => rfl)) (by rfl)))) (fun _ _ _ _ _ => (pv 3)))))), ?_⟩
  refine s_start [some _, some _, some _, none] rfl ?_
  obtain ⟨dx, t, d, a1, a2, a3⟩ := h1.ex
  walk_at "go"
  refine v_lcS (l := free) (b := fun c => decide (c ∈ crossOf ks ps k)) (f := fun c => V.str (tx [c])) (by omega) (fun c _ H1 s1 R r => ?_) (fun c _ _ H1 s1 R r => ?_) (fun D H1 hD s1 e1 => ?_)
  · walk_at "go"
    refine v_fld (s1 _ _ a1) T.Plan.cl T.nO planF_o ?_
    walk_at "go"
    refine v_dget (dget_let (g := fun k => V.str (tx (crossOf ks ps k))) (s1 _ _ a3) hk) ?_
    walk_at "go"
    exact r H1 (Same.refl _)
  · walk_at "go"
    exact r H1 (Same.refl _)
  walk_at "go"
  rw [strs_ones] at e1
  have hl2 := filt_len (p := fun c => decide (c ∈ crossOf ks ps k)) (l := free)
  refine v_join e1 (by rw [flat_ones]; omega) ?_
  rw [flat_ones]
  exact q H1 s1
abbrev stfirst_kinds : Stmt := (top 5)
abbrev Nfirst_kinds : List Str := ["plan", "way", "found", "free", "kind"]
theorem scfirst_kinds : FnScope Nfirst_kinds ["plan", "way"] (defScope stfirst_kinds) := ⟨rfl, rfl, rfl, by decide +kernel, rfl, by decide +kernel, by decide +kernel⟩

theorem ok_first_kinds (F : FnAt K mg "first_kinds" stfirst_kinds) (T : TxtP K mg C) (D_still_free : Def P w K mg base CX0 1 "still_free" ["plan", "kinds", "kind"] (spFree C)) : Def P w K mg base CX0 2 "first_kinds" ["plan", "way"] (spFirst C) := by
  refine F.ok scfirst_kinds (fun _ _ _ _ _ _ us hl => match us, hl with | [_, _], _ => rfl) (fun vs H Q E h => ?_) (fun f cdv A outer s H vs Q E hr h => ?_)
  · obtain ⟨x, ks, ps, way, rfl, _⟩ := h
    rfl
  obtain ⟨x, ks, ps, way, rfl, h1, hw, hk, hl, q⟩ := h
  have hu := hu_of hr
  have nd := scfirst_kinds.nd
  refine ⟨_, (pss_cons (ps_set (i := 2) nd rfl (Or.inr rfl) (pe_tx [] (by decide +kernel)))
      (pss_cons (ps_set (i := 3) nd rfl (Or.inl rfl) (pe_flK (K := K) rfl (pv 0) rfl))
      (pss_cutS (ps_for PassesOwn.never rfl (pi_str (pv 1)) (pg_name (i := 4) nd rfl (Or.inl rfl))
      (pss_cons (ps_if (pt_cmpR op_eq (pv 3) (pe_tx [] (by decide +kernel)) (nomark _))
        (pss_one ps_break)
        pss_nil)
        (pss_cutS (ps_if (pt_cmpR op_inS (pv 4) (pv 3) (by rfl))
        (pss_one (ps_set (i := 2) nd rfl (Or.inr rfl) (pe_op op_addS (pv 2) (pv 4))))
        pss_nil)
        (pss_one (ps_set (i := 3) nd rfl (Or.inl rfl) (pe_cd D_still_free hr pass0 (pa_cons (pv 0) (pa_cons (pv 3) (pa_cons (pv 4) pa_nil)))))))))
      (pss_one (ps_ret (pe_joinK (K := K) rfl (pe_tx [] (by decide +kernel)) (pe_lc (own := [("kind", 4)]) (g := gName 4) (by rfl) nd (pi_str (pe_flK (K := K) rfl (pv 0) rfl)) (blkOk_by (own := [("kind", 4)]) (N := Nfirst_kinds) (sc := defScope stfirst_kinds) (by decide +kernel)) (fun _ _ _ _ _ => (pg_name (i := 4) nd rfl (Or.inl rfl))) (fun _ _ _ _ _ => (pts_one (pt_cmpR op_inS (pv 4) (pv 2) (by rfl)))) (fun _ _ _ _ _ => (pv 4))))))))), ?_⟩
  refine s_start [some _, some _, none, none, none] rfl ?_
  obtain ⟨dx, t, d, a1, a2, a3⟩ := h1.ex
  have fl := founds_len (crossOf ks ps) way ks
  walk_at "go"
  refine v_fld a1 T.Plan.cl T.nK planF_k ?_
  walk_at "go"
  refine s_cut (fun σ H' => ∃ free z, σ = [some (.ref x), some (.str (tx way)), some (.str (tx (founds (crossOf ks ps) ks way))), some (.str (tx free)), z] ∧ Same H H') ?_ ?_
  · walk_at "go"
    refine for_it (walk_tx way) (fun i σ H' => ∃ fd free z, σ = [some (.ref x), some (.str (tx way)), some (.str (tx fd)), some (.str (tx free)), z] ∧ Same H H' ∧ free.length ≤ 1000 ∧ founds (crossOf ks ps) ks way = fd ++ founds (crossOf ks ps) free (way.drop i)) ⟨[], ks, _, rfl, Same.refl _, hk, rfl⟩ (fun _ _ _ _ _ => trivial) ?_ ?_
    · rintro i v σ H2 H3 hi ⟨fd, free, z, rfl, s2, lf, e2⟩ ⟨rfl, rfl⟩
      have dr : way.drop i = way.getD i 0 :: way.drop (i + 1) := by
        rw [List.drop_eq_getElem_cons hi, List.getD_eq_getElem?_getD, List.getElem?_eq_getElem hi]
        rfl
      have hc := hw _ (getD_mem hi)
      rw [dr] at e2
      generalize way.getD i 0 = c at *
      have l2 := congrArg List.length e2
      rw [List.length_append] at l2
      walk_at "go"
      rw [dec_tx]
      refine if_dec (fun c1 => ?_) (fun c1 => ?_)
      · refine s_brk ?_
        rw [c1, founds_nil, List.append_nil] at e2
        rw [e2]
        exact ⟨_, _, rfl, s2⟩
      walk_at "go"
      have e3 : founds (crossOf ks ps) free (c :: way.drop (i + 1)) = (if c ∈ free then [c] else []) ++ founds (crossOf ks ps) (free.filter fun o => decide (o ∈ crossOf ks ps c)) (way.drop (i + 1)) := rfl
      rw [e3, ← List.append_assoc] at e2
      have lf2 := filt_len (p := fun o => decide (o ∈ crossOf ks ps c)) (l := free)
      refine s_cut (fun σ H' => σ = [some (.ref x), some (.str (tx way)), some (.str (tx (fd ++ if c ∈ free then [c] else []))), some (.str (tx free)), some (.str (tx [c]))] ∧ H' = H3) ?_ ?_
      · walk_at "go"
        refine if_dec (fun c2 => ?_) (fun c2 => ?_)
        · have l3 : fd.length + [c].length ≤ 1000000 := by
            rw [List.length_singleton]
            omega
          walk_at "go"
          rw [if_pos c2]
          exact ⟨rfl, rfl⟩
        · walk_at "go"
          rw [if_neg c2, List.append_nil]
          exact ⟨rfl, rfl⟩
      rintro σ H4 ⟨rfl, rfl⟩
      walk_at "go"
      refine ⟨x, ks, ps, free, c, rfl, h1.same s2, hc, lf, fun H5 s5 => ?_⟩
      exact ⟨_, _, _, rfl, s2.trans s5, by omega, e2⟩
    · rintro σ H2 ⟨fd, free, z, rfl, s2, lf, e2⟩
      rw [List.drop_length] at e2
      have e2 : founds (crossOf ks ps) ks way = fd := by
        rw [e2]
        exact List.append_nil _
      rw [e2]
      exact ⟨_, _, rfl, s2⟩
  rintro σ H2 ⟨free, z, rfl, s2⟩
  walk_at "go"
  refine v_fld (s2 _ _ a1) T.Plan.cl T.nK planF_k ?_
  walk_at "go"
  refine v_lcS (l := ks) (b := fun c => decide (c ∈ founds (crossOf ks ps) ks way)) (f := fun c => V.str (tx [c])) (by omega) (fun c _ H1 s1 R r => ?_) (fun c _ _ H1 s1 R r => ?_) (fun D H3 hD s3 e3 => ?_)
  · walk_at "go"
    exact r H1 (Same.refl _)
  · walk_at "go"
    exact r H1 (Same.refl _)
  walk_at "go"
  rw [strs_ones] at e3
  have hl2 := filt_len (p := fun c => decide (c ∈ founds (crossOf ks ps) ks way)) (l := ks)
  refine v_join e3 (by rw [flat_ones]; omega) ?_
  rw [flat_ones]
  exact q H3 (s2.trans s3)
abbrev stlast_kinds : Stmt := (top 6)
abbrev Nlast_kinds : List Str := ["plan", "way"]
theorem sclast_kinds : FnScope Nlast_kinds ["plan", "way"] (defScope stlast_kinds) := ⟨rfl, rfl, rfl, by decide +kernel, rfl, by decide +kernel, by decide +kernel⟩

theorem ok_last_kinds (F : FnAt K mg "last_kinds" stlast_kinds) (D_first_kinds : Def P w K mg base CX0 2 "first_kinds" ["plan", "way"] (spFirst C)) : Def P w K mg base CX0 3 "last_kinds" ["plan", "way"] (spLast C) := by
  refine F.ok sclast_kinds (fun _ _ _ _ _ _ us hl => match us, hl with | [_, _], _ => rfl) (fun vs H Q E h => ?_) (fun f cdv A outer s H vs Q E hr h => ?_)
  · obtain ⟨x, ks, ps, way, rfl, _⟩ := h
    rfl
  obtain ⟨x, ks, ps, way, rfl, h1, hw, hk, hl, q⟩ := h
  have hu := hu_of hr
  have nd := sclast_kinds.nd
  refine ⟨_, (pss_one (ps_ret (pe_cd D_first_kinds hr pass0 (pa_cons (pv 0) (pa_cons (pe_revS (pv 1)) pa_nil))))), ?_⟩
  refine s_start [some _, some _] rfl ?_
  walk_at "go"
  exact ⟨x, ks, ps, _, rfl, h1, fun c hc => hw c (List.mem_reverse.mp hc), hk, by rw [List.length_reverse]; exact hl, q⟩
abbrev stRoom_nearer : Stmt := (inClass (top 26) 7)
abbrev NRoom_nearer : List Str := ["self"]
theorem scRoom_nearer : FnScope NRoom_nearer ["self"] (defScope stRoom_nearer) := ⟨rfl, rfl, rfl, by decide +kernel, rfl, by decide +kernel, by decide +kernel⟩

theorem ok_Room_nearer (F : MAt K R "nearer" "Room.nearer" stRoom_nearer) (T : TxtR K mg C R O) (D_last_kinds : Def P w K mg base CX0 3 "last_kinds" ["plan", "way"] (spLast C)) : MDef P w K mg base CX0 4 R "nearer" ["self"] (spNearer C R) := by
  refine F.ok scRoom_nearer (fun _ _ _ _ _ _ us hl => match us, hl with | [_], _ => rfl) (fun vs H Q E h => ?_) (fun f cdv A outer s H vs Q E hr h => ?_)
  · obtain ⟨r, x, ks, ps, name, rfl, _⟩ := h
    rfl
  obtain ⟨r, x, ks, ps, name, rfl, h1, h2, hw, hk, hl, q⟩ := h
  have hu := hu_of hr
  have nd := scRoom_nearer.nd
  refine ⟨_, (pss_one (ps_ret (pe_cd D_last_kinds hr pass0 (pa_cons (pe_flK (K := K) rfl (pv 0) rfl) (pa_cons (pe_flK (K := K) rfl (pv 0) rfl) pa_nil))))), ?_⟩
  refine s_start [some _] rfl ?_
  obtain ⟨dr, a1⟩ := h1.ex
  walk_at "go"
  refine v_fld a1 T.Room.cl T.nPl roomF_p ?_
  walk_at "go"
  refine v_fld a1 T.Room.cl T.nNm roomF_n ?_
  walk_at "go"
  exact ⟨x, ks, ps, _, rfl, h2, hw, hk, hl, q⟩
end
/-! ### of a drawn floor -/
section
variable {K : PySem.W.Frag} {H : Hp} {Q : VK} {C R O r r' x : Addr} {ls : List Nat} {fn : Nat → List Nat} {a b : List Nat} {E : XK}
theorem way_tab (fl : Fl ls fn) (ha : ∀ c ∈ a, c ∈ ls) (hb : ∀ c ∈ b, c ∈ ls) : wayOf (ascOf ls) (tabPairs ls fn) (joinC fn [] a) (joinC fn [] b) = wayC fn a b := by
  have m1 : ∀ c ∈ (joinC fn [] a).reverse, c ∈ ls := fun c hc => memN ha c (List.mem_reverse.mp hc)
  unfold wayOf backOf
  rw [joinOf_tab fl.tab (name := []) (by simp) m1, joinOf_tab fl.tab (memN m1) (memN hb), ← joinC_app]
  exact way_name fl.ok a b
theorem sp_wayto (fl : Fl ls fn) (h1 : RoomAt R H r x (joinC fn [] a)) (h2 : RoomAt R H r' x (joinC fn [] b)) (pl : PlanAt C H x (ascOf ls) (tabPairs ls fn)) (ha : ∀ c ∈ a, c ∈ ls) (hb : ∀ c ∈ b, c ∈ ls) (la : a.length ≤ 2000) (lb : b.length ≤ 2000) (q : Q (.str (tx (wayC fn a b))) H) : calmOf (spWayTo C R O) [.ref r, .ref r'] H Q E := by
  have n1 : (joinC fn [] a).length ≤ a.length := name_len fn a
  have n2 : (joinC fn [] b).length ≤ b.length := name_len fn b
  refine ⟨r, x, _, r', x, _, true, _, _, rfl, rooms2 h1 h2 pl (pairsOf_small _) (by omega) (by omega), pl, inAsc fl.tab (memN ha), fun _ => inAsc fl.tab (memN hb), fun _ => ?_, fun z => (nomatch z)⟩
  rw [way_tab fl ha hb]
  exact q
theorem sp_dist (fl : Fl ls fn) (h1 : RoomAt R H r x (joinC fn [] a)) (h2 : RoomAt R H r' x (joinC fn [] b)) (pl : PlanAt C H x (ascOf ls) (tabPairs ls fn)) (ha : ∀ c ∈ a, c ∈ ls) (hb : ∀ c ∈ b, c ∈ ls) (la : a.length ≤ 2000) (lb : b.length ≤ 2000) (q : Q (.int (wayC fn a b).length) H) : calmOf (spDistance C R O) [.ref r, .ref r'] H Q E := by
  have n1 : (joinC fn [] a).length ≤ a.length := name_len fn a
  have n2 : (joinC fn [] b).length ≤ b.length := name_len fn b
  refine ⟨r, x, _, r', x, _, true, _, _, rfl, rooms2 h1 h2 pl (pairsOf_small _) (by omega) (by omega), pl, inAsc fl.tab (memN ha), fun _ => inAsc fl.tab (memN hb), fun _ => ?_, fun z => (nomatch z)⟩
  rw [way_tab fl ha hb]
  exact q
theorem asc_self (fl : Fl ls fn) : ascOf ls = ls := by
  have h1 : (ascOf ls).Perm ls := by
    refine (List.perm_ext_iff_of_nodup (ascOf_nodup ls) fl.tab.nd).mpr fun c => ?_
    rw [ascOf_mem]
    exact ⟨fun z => z.2, fun z => ⟨fl.tab.lt c z, z⟩⟩
  have s1 : (ascOf ls).Pairwise (· < ·) := List.Pairwise.filter _ (by decide +kernel : LET.Pairwise (· < ·))
  exact h1.eq_of_pairwise (fun a b _ _ h1 h2 => by omega) s1 fl.asc
theorem founds_congr {f g : Nat → List Nat} : ∀ {w free : List Nat}, (∀ k ∈ w, ∀ c ∈ free, c ∈ f k ↔ c ∈ g k) → founds f free w = founds g free w
  | [], free, _ => rfl
  | k :: r, free, h => by
    have e : (free.filter fun o => decide (o ∈ f k)) = free.filter fun o => decide (o ∈ g k) := List.filter_congr fun c hc => decide_eq_decide.mpr (h k (List.mem_cons_self ..) c hc)
    show (if k ∈ free then [k] else []) ++ founds f _ r = (if k ∈ free then [k] else []) ++ founds g _ r
    rw [e, founds_congr fun y hy c hc => h y (List.mem_cons_of_mem _ hy) c (List.mem_filter.mp hc).1]
/-- nearer, by the marks -/
theorem firsts_tab (fl : Fl ls fn) (ha : ∀ c ∈ a, c ∈ ls) : firstsOf (ascOf ls) (tabPairs ls fn) (joinC fn [] a).reverse = ls.filter fun c => decide (desc fn c (joinC fn [] a).reverse) := by
  unfold firstsOf
  rw [asc_self fl]
  refine List.filter_congr fun c hc => decide_eq_decide.mpr ?_
  rw [founds_congr (g := fn) fun k hk c hc => ?_, founds_mem fl.ok]
  · exact ⟨fun z => z.2, fun z => ⟨hc, z⟩⟩
  · have := cross_tab fl.tab (memN ha k (List.mem_reverse.mp hk)) hc
    rw [asc_self fl] at this
    exact this
theorem sp_nearer (fl : Fl ls fn) (h1 : RoomAt R H r x (joinC fn [] a)) (pl : PlanAt C H x (ascOf ls) (tabPairs ls fn)) (ha : ∀ c ∈ a, c ∈ ls) (la : a.length ≤ 2000) (q : ∀ H', Same H H' → Q (.str (tx (ls.filter fun c => decide (desc fn c (joinC fn [] a).reverse)))) H') : spNearer C R [.ref r] H Q E := by
  have n1 : (joinC fn [] a).length ≤ a.length := name_len fn a
  have tl := fl.tab.len
  refine ⟨r, x, _, _, _, rfl, h1, pl, inAsc fl.tab (memN ha), by rw [asc_self fl]; omega, by omega, fun H' s' => ?_⟩
  rw [firsts_tab fl ha]
  exact q H' s'
end
end Cw
set_option Elab.async false
set_option linter.all false
set_option maxRecDepth 100000
set_option maxHeartbeats 4000000
/-! parts: groups of kinds that every other kind crosses; a name, part by part -/
namespace Cw
section
variable {f : Nat → List Nat} {ls : List Nat}
theorem okAt_of {s : Nat} : ∀ {e : List Nat}, (∀ q t r, e = q ++ t :: r → (∀ y ∈ q, y ∈ f s) → t ≠ s ∧ (t ∈ f s → t < s)) → okAt f s e
  | [], _ => trivial
  | t :: r, h => by
    have h0 := h [] t r rfl (fun _ z => nomatch z)
    refine ⟨h0.1, fun z => ⟨h0.2 z, okAt_of fun q u r' e hq => h (t :: q) u r' (by rw [e]; rfl) fun y hy => ?_⟩⟩
    rcases List.mem_cons.mp hy with rfl | hy
    · exact z
    · exact hq y hy
/-- the other way about of NF.two -/
theorem NF.of_two {w : List Nat} (h : ∀ p q r t s, w = p ++ t :: (q ++ s :: r) → (∀ y ∈ q, y ∈ f s) → t ≠ s ∧ (t ∈ f s → t < s)) : NF f w := by
  have key : ∀ v : List Nat, (∀ a s b, v = a ++ s :: b → okAt f s b) → NFr f v := by
    intro v
    induction v with
    | nil => intro _; trivial
    | cons s r ih => intro g; exact ⟨g [] s r rfl, ih fun a s' b e => g (s :: a) s' b (by rw [e]; rfl)⟩
  refine key _ fun a s b e => okAt_of fun q t r e2 hq => ?_
  refine h r.reverse q.reverse a.reverse t s ?_ fun y hy => hq y (List.mem_reverse.mp hy)
  have e3 := congrArg List.reverse e
  rw [List.reverse_reverse, e2] at e3
  rw [e3]
  simp
theorem thr_at {d e : Nat} {u v : Nat → Int} (ok : CrOk f) (h1 : thr f d u e = thr f d v e) (h2 : thr f d u d = thr f d v d) : u e = v e := by
  rw [thr_self, thr_self] at h2
  by_cases c : e = d
  · rw [c]
    omega
  · by_cases c2 : e ∈ f d
    · rw [thr_cr ok c2, thr_cr ok c2] at h1
      exact h1
    · rw [thr_not c c2, thr_not c c2] at h1
      omega
/-- NF.uniq, asking for the letters alone -/
theorem NF.uniqIn (ok : CrOk f) : ∀ {w v : List Nat}, NF f w → NF f v → (∀ y ∈ w, y ∈ ls) → (∀ y ∈ v, y ∈ ls) → (∀ x ∈ ls, ∀ s ∈ ls, act f w (unit x) s = act f v (unit x) s) → w = v
  | [], [], _, _, _, _, _ => rfl
  | [], c :: v, h, h', hw, hv, he => by
    have hc := hv c (List.mem_cons_self ..)
    obtain ⟨x, hx, z⟩ := (mark_neg ok h'.red hv hc).mpr (.inl rfl)
    exact ((mark_neg ok h.red hw hc).mp ⟨x, hx, by unfold mark; rw [he x hx _ hc]; exact z⟩).elim
  | c :: w, [], h, h', hw, hv, he => by
    have hc := hw c (List.mem_cons_self ..)
    obtain ⟨x, hx, z⟩ := (mark_neg ok h.red hw hc).mpr (.inl rfl)
    exact ((mark_neg ok h'.red hv hc).mp ⟨x, hx, by unfold mark; rw [← he x hx _ hc]; exact z⟩).elim
  | c :: w, b :: v, h, h', hw, hv, he => by
    have hc := hw c (List.mem_cons_self ..)
    have hb := hv b (List.mem_cons_self ..)
    have h1 : desc f c (b :: v) := by
      obtain ⟨x, hx, z⟩ := (mark_neg ok h.red hw hc).mpr (.inl rfl)
      exact (mark_neg ok h'.red hv hc).mp ⟨x, hx, by unfold mark; rw [← he x hx _ hc]; exact z⟩
    have h2 : desc f b (c :: w) := by
      obtain ⟨x, hx, z⟩ := (mark_neg ok h'.red hv hb).mpr (.inl rfl)
      exact (mark_neg ok h.red hw hb).mp ⟨x, hx, by unfold mark; rw [he x hx _ hb]; exact z⟩
    have e1 := h.least h2
    have e2 := h'.least h1
    have e : c = b := by omega
    subst e
    congr 1
    exact NF.uniqIn ok h.tail h'.tail (fun y hy => hw y (List.mem_cons_of_mem _ hy)) (fun y hy => hv y (List.mem_cons_of_mem _ hy)) fun x hx s hs => thr_at ok (he x hx s hs) (he x hx c hc)
/-- a group of kinds: each kind beside it crosses each of it -/
structure Grp (f : Nat → List Nat) (ls G : List Nat) : Prop where
  sub : ∀ c ∈ G, c ∈ ls
  out : ∀ c ∈ ls, ¬ c ∈ G → ∀ d ∈ G, c ∈ f d
def cutG (G w : List Nat) : List Nat := w.filter fun c => decide (c ∈ G)
theorem cutG_mem {G w : List Nat} {c : Nat} : c ∈ cutG G w ↔ c ∈ w ∧ c ∈ G := by
  unfold cutG
  rw [List.mem_filter, decide_eq_true_iff]
theorem cutG_app (G v w : List Nat) : cutG G (v ++ w) = cutG G v ++ cutG G w := List.filter_append ..
theorem cutG_rev (G w : List Nat) : cutG G w.reverse = (cutG G w).reverse := List.filter_reverse ..
theorem act_part (ok : CrOk f) {G : List Nat} (g : Grp f ls G) : ∀ {w : List Nat} {h h' : Nat → Int}, (∀ c ∈ w, c ∈ ls) → (∀ e ∈ G, h e = h' e) → ∀ e ∈ G, act f w h e = act f (cutG G w) h' e
  | [], h, h', _, he, e, hg => he e hg
  | d :: w, h, h', hw, he, e, hg => by
    have hd := hw d (List.mem_cons_self ..)
    have ih := act_part ok g (w := w) (fun c hc => hw c (List.mem_cons_of_mem _ hc)) he
    show thr f d (act f w h) e = _
    by_cases c : d ∈ G
    · have e1 : cutG G (d :: w) = d :: cutG G w := List.filter_cons_of_pos (by simpa using c)
      rw [e1]
      show _ = thr f d (act f (cutG G w) h') e
      unfold thr
      rw [ih d c, ih e hg]
    · have e1 : cutG G (d :: w) = cutG G w := List.filter_cons_of_neg (by simpa using c)
      rw [e1, ← ih e hg]
      exact thr_cr ok (ok.sym _ _ (g.out d hd c e hg))
theorem NF_part {G w : List Nat} (g : Grp f ls G) (hw : ∀ c ∈ w, c ∈ ls) (h : NF f w) : NF f (cutG G w) := by
  refine NF.of_two fun p q r t s e hq => ?_
  unfold cutG at e
  obtain ⟨p1, l1, rfl, e1, e2⟩ := List.filter_eq_append_iff.mp e
  obtain ⟨a1, l2, rfl, ha, ht, e3⟩ := List.filter_eq_cons_iff.mp e2
  obtain ⟨q1, l3, rfl, e4, e5⟩ := List.filter_eq_append_iff.mp e3
  obtain ⟨b1, l4, rfl, hb, hs, e6⟩ := List.filter_eq_cons_iff.mp e5
  have hs : s ∈ G := of_decide_eq_true hs
  refine h.two (p := p1 ++ a1) (q := q1 ++ b1) (r := l4) (by simp) fun y hy => ?_
  by_cases c : y ∈ G
  · rcases List.mem_append.mp hy with z | z
    · exact hq y (e4 ▸ List.mem_filter.mpr ⟨z, decide_eq_true c⟩)
    · exact absurd (decide_eq_true c) (hb y z)
  · refine g.out y (hw y ?_) c s hs
    simp only [List.mem_append, List.mem_cons] at hy ⊢
    rcases hy with z | z
    · exact .inr (.inr (.inr (.inl z)))
    · exact .inr (.inr (.inr (.inr (.inl z))))
/-- the name, part by part -/
theorem name_part (ok : CrOk f) {G w : List Nat} (g : Grp f ls G) (hw : ∀ c ∈ w, c ∈ ls) : cutG G (nameOf f w) = nameOf f (cutG G w) := by
  have hn : ∀ c ∈ nameOf f w, c ∈ ls := fun c hc => hw c (name_mem hc)
  refine NF.uniqIn (ls := G) ok (NF_part g hn (name_NF ok w)) (name_NF ok _) (fun y hy => (cutG_mem.mp hy).2) (fun y hy => (cutG_mem.mp (name_mem hy)).2) fun x hx s hs => ?_
  rw [← act_part ok g hn (fun _ _ => rfl) s hs, name_act ok, name_act ok, ← act_part ok g hw (fun _ _ => rfl) s hs]
/-- the table of a part alone -/
def partF (G : List Nat) (f : Nat → List Nat) (c : Nat) : List Nat := if c ∈ G then cutG G (f c) else []
theorem partF_in {G : List Nat} {c : Nat} (h : c ∈ G) : partF G f c = cutG G (f c) := if_pos h
theorem partF_ok (ok : CrOk f) (G : List Nat) : CrOk (partF G f) := by
  have key : ∀ a b, a ∈ partF G f b → b ∈ G ∧ a ∈ G ∧ a ∈ f b := fun a b h => by
    unfold partF at h
    split at h
    · rename_i hb
      exact ⟨hb, (cutG_mem.mp h).2, (cutG_mem.mp h).1⟩
    · cases h
  refine ⟨fun a b h => ?_, fun a h => ok.irr a (key a a h).2.2⟩
  obtain ⟨hb, ha, h⟩ := key a b h
  rw [partF_in ha]
  exact cutG_mem.mpr ⟨ok.sym _ _ h, hb⟩
theorem name_partF {G w : List Nat} (hw : ∀ c ∈ w, c ∈ G) : nameOf (partF G f) w = nameOf f w := by
  refine joinC_congr (ls := G) (fun k hk c hc => ?_) (fun _ z => nomatch z) hw
  rw [partF_in hk, cutG_mem]
  exact ⟨fun z => z.1, fun z => ⟨z, hc⟩⟩
/-! ### the parts of a floor -/
inductive Conn (f : Nat → List Nat) (ls : List Nat) (c : Nat) : Nat → Prop
  | base : Conn f ls c c
  | step {a b : Nat} : Conn f ls c a → b ∈ ls → ¬ b ∈ f a → Conn f ls c b
theorem Conn.in {c x : Nat} (h : Conn f ls c x) (hc : c ∈ ls) : x ∈ ls := by
  cases h with
  | base => exact hc
  | step _ h _ => exact h
theorem Conn.trans {a b c : Nat} (h : Conn f ls a b) (h2 : Conn f ls b c) : Conn f ls a c := by
  induction h2 with
  | base => exact h
  | step _ h1 h2 ih => exact .step ih h1 h2
theorem Conn.symm (ok : CrOk f) {a b : Nat} (ha : a ∈ ls) (h : Conn f ls a b) : Conn f ls b a := by
  induction h with
  | base => exact .base
  | @step x y h1 h2 h3 ih => exact (Conn.step .base (h1.in ha) (fun z => h3 (ok.sym _ _ z))).trans ih
/-- the groups of what is left, in order -/
inductive PartsOf (f : Nat → List Nat) (ls : List Nat) : List Nat → List (List Nat) → Prop
  | nil : PartsOf f ls [] []
  | cons {c : Nat} {r G : List Nat} {Gs : List (List Nat)} : cutG G ls = G → (∀ x ∈ ls, x ∈ G ↔ Conn f ls c x) → PartsOf f ls ((c :: r).filter fun x => !decide (x ∈ G)) Gs → PartsOf f ls (c :: r) (G :: Gs)
theorem parts_exist : ∀ (n : Nat) (left : List Nat), left.length ≤ n → (∀ c ∈ left, c ∈ ls) → ∃ Gs, PartsOf f ls left Gs
  | _, [], _, _ => ⟨[], .nil⟩
  | 0, _ :: _, h, _ => by simp at h
  | n + 1, c :: r, h, hl => by
    open Classical in
    let G := ls.filter fun x => decide (Conn f ls c x)
    have hG : ∀ x ∈ ls, x ∈ G ↔ Conn f ls c x := fun x hx => by
      show x ∈ List.filter _ _ ↔ _
      rw [List.mem_filter, decide_eq_true_iff]
      exact ⟨fun z => z.2, fun z => ⟨hx, z⟩⟩
    have e : cutG G ls = G := by
      refine List.filter_congr fun x hx => ?_
      exact decide_eq_decide.mpr (hG x hx)
    have hc := hl c (List.mem_cons_self ..)
    have l : ((c :: r).filter fun x => !decide (x ∈ G)).length ≤ n := by
      rw [List.filter_cons_of_neg (by simpa using (hG c hc).mpr .base)]
      exact Nat.le_trans (List.length_filter_le _ _) (by simpa using h)
    obtain ⟨Gs, p⟩ := parts_exist n _ l fun x hx => hl x (List.mem_filter.mp hx).1
    exact ⟨_, .cons e hG p⟩
theorem PartsOf.head {c : Nat} {r G : List Nat} {Gs : List (List Nat)} (h : PartsOf f ls (c :: r) (G :: Gs)) : cutG G ls = G ∧ (∀ x ∈ ls, x ∈ G ↔ Conn f ls c x) ∧ PartsOf f ls ((c :: r).filter fun x => !decide (x ∈ G)) Gs := by
  cases h with
  | cons h1 h2 h3 => exact ⟨h1, h2, h3⟩
structure Parted (f : Nat → List Nat) (ls left : List Nat) (Gs : List (List Nat)) : Prop where
  all : ∀ x ∈ left, ∃ G ∈ Gs, x ∈ G
  sub : ∀ G ∈ Gs, ∀ x ∈ G, x ∈ left
  grp : ∀ G ∈ Gs, Grp f ls G
  cut : ∀ G ∈ Gs, cutG G ls = G
  dis : Gs.Pairwise fun G G' => ∀ x, x ∈ G → ¬ x ∈ G'
  ne : ∀ G ∈ Gs, G ≠ []
theorem parted (ok : CrOk f) {left : List Nat} {Gs : List (List Nat)} (h : PartsOf f ls left Gs) : (∀ c ∈ left, c ∈ ls) → (∀ x ∈ left, ∀ y, Conn f ls x y → y ∈ left) → Parted f ls left Gs := by
  induction h with
  | nil => exact fun _ _ => ⟨fun _ z => (nomatch z), fun _ z => (nomatch z), fun _ z => (nomatch z), fun _ z => (nomatch z), .nil, fun _ z => (nomatch z)⟩
  | @cons c r G Gs h1 h2 h3 ih =>
    intro hl hc
    have hcl := hl c (List.mem_cons_self ..)
    have memG : ∀ x, x ∈ G → x ∈ ls := fun x hx => (cutG_mem.mp (h1.symm ▸ hx : x ∈ cutG G ls)).1
    have fm : ∀ x, (x ∈ (c :: r).filter fun x => !decide (x ∈ G)) ↔ x ∈ c :: r ∧ ¬ x ∈ G := fun x => by
      rw [List.mem_filter]
      simp
    have p := ih (fun x hx => hl x ((fm x).mp hx).1) (fun x hx y hy => by
      obtain ⟨m, n⟩ := (fm x).mp hx
      refine (fm y).mpr ⟨hc x m y hy, fun z => n ?_⟩
      have hxl := hl x m
      exact (h2 x hxl).mpr (((h2 y (memG y z)).mp z).trans (hy.symm ok hxl)))
    refine ⟨fun x hx => ?_, fun G' hG x hx => ?_, fun G' hG => ?_, fun G' hG => ?_, ?_, fun G' hG => ?_⟩
    · by_cases z : x ∈ G
      · exact ⟨G, List.mem_cons_self .., z⟩
      · obtain ⟨G', m, n⟩ := p.all x ((fm x).mpr ⟨hx, z⟩)
        exact ⟨G', List.mem_cons_of_mem _ m, n⟩
    · rcases List.mem_cons.mp hG with rfl | m
      · exact hc c (List.mem_cons_self ..) x ((h2 x (memG x hx)).mp hx)
      · exact ((fm x).mp (p.sub G' m x hx)).1
    · rcases List.mem_cons.mp hG with rfl | m
      · refine ⟨memG, fun x hx n d hd => ?_⟩
        refine Classical.byContradiction fun z => n ?_
        exact (h2 x hx).mpr (.step ((h2 d (memG d hd)).mp hd) hx z)
      · exact p.grp G' m
    · rcases List.mem_cons.mp hG with rfl | m
      · exact h1
      · exact p.cut G' m
    · exact List.pairwise_cons.mpr ⟨fun G' m x hx hx' => ((fm x).mp (p.sub G' m x hx')).2 hx, p.dis⟩
    · rcases List.mem_cons.mp hG with rfl | m
      · intro z
        have := (h2 c hcl).mpr .base
        rw [z] at this
        cases this
      · exact p.ne G' m
theorem PartsOf.parted (ok : CrOk f) {Gs : List (List Nat)} (h : PartsOf f ls ls Gs) : Parted f ls ls Gs := Cw.parted ok h (fun _ z => z) (fun x hx y hy => hy.in hx)
/-! ### what is put together of its parts -/
theorem cut_cat {N : List Nat} : ∀ {Gs : List (List Nat)}, (Gs.Pairwise fun G G' => ∀ x, x ∈ G → ¬ x ∈ G') → ∀ G ∈ Gs, cutG G (Gs.flatMap fun G' => cutG G' N) = cutG G N
  | A :: Gs, h, G, hG => by
    have key : ∀ G' : List Nat, (∀ x, x ∈ G → ¬ x ∈ G') → cutG G (cutG G' N) = [] := fun G' n => List.filter_eq_nil_iff.mpr fun x hx z => n x (of_decide_eq_true z) (cutG_mem.mp hx).2
    obtain ⟨h1, h2⟩ := List.pairwise_cons.mp h
    rw [List.flatMap_cons, cutG_app]
    rcases List.mem_cons.mp hG with rfl | m
    · have e1 : cutG G (cutG G N) = cutG G N := List.filter_eq_self.mpr fun x hx => decide_eq_true (cutG_mem.mp hx).2
      have e2 : cutG G (Gs.flatMap fun G' => cutG G' N) = [] := List.filter_eq_nil_iff.mpr fun x hx z => by
        obtain ⟨G', m, hx⟩ := List.mem_flatMap.mp hx
        exact h1 G' m x (of_decide_eq_true z) (cutG_mem.mp hx).2
      rw [e1, e2, List.append_nil]
    · rw [key A fun x hx z => h1 G m x z hx, List.nil_append]
      exact cut_cat h2 G m
theorem name_cat_parts (ok : CrOk f) {N : List Nat} {Gs : List (List Nat)} (dis : Gs.Pairwise fun G G' => ∀ x, x ∈ G → ¬ x ∈ G') (grp : ∀ G ∈ Gs, Grp f ls G) (all : ∀ x ∈ ls, ∃ G ∈ Gs, x ∈ G) (hN : NF f N) (mN : ∀ c ∈ N, c ∈ ls) : nameOf f (Gs.flatMap fun G => cutG G N) = N := by
  have mC : ∀ c ∈ Gs.flatMap fun G => cutG G N, c ∈ ls := fun c hc => by
    obtain ⟨G, _, h⟩ := List.mem_flatMap.mp hc
    exact mN c (cutG_mem.mp h).1
  refine NF.uniqIn (ls := ls) ok (name_NF ok _) hN (fun y hy => mC y (name_mem hy)) mN fun x hx s hs => ?_
  obtain ⟨G, hG, hsG⟩ := all s hs
  rw [name_act ok, act_part ok (grp G hG) mC (fun _ _ => rfl) s hsG, cut_cat dis G hG, ← act_part ok (grp G hG) mN (fun _ _ => rfl) s hsG]
theorem len_parts {Gs : List (List Nat)} (dis : Gs.Pairwise fun G G' => ∀ x, x ∈ G → ¬ x ∈ G') : ∀ {N : List Nat}, (∀ c ∈ N, ∃ G ∈ Gs, c ∈ G) → (Gs.map fun G => (cutG G N).length).sum = N.length
  | [], _ => by
    induction Gs with
    | nil => rfl
    | cons G Gs ih =>
      rw [List.map_cons, List.sum_cons, ih (List.pairwise_cons.mp dis).2 (fun _ z => nomatch z)]
      rfl
  | c :: N, h => by
    have ih := len_parts dis (N := N) fun d hd => h d (List.mem_cons_of_mem _ hd)
    have key : ∀ {Gs : List (List Nat)}, (Gs.Pairwise fun G G' => ∀ x, x ∈ G → ¬ x ∈ G') → (∃ G ∈ Gs, c ∈ G) → (Gs.map fun G => (cutG G (c :: N)).length).sum = (Gs.map fun G => (cutG G N).length).sum + 1 := by
      intro Gs
      induction Gs with
      | nil => rintro _ ⟨_, z, _⟩; cases z
      | cons A Gs ih =>
        intro dis ⟨G, hG, hc⟩
        obtain ⟨h1, h2⟩ := List.pairwise_cons.mp dis
        rw [List.map_cons, List.sum_cons, List.map_cons, List.sum_cons]
        by_cases z : c ∈ A
        · have e1 : cutG A (c :: N) = c :: cutG A N := List.filter_cons_of_pos (by simpa using z)
          have e2 : (Gs.map fun G => (cutG G (c :: N)).length) = Gs.map fun G => (cutG G N).length := List.map_congr_left fun G hG => by
            rw [show cutG G (c :: N) = cutG G N from List.filter_cons_of_neg (by simpa using h1 G hG c z)]
          rw [e1, e2, List.length_cons]
          omega
        · rw [show cutG A (c :: N) = cutG A N from List.filter_cons_of_neg (by simpa using z)]
          have hG : G ∈ Gs := (List.mem_cons.mp hG).resolve_left fun e => z (e ▸ hc)
          have := ih h2 ⟨G, hG, hc⟩
          omega
    rw [key dis (h c (List.mem_cons_self ..)), ih, List.length_cons]
theorem sum_ge {F : List Nat → Nat} : ∀ {Gs : List (List Nat)}, (∀ G ∈ Gs, 1 ≤ F G) → Gs.length ≤ (Gs.map F).sum
  | [], _ => Nat.le_refl _
  | G :: Gs, h => by
    have h1 := h G (List.mem_cons_self ..)
    have h2 := sum_ge (F := F) (Gs := Gs) fun A hA => h A (List.mem_cons_of_mem _ hA)
    rw [List.map_cons, List.sum_cons, List.length_cons]
    omega
theorem PartsOf.len (ok : CrOk f) {Gs : List (List Nat)} (h : PartsOf f ls ls Gs) : Gs.length ≤ ls.length := by
  have p := h.parted ok
  have e := len_parts p.dis (N := ls) p.all
  rw [← e]
  refine sum_ge fun G hG => ?_
  rw [p.cut G hG]
  have := p.ne G hG
  cases G with
  | nil => exact absurd rfl this
  | cons _ _ => simp
/-! ### how the groups are found -/
/-- the program's way: all kinds that do not cross one of the group -/
def loose (f : Nat → List Nat) (ls g : List Nat) : List Nat := ls.filter fun k => g.any fun o => !decide (k ∈ f o)
theorem loose_mem {g : List Nat} {k : Nat} : k ∈ loose f ls g ↔ k ∈ ls ∧ ∃ o ∈ g, ¬ k ∈ f o := by
  unfold loose
  rw [List.mem_filter, List.any_eq_true]
  simp
theorem loose_sub (ok : CrOk f) {g : List Nat} (hg : ∀ x ∈ g, x ∈ ls) : ∀ x ∈ g, x ∈ loose f ls g := fun x hx => loose_mem.mpr ⟨hg x hx, x, hx, ok.irr x⟩
theorem loose_conn {c : Nat} {g : List Nat} (h : ∀ x ∈ g, Conn f ls c x) : ∀ x ∈ loose f ls g, Conn f ls c x := fun x hx => by
  obtain ⟨h1, o, h2, h3⟩ := loose_mem.mp hx
  exact .step (h o h2) h1 h3
theorem loose_cut (g : List Nat) : cutG (loose f ls g) ls = loose f ls g := List.filter_congr fun x hx => by
  rw [show decide (x ∈ loose f ls g) = decide (∃ o ∈ g, ¬ x ∈ f o) from decide_eq_decide.mpr (loose_mem.trans ⟨fun z => z.2, fun z => ⟨hx, z⟩⟩)]
  rw [Bool.eq_iff_iff, decide_eq_true_iff, List.any_eq_true]
  simp
theorem closed_all {c : Nat} {g : List Nat} (hc : c ∈ g) (h : ∀ x ∈ ls, (∃ o ∈ g, ¬ x ∈ f o) → x ∈ g) : ∀ x, Conn f ls c x → x ∈ g := fun x hx => by
  induction hx with
  | base => exact hc
  | step _ h1 h2 ih => exact h _ h1 ⟨_, ih, h2⟩
end
end Cw
set_option Elab.async false
set_option linter.all false
set_option maxRecDepth 100000
set_option maxHeartbeats 4000000
/-! the parts of a plan, and a room's coordinates -/
namespace Cw
open PySem PySem.Spec L2
local macro_rules | `(tactic| walk_at "side") => `(tactic| first | omega | assumption | (dsimp only; omega) | (unfold CMul; omega) | exact ⟨by decide, by decide, by decide⟩ | exact wdiv (by first | assumption | decide | omega) (by first | assumption | decide | omega) | (simp only [List.length_cons, List.length_nil]; omega) | rfl)
local macro_rules | `(tactic| walk_at "hl") => `(tactic| first | assumption | exact upd_same | ((refine Cw.Same.at (by assumption) ?_); walk_at "hl") | ((refine Cw.Keep.at (by assumption) ?_ (by assumption)); walk_at "hl"))
local macro_rules | `(tactic| walk_at "st") => `(tactic| first
  | (with_reducible refine s_seq ?_) | (with_reducible refine g_nm ?_) | (with_reducible refine s_next ?_) | (with_reducible refine s_set ?_) | (with_reducible refine s_drop ?_) | (with_reducible refine s_ret ?_) | (with_reducible refine s_if ?_)
  | ((with_reducible refine e_varG ?_); refine ⟨_, (by with_unfolding_all rfl), ?_⟩) | (with_reducible refine e_c ?_) | (with_reducible refine e_op ?_) | (with_reducible refine e_un ?_)
  | (with_reducible refine e_cons ?_) | (with_reducible refine e_nil ?_) | (with_reducible refine e_cb ?_) | (with_reducible refine e_call ?_) | (with_reducible refine e_md ?_)
  | (with_reducible refine t_test ?_) | (with_reducible refine t_B ?_) | (with_reducible refine t_and ?_) | (with_reducible refine t_or ?_) | (with_reducible refine t_not ?_)
  | (with_reducible refine e_andV ?_) | (with_reducible refine e_orV ?_) | (with_reducible refine e_notV ?_) | (with_reducible refine e_if ?_)
  | (with_reducible refine v_I0 ?_) | ((with_reducible refine v_I ?c ?_); try (case c => walk_at "side")) | (with_reducible refine v_bl ?_)
  | ((with_reducible refine v_eq ?c ?_); (case c => with_unfolding_all rfl)) | ((with_reducible refine v_ne ?c ?_); (case c => with_unfolding_all rfl))
  | (with_reducible refine v_inti ?_) | (with_reducible refine v_intb ?_) | ((with_reducible refine v_lenG ?_); refine ⟨_, (by walk_at "hl"), ?_⟩)
  | ((with_reducible refine v_lenS ?c ?_); try (case c => walk_at "side"))
  | (with_reducible refine e_dnew ?_) | (with_reducible refine e_dget ?_) | (with_reducible refine s_dput ?_) | (with_reducible refine e_lst ?_) | (with_reducible refine e_tup ?_)
  | ((with_reducible refine v_lst ?c ?_); (case c => walk_at "side")) | ((with_reducible refine v_tup ?c ?_); (case c => walk_at "side"))
  | ((with_reducible refine v_dgetG ?_); refine ⟨_, (by assumption), ?_⟩)
  | (with_reducible refine e_sl ?_) | (with_reducible refine e_nopart ?_) | (with_reducible refine e_part ?_) | (with_reducible refine e_m1 ?_) | (with_reducible refine v_isS ?_) | (with_reducible refine v_int ?_)
  | (with_reducible refine e_lc ?_) | (with_reducible refine e_iStr ?_) | (with_reducible refine e_iEnumS ?_) | (with_reducible refine v_iEnumS ?_) | (with_reducible refine v_str ?_) | (with_reducible refine e_yes ?_) | (with_reducible refine e_fld ?_) | (with_reducible refine e_sfld ?_)
  | ((with_reducible refine v_addS ?c ?_); try (case c => walk_at "side")) | (with_reducible refine v_inS ?_) | (with_reducible refine v_notInS ?_) | (with_reducible refine v_ltS ?_)
  | ((with_reducible refine v_inLG ?_); refine ⟨_, (by walk_at "hl"), ?_⟩) | (with_reducible refine v_isiS ?_) | (with_reducible refine e_revS ?_) | ((with_reducible refine v_revS ?c ?_); try (case c => walk_at "side"))
  | ((with_reducible refine v_lenSetG ?_); refine ⟨_, (by walk_at "hl"), ?_⟩)
  | (with_reducible refine e_bm ?_) | (with_reducible refine e_bm0 ?_) | ((with_reducible refine v_tyLG ?_); refine ⟨_, (by walk_at "hl"), ?_⟩)
  | (with_reducible refine iteNT ?_) | (with_reducible refine iteNF ?_) | (with_reducible refine e_for ?_)
  | (with_reducible refine e_iL ?_) | (with_reducible refine e_iT ?_) | ((with_reducible refine v_iLG ?_); refine ⟨_, (by walk_at "hl"), ?_⟩) | (with_reducible refine e_iR1 ?_) | ((with_reducible refine v_iR1 ?c1 ?c2 ?_); try (case c1 => walk_at "side"); try (case c2 => walk_at "side"))
  | (with_reducible refine e_iR2 ?_) | ((with_reducible refine v_iR2 ?c1 ?_); try (case c1 => walk_at "side"))
  | (with_reducible refine e_pr0 ?_) | (with_reducible refine e_pr ?_) | (with_reducible refine e_disp ?_) | (with_reducible refine s_asgT ?_) | (with_reducible refine e_tryA ?_) | (with_reducible refine e_callS ?_) | (with_reducible refine e_mdS ?_) | (with_reducible refine e_par ?_) | (with_reducible refine v_par ?_) | (with_reducible refine e_par3 ?_) | (with_reducible refine v_par3 ?_) | (with_reducible refine e_iK ?_) | (with_reducible refine e_dnotin ?_)
  | (with_reducible refine iteT ?_) | (with_reducible refine iteF ?_))
local macro_rules | `(tactic| walk_at "go") => `(tactic| repeat walk_at "st")
structure TxtA (K : PySem.W.Frag) (mg : Str → Option Value) (C R O : Addr) : Prop extends TxtR K mg C R O where
  any : mg "any" = none
def strsG (Gs : List (List Nat)) : List V := Gs.map fun G => V.str (tx G)
theorem v_any {K : PySem.W.Frag} {H : Hp} {Q : VK} {p : Addr} {bs : List Bool} (h : H p = some (.lst (bs.map V.bl))) (q : Q (.bl (bs.any id)) H) : rAny K [.ref p] H Q := ⟨p, bs, rfl, SqL.of h, q⟩
theorem grow_lt {ls a b : List Nat} (ha : cutG a ls = a) (hb : cutG b ls = b) (h : ∀ x ∈ a, x ∈ b) (ne : b ≠ a) : a.length < b.length := by
  have e : cutG a (cutG b ls) = cutG a ls := by
    unfold cutG
    rw [List.filter_filter]
    refine List.filter_congr fun x hx => ?_
    by_cases c : x ∈ a
    · rw [decide_eq_true c, decide_eq_true (h x c)]
      rfl
    · rw [decide_eq_false c]
      rfl
  have s : a.Sublist b := by
    have s := List.filter_sublist (p := fun c => decide (c ∈ a)) (l := cutG b ls)
    have s : (cutG a (cutG b ls)).Sublist (cutG b ls) := s
    rw [e, ha, hb] at s
    exact s
  rcases Nat.lt_or_ge a.length b.length with l | l
  · exact l
  · exact absurd (s.eq_of_length_le l).symm ne
theorem cut_self {ls : List Nat} {c : Nat} (nd : ls.Nodup) (hc : c ∈ ls) : cutG [c] ls = [c] := by
  unfold cutG
  induction ls with
  | nil => cases hc
  | cons a r ih =>
    obtain ⟨h1, h2⟩ := List.nodup_cons.mp nd
    by_cases e : a = c
    · subst e
      rw [List.filter_cons_of_pos (by simp), List.filter_eq_nil_iff.mpr fun x hx z => ?_]
      have z := of_decide_eq_true z
      rw [List.mem_singleton] at z
      exact h1 (z ▸ hx)
    · rw [List.filter_cons_of_neg (by simpa using e)]
      exact ih h2 ((List.mem_cons.mp hc).resolve_left fun z => e z.symm)
theorem cut_eq {ls a b : List Nat} (ha : cutG a ls = a) (hb : cutG b ls = b) (h : ∀ x ∈ ls, x ∈ a ↔ x ∈ b) : a = b := by
  rw [← ha, ← hb]
  exact List.filter_congr fun x hx => decide_eq_decide.mpr (h x hx)
theorem planF_no {ks : List Nat} {t d : Addr} {m : Str} (h : ¬ m = "kinds" ∧ ¬ m = "pairs" ∧ ¬ m = "own_crossing") : (planF ks t d).lookup m = none := by
  unfold planF
  rw [lookup_putF, if_neg h.2.2, lookup_putF, if_neg h.2.1, lookup_putF, if_neg h.1]
  rfl
theorem v_mdP {P : Prop} {C x : Addr} {H : Hp} {ks : List Nat} {ps : List (List Nat)} {m : Str} (h : PlanAt C H x ks ps) (n : ¬ m = "kinds" ∧ ¬ m = "pairs" ∧ ¬ m = "own_crossing") (q : P) : ∃ a dx fs, V.ref x = .ref a ∧ H a = some (.ins C dx fs) ∧ fs.lookup m = none ∧ P := by
  obtain ⟨dx, t, d, e, _, _⟩ := h.ex
  exact ⟨x, dx, _, rfl, e, planF_no n, q⟩
theorem walk_strsT {K : PySem.W.Frag} {a : Addr} {Gs : List (List Nat)} : Walk (Itt K a) Gs.length (fun H => SqT K H a (strsG Gs)) (fun k H x H' => H' = H ∧ x = V.str (tx (Gs.getD k []))) := by
  have w := walk_tup (K := K) (a := a) (xs := strsG Gs)
  unfold strsG at w ⊢
  rw [List.length_map] at w
  refine w.mono (fun _ z => z) fun i H x H' hi _ y => ?_
  obtain ⟨rfl, e⟩ := y
  refine ⟨rfl, ?_⟩
  rw [List.getElem?_map, List.getElem?_eq_getElem hi] at e
  injection e with e
  rw [List.getD_eq_getElem?_getD, List.getElem?_eq_getElem hi]
  exact e.symm
theorem range_mapG {β : Type} (Gs : List (List Nat)) (g : List Nat → β) : ((List.range Gs.length).map fun k => g (Gs.getD k [])) = Gs.map g := by
  refine List.ext_getElem (by simp) fun i h1 h2 => ?_
  rw [List.getElem_map, List.getElem_map, List.getElem_range, List.getD_eq_getElem?_getD, List.getElem?_eq_getElem (by simpa using h2)]
  rfl
def spLoose (C : Addr) : Sp := fun vs H Q _ => ∃ (x : Addr) (ls : List Nat) (fn : Nat → List Nat) (g : List Nat), vs = [.ref x, .str (tx g)] ∧ PlanAt C H x (ascOf ls) (tabPairs ls fn) ∧ Fl ls fn ∧ (∀ c ∈ g, c ∈ ls) ∧ g.length ≤ 1000 ∧ ∀ H', Same H H' → Q (.str (tx (loose fn ls g))) H'
def spParts (C : Addr) : Sp := fun vs H Q _ => ∃ (x : Addr) (ls : List Nat) (fn : Nat → List Nat), vs = [.ref x] ∧ PlanAt C H x (ascOf ls) (tabPairs ls fn) ∧ Fl ls fn ∧ ∀ p H' Gs, Same H H' → PartsOf fn ls ls Gs → H' p = some (.tup (strsG Gs)) → Gs.length ≤ 8 → Q (.ref p) H'
def spCoord (C R : Addr) : Sp := fun vs H Q _ => ∃ (r x : Addr) (name : List Nat) (ls : List Nat) (fn : Nat → List Nat), vs = [.ref r] ∧ RoomAt R H r x name ∧ PlanAt C H x (ascOf ls) (tabPairs ls fn) ∧ Fl ls fn ∧ name.length ≤ 100000 ∧ ∀ p H' Gs, Same H H' → PartsOf fn ls ls Gs → H' p = some (.tup (strsG (Gs.map fun G => cutG G name))) → Q (.ref p) H'
section
variable {P : Program} {w : World} {K : PySem.W.Frag} {mg : Str → Option Value} {base : Heap} {C R O : Addr}
end
end Cw
set_option Elab.async false
set_option linter.all false
set_option maxRecDepth 100000
set_option maxHeartbeats 4000000
/-! more words: >, upper, list + list, parts of texts, values that are no texts -/
namespace Cw
open PySem PySem.Spec L2
section
variable {X : Cx}
def rTGt : R2 := fun x y H Q => ∃ a b : List Nat, x = .str (tx a) ∧ y = .str (tx b) ∧ Q (.bl (decide (b < a))) H
theorem op_gtS : OpR X (compareOp .Gt) rTGt := by
  intro pins s σ H x y v u Q I rx ry h
  obtain ⟨a, b, rfl, rfl, q⟩ := h
  obtain ⟨t, rfl⟩ := rx
  obtain ⟨t', rfl⟩ := ry
  exact PySem.P.gt_str (fin_bl I q (by simp))
theorem op_cat1 : OpR X (binaryOp .Add) rCat := op_cat
/-- text.upper() of plain letters -/
def rUp : V → List V → Hp → VK → Prop := fun x xs H Q => ∃ l : List Nat, x = .str (tx l) ∧ xs = [] ∧ l.length ≤ 1000000 ∧ (∀ c ∈ l, c < 128) ∧ Q (.str (tx (l.map PyProof.Rows.up1))) H
theorem mt_up : MtR X "str.upper" rUp := by
  intro pins s σ H x vs v us Q I rx rv h
  obtain ⟨l, rfl, rfl, hl, h2, q⟩ := h
  refine mt_upper pins s σ H _ _ v us Q I rx rv ⟨tx l, rfl, rfl, by rw [tx_len]; omega, ?_⟩
  rw [show Txt.upper (tx l) = tx (l.map PyProof.Rows.up1) from SX.upper_S (by rw [List.all_eq_true]; intro c hc; exact decide_eq_true (h2 c hc))]
  exact q
theorem pe_up {o : Expr} {te : TE} {apos pos : PySem.Pos} (ho : PE X o te) (hbase : attributeBase o "upper" X.env (eval o X.env) = eval o X.env := by rfl) (hline : (apos.endLine == pos.line) = true := by rfl) : PE X (.Call (.Attribute o "upper" apos) [] [] pos) (tM0 rUp te) := pe_m0 F.slot_str_upper F.type_str_upper mt_up ho hbase hline
end
section
variable {σ : St} {H : Hp} {Q : VK} {K : PySem.W.Frag}
theorem v_gtS {a b : List Nat} (q : Q (.bl (decide (b < a))) H) : rTGt (.str (tx a)) (.str (tx b)) H Q := ⟨a, b, rfl, rfl, q⟩
theorem v_cat {l b : Addr} {xs zs : List V} (h1 : H l = some (.lst xs)) (h2 : H b = some (.lst zs)) (hl : xs.length + zs.length ≤ 1000000) (q : ∀ p H', H p = none → Same H H' → H' p = some (.lst (xs ++ zs)) → Q (.ref p) H') : rCat (.ref l) (.ref b) H Q :=
  ⟨l, b, xs, zs, rfl, rfl, h1, h2, szl hl, fun p hp => q p _ hp (Same.new hp) upd_same⟩
theorem cut_mid (l : List Nat) {i j : Int} (hi : 0 ≤ i) (hj : 0 ≤ j) : cutS (tx l) (some i) (some j) = tx ((l.take j.toNat).drop i.toNat) := by
  unfold cutS
  rw [tx_len]
  show (⟨((l.toArray.toList.drop (if i < 0 then _ else min i.toNat l.length)).take ((if j < 0 then _ else min j.toNat l.length) - (if i < 0 then _ else min i.toNat l.length))).toArray⟩ : Str) = _
  rw [if_neg (by omega), if_neg (by omega)]
  congr 2
  simp only
  rw [List.drop_take]
  have e : l.drop (min i.toNat l.length) = l.drop i.toNat := by
    by_cases hl : i.toNat ≤ l.length
    · rw [Nat.min_eq_left hl]
    · rw [Nat.min_eq_right (by omega), List.drop_of_length_le (by omega), List.drop_of_length_le (by omega)]
  rw [e]
  by_cases c1 : i.toNat ≤ l.length
  · rw [Nat.min_eq_left c1]
    by_cases c2 : j.toNat ≤ l.length
    · rw [Nat.min_eq_left c2]
    · rw [Nat.min_eq_right (by omega), List.take_of_length_le (by rw [List.length_drop]; omega), List.take_of_length_le (by rw [List.length_drop]; omega)]
  · rw [List.drop_of_length_le (by omega)]
    simp
theorem v_slMid {l : List Nat} {i j : Int} (hl : l.length ≤ 1000000) (hi : 0 ≤ i) (hj : 0 ≤ j) (q : Q (.str (tx ((l.take j.toNat).drop i.toNat))) H) : rSlS (.str (tx l)) (some i) (some j) H Q := ⟨tx l, rfl, by rw [tx_len]; exact szl hl, by rw [cut_mid l hi hj]; exact q⟩
theorem e_m0 {te : TE} {r : V → List V → Hp → VK → Prop} (q : te σ H fun x H1 => (∃ a, x = .str a) ∧ r x [] H1 Q) : tM0 r te σ H Q := q
theorem v_up {l : List Nat} (h : l.length ≤ 1000000) (h2 : ∀ c ∈ l, c < 128) (q : Q (.str (tx (l.map PyProof.Rows.up1))) H) : (∃ a, V.str (tx l) = .str a) ∧ rUp (.str (tx l)) [] H Q := ⟨⟨_, rfl⟩, l, rfl, rfl, h, h2, q⟩
theorem up1_lt {c : Nat} (h : c < 128) : PyProof.Rows.up1 c < 1000 := by
  unfold PyProof.Rows.up1
  split <;> omega
/-- isinstance(value, str) is False -/
def NoTx (K : PySem.W.Frag) (H : Hp) (v : V) : Prop := ∃ t, TyX K H v t ∧ PySem.W.kitOne K t (.type "str") = some false
theorem v_isiN {v : V} (h : NoTx K H v) (q : Q (.bl false) H) : rIsi K [v, .ty "str"] H Q := by
  obtain ⟨t, h1, h2⟩ := h
  exact ⟨v, .ty "str", t, .type "str", false, rfl, .ty "str", h1, h2, q⟩
theorem noTx_non : NoTx K H .non := ⟨_, .base .non, kit_ty (by decide +kernel)⟩
theorem noTx_int {i : Int} : NoTx K H (.int i) := ⟨_, .base (.int i), kit_ty (by decide +kernel)⟩
theorem noTx_bl {b : Bool} : NoTx K H (.bl b) := ⟨_, .base (.bl b), kit_ty (by decide +kernel)⟩
theorem noTx_lst {a : Addr} {xs : List V} (h : H a = some (.lst xs)) : NoTx K H (.ref a) := ⟨_, .base (.lst h), kit_ty (by decide +kernel)⟩
theorem noTx_tup {a : Addr} {xs : List V} (h : H a = some (.tup xs)) : NoTx K H (.ref a) := ⟨_, .base (.tup h), kit_ty (by decide +kernel)⟩
theorem noTx_dK {a : Addr} {kvs : List (Key × V)} (h : H a = some (.dK kvs)) : NoTx K H (.ref a) := ⟨_, .base (.dK h), kit_ty (by decide +kernel)⟩
theorem noTx_ins {mg : Str → Option Value} {x : Str} {a C dx : Addr} {fs : List (Str × V)} (F : ClsF K mg x C) (k : PySem.W.kitOne K (.ref C) (.type "str") = some false) (h : H a = some (.ins C dx fs)) : NoTx K H (.ref a) := ⟨_, .base (.ins h F.cl F.ha F.hn F.ht F.hm), k⟩
end
end Cw
set_option Elab.async false
set_option linter.all false
set_option maxRecDepth 100000
set_option maxHeartbeats 4000000
/-! len of a dict -/
namespace Cw
open PySem PySem.Spec L2
def rLenDK : List V → Hp → VK → Prop := fun xs H Q => ∃ (p : Addr) (kvs : List (Key × V)), xs = [.ref p] ∧ Rd H p (.dK kvs) ∧ Q (.int ((kvs.length : Nat) : Int)) H
theorem c_lenD {X : Cx} : CallR X (.builtin "len") rLenDK := by
  intro pins s σ H xs us Q I r h
  obtain ⟨p, kvs, rfl, hp, q⟩ := h
  obtain ⟨u, rfl, rx⟩ := vals1 r
  obtain rfl : u = .ref p := rx
  exact d_len I hp fun t s' I' => ⟨.int ((kvs.length : Nat) : Int), H, I', ⟨_, rfl⟩, q⟩
theorem v_lenD {H : Hp} {Q : VK} {p : Addr} {kvs : List (Key × V)} (h : H p = some (.dK kvs)) (q : Q (.int ((kvs.length : Nat) : Int)) H) : rLenDK [.ref p] H Q := ⟨p, kvs, rfl, .inl h, q⟩
end Cw
set_option Elab.async false
set_option linter.all false
set_option maxRecDepth 100000
set_option maxHeartbeats 4000000
/-! a comprehension over a dict's keys, the dict locked meanwhile -/
namespace Cw
open PySem PySem.Spec L2
/-- all but d stands as it stood; d is locked -/
structure Lk (d : Addr) (u : HO) (H H' : Hp) : Prop where
  at' : ∃ od, H' d = some (.frz od u)
  oth : ∀ b o, H b = some o → b ≠ d → H' b = some o
theorem Lk.same {d : Addr} {u : HO} {H H' H2 : Hp} (h : Lk d u H H') (s : Same H' H2) : Lk d u H H2 := ⟨h.at'.elim fun od e => ⟨od, s _ _ e⟩, fun b o e n => s _ _ (h.oth b o e n)⟩
theorem v_lockLc {σ : St} {H : Hp} {Q : VK} {i : Nat} {td : TE} {tt : TT} {te : TE} {d : Addr} {ls : List Nat} {g : Nat → V} {b : Nat → Bool} {f : Nat → V} (h : H d = some (.dK (ls.map fun c => ((Sum.inr (tx [c]) : Key), g c)))) (hn : ls.length ≤ 1000000)
    (htd : ∀ H1, ∀ R : VK, R (.ref d) H1 → td σ H1 R)
    (ht : ∀ c ∈ ls, ∀ H1, Lk d (.dK (ls.map fun c => ((Sum.inr (tx [c]) : Key), g c))) H H1 → ∀ R : Bool → Hp → Prop, (∀ H2, Same H1 H2 → R (b c) H2) → tt ((wipe σ [i]).set i (some (.str (tx [c])))) H1 R)
    (he : ∀ c ∈ ls, b c = true → ∀ H1, Lk d (.dK (ls.map fun c => ((Sum.inr (tx [c]) : Key), g c))) H H1 → ∀ R : VK, (∀ H2, Same H1 H2 → R (f c) H2) → te ((wipe σ [i]).set i (some (.str (tx [c])))) H1 R)
    (q : ∀ D H', H D = none → Same H H' → H' D = some (.lst ((ls.filter b).map f)) → Q (.ref D) H') : tLockE (tLc (iKeys td) (gName i) tt te [i]) σ H Q := by
  refine ⟨d, _, h, trivial, fun od => ?_⟩
  have lk0 : Lk d (.dK (ls.map fun c => ((Sum.inr (tx [c]) : Key), g c))) H (upd H d (.frz od (.dK (ls.map fun c => ((Sum.inr (tx [c]) : Key), g c))))) := ⟨⟨od, upd_same⟩, fun b o e n => by rw [upd_ne n]; exact e⟩
  refine e_lc ?_
  refine e_iK ?_
  refine htd _ _ ?_
  refine ⟨d, od, rfl, .inl ⟨_, upd_same, ?_⟩⟩
  refine vals_some (ls := ls) (it := fun c => V.str (tx [c])) (f := f) (b := b) walk_let (fun H' s' => s' _ _ upd_same) hn (fun e he' H7 s7 Rk r => ht e he' H7 (lk0.same s7) Rk r) (fun e he' hb H7 s7 Rk r => he e he' hb H7 (lk0.same s7) Rk r) (fun D H7 hD s7 e7 => ?_)
  have nD : D ≠ d := fun z => by rw [z, upd_same] at hD; cases hD
  refine ⟨s7 _ _ upd_same, q D _ (by rw [upd_ne nD] at hD; exact hD) (fun b o hb => ?_) (by rw [upd_ne nD]; exact e7)⟩
  by_cases e : b = d
  · rw [e, upd_same, ← hb, e, h]
  · rw [upd_ne e]
    exact s7 _ _ (lk0.oth b o hb e)
/-- a test, cut off from what follows -/
def tCutT (t : TT) : TT := fun σ H Q => ∃ Mid : Bool → Hp → Prop, t σ H Mid ∧ ∀ b H', Mid b H' → Q b H'
theorem pt_cut {X : Cx} {e : Expr} {t : TT} (h : PT X e t) : PT X e (tCutT t) := by
  refine ⟨fun pins s σ H Q I q => ?_⟩
  obtain ⟨Mid, hm, hu⟩ := q
  exact thn (h.run pins s σ H Mid I hm) fun b s1 ⟨H1, I1, q1⟩ => ⟨H1, I1, hu b H1 q1⟩
theorem t_cut {t : TT} {σ : L2.St} {H : Hp} {Q : Bool → Hp → Prop} (Mid : Bool → Hp → Prop) (h : t σ H Mid) (q : ∀ b H', Mid b H' → Q b H') : tCutT t σ H Q := ⟨Mid, h, q⟩
end Cw
set_option Elab.async false
set_option linter.all false
set_option maxRecDepth 100000
set_option maxHeartbeats 4000000
/-! the law's own way to the parts of a table -/
namespace Cw
open PySem PySem.Spec L2
local macro_rules | `(tactic| walk_at "side") => `(tactic| first | omega | assumption | (dsimp only; omega) | (unfold CMul; omega) | exact ⟨by decide, by decide, by decide⟩ | exact wdiv (by first | assumption | decide | omega) (by first | assumption | decide | omega) | (simp only [List.length_cons, List.length_nil]; omega) | rfl)
local macro_rules | `(tactic| walk_at "hl") => `(tactic| first | assumption | exact upd_same | ((refine Cw.Same.at (by assumption) ?_); walk_at "hl") | ((refine Cw.Keep.at (by assumption) ?_ (by assumption)); walk_at "hl"))
local macro_rules | `(tactic| walk_at "st") => `(tactic| first
  | (with_reducible refine s_seq ?_) | (with_reducible refine g_nm ?_) | (with_reducible refine s_next ?_) | (with_reducible refine s_set ?_) | (with_reducible refine s_drop ?_) | (with_reducible refine s_ret ?_) | (with_reducible refine s_if ?_)
  | ((with_reducible refine e_varG ?_); refine ⟨_, (by with_unfolding_all rfl), ?_⟩) | (with_reducible refine e_c ?_) | (with_reducible refine e_op ?_) | (with_reducible refine e_un ?_)
  | (with_reducible refine e_cons ?_) | (with_reducible refine e_nil ?_) | (with_reducible refine e_cb ?_) | (with_reducible refine e_call ?_) | (with_reducible refine e_md ?_)
  | (with_reducible refine t_test ?_) | (with_reducible refine t_B ?_) | (with_reducible refine t_and ?_) | (with_reducible refine t_or ?_) | (with_reducible refine t_not ?_)
  | (with_reducible refine e_andV ?_) | (with_reducible refine e_orV ?_) | (with_reducible refine e_notV ?_) | (with_reducible refine e_if ?_)
  | (with_reducible refine v_I0 ?_) | ((with_reducible refine v_I ?c ?_); try (case c => walk_at "side")) | (with_reducible refine v_bl ?_)
  | ((with_reducible refine v_eq ?c ?_); (case c => with_unfolding_all rfl)) | ((with_reducible refine v_ne ?c ?_); (case c => with_unfolding_all rfl))
  | (with_reducible refine v_inti ?_) | (with_reducible refine v_intb ?_) | ((with_reducible refine v_lenG ?_); refine ⟨_, (by walk_at "hl"), ?_⟩)
  | ((with_reducible refine v_lenS ?c ?_); try (case c => walk_at "side"))
  | (with_reducible refine e_dnew ?_) | (with_reducible refine e_dget ?_) | (with_reducible refine s_dput ?_) | (with_reducible refine e_lst ?_) | (with_reducible refine e_tup ?_)
  | ((with_reducible refine v_lst ?c ?_); (case c => walk_at "side")) | ((with_reducible refine v_tup ?c ?_); (case c => walk_at "side"))
  | ((with_reducible refine v_dgetG ?_); refine ⟨_, (by assumption), ?_⟩)
  | (with_reducible refine e_sl ?_) | (with_reducible refine e_nopart ?_) | (with_reducible refine e_part ?_) | (with_reducible refine e_m1 ?_) | (with_reducible refine v_isS ?_) | (with_reducible refine v_int ?_)
  | (with_reducible refine e_lc ?_) | (with_reducible refine e_iStr ?_) | (with_reducible refine e_iEnumS ?_) | (with_reducible refine v_iEnumS ?_) | (with_reducible refine v_str ?_) | (with_reducible refine e_yes ?_) | (with_reducible refine e_fld ?_) | (with_reducible refine e_sfld ?_)
  | ((with_reducible refine v_addS ?c ?_); try (case c => walk_at "side")) | (with_reducible refine v_inS ?_) | (with_reducible refine v_notInS ?_) | (with_reducible refine v_ltS ?_)
  | ((with_reducible refine v_inLG ?_); refine ⟨_, (by walk_at "hl"), ?_⟩) | (with_reducible refine v_isiS ?_) | (with_reducible refine e_revS ?_) | ((with_reducible refine v_revS ?c ?_); try (case c => walk_at "side"))
  | ((with_reducible refine v_lenSetG ?_); refine ⟨_, (by walk_at "hl"), ?_⟩)
  | (with_reducible refine e_bm ?_) | (with_reducible refine e_bm0 ?_) | ((with_reducible refine v_tyLG ?_); refine ⟨_, (by walk_at "hl"), ?_⟩)
  | (with_reducible refine iteNT ?_) | (with_reducible refine iteNF ?_) | (with_reducible refine e_for ?_)
  | (with_reducible refine e_iL ?_) | (with_reducible refine e_iT ?_) | ((with_reducible refine v_iLG ?_); refine ⟨_, (by walk_at "hl"), ?_⟩) | (with_reducible refine e_iR1 ?_) | ((with_reducible refine v_iR1 ?c1 ?c2 ?_); try (case c1 => walk_at "side"); try (case c2 => walk_at "side"))
  | (with_reducible refine e_iR2 ?_) | ((with_reducible refine v_iR2 ?c1 ?_); try (case c1 => walk_at "side"))
  | (with_reducible refine e_pr0 ?_) | (with_reducible refine e_pr ?_) | (with_reducible refine e_disp ?_) | (with_reducible refine s_asgT ?_) | (with_reducible refine e_tryA ?_) | (with_reducible refine e_callS ?_) | (with_reducible refine e_mdS ?_) | (with_reducible refine e_par ?_) | (with_reducible refine v_par ?_) | (with_reducible refine e_par3 ?_) | (with_reducible refine v_par3 ?_) | (with_reducible refine e_iK ?_) | (with_reducible refine e_dnotin ?_)
  | (with_reducible refine iteT ?_) | (with_reducible refine iteF ?_))
local macro_rules | `(tactic| walk_at "go") => `(tactic| repeat walk_at "st")
def onesV (l : List Nat) : List V := l.map fun c => V.str (tx [c])
/-- one turn of the law's way: what is left and does not cross one of the group is taken in -/
def looseL (f : Nat → List Nat) (left g : List Nat) : List Nat := left.filter fun x => !(g.filter fun o => !decide (o ∈ f x)).isEmpty
def growL (f : Nat → List Nat) (left g : List Nat) : List Nat := g ++ (looseL f left g).filter fun x => !decide (x ∈ g)
section
variable {f : Nat → List Nat} {ls left g : List Nat} {c : Nat}
theorem looseL_mem {x : Nat} : x ∈ looseL f left g ↔ x ∈ left ∧ ∃ o ∈ g, ¬ o ∈ f x := by
  unfold looseL
  rw [List.mem_filter, Bool.not_eq_true', List.isEmpty_eq_false_iff_exists_mem]
  simp only [List.mem_filter, Bool.not_eq_true', decide_eq_false_iff_not]
theorem growL_mem {x : Nat} : x ∈ growL f left g ↔ x ∈ g ∨ x ∈ left ∧ ∃ o ∈ g, ¬ o ∈ f x := by
  unfold growL
  rw [List.mem_append, List.mem_filter, looseL_mem]
  constructor
  · rintro (h | h)
    · exact .inl h
    · exact .inr h.1
  · intro h
    by_cases z : x ∈ g
    · exact .inl z
    · exact .inr ⟨h.resolve_left z, by simpa using z⟩
/-- what holds of the group behind t turns -/
structure Grow (f : Nat → List Nat) (ls left : List Nat) (c t : Nat) (g : List Nat) : Prop where
  has : c ∈ g
  nd : g.Nodup
  sub : ∀ x ∈ g, x ∈ left
  cn : ∀ x ∈ g, Conn f ls c x
  big : t + 1 ≤ g.length ∨ ∀ x ∈ left, (∃ o ∈ g, ¬ o ∈ f x) → x ∈ g
theorem Grow.start (hc : c ∈ left) : Grow f ls left c 0 [c] := ⟨List.mem_singleton_self c, by simp, fun x hx => by rw [List.mem_singleton.mp hx]; exact hc, fun x hx => by rw [List.mem_singleton.mp hx]; exact .base, .inl (by simp)⟩
theorem Grow.step (ok : CrOk f) (nl : left.Nodup) (hl : ∀ x ∈ left, x ∈ ls) {t : Nat} (h : Grow f ls left c t g) : Grow f ls left c (t + 1) (growL f left g) where
  has := growL_mem.mpr (.inl h.has)
  nd := by
    unfold growL
    refine List.nodup_append.mpr ⟨h.nd, ((nl.sublist List.filter_sublist).sublist List.filter_sublist), fun a ha b hb e => ?_⟩
    have := (List.mem_filter.mp hb).2
    rw [← e] at this
    simp [ha] at this
  sub := fun x hx => (growL_mem.mp hx).elim (h.sub x) fun z => z.1
  cn := fun x hx => (growL_mem.mp hx).elim (h.cn x) fun ⟨z, o, ho, n⟩ => .step (h.cn o ho) (hl x z) fun y => n (ok.sym _ _ y)
  big := by
    by_cases z : ∀ x ∈ left, (∃ o ∈ g, ¬ o ∈ f x) → x ∈ g
    · refine .inr fun x hx ⟨o, ho, n⟩ => growL_mem.mpr (.inl ?_)
      rcases growL_mem.mp ho with w | ⟨w1, w2⟩
      · exact z x hx ⟨o, w, n⟩
      · exact z x hx ⟨o, z o w1 w2, n⟩
    · have ⟨x, hx⟩ := Classical.not_forall.mp z
      have ⟨h1, h2⟩ := Classical.not_imp.mp hx
      have ⟨h3, h4⟩ := Classical.not_imp.mp h2
      rcases h.big with b | b
      · refine .inl ?_
        have m : x ∈ (looseL f left g).filter fun x => !decide (x ∈ g) := List.mem_filter.mpr ⟨looseL_mem.mpr ⟨h1, h3⟩, by simpa using h4⟩
        have := List.length_pos_of_mem m
        unfold growL
        rw [List.length_append]
        omega
      · exact absurd (b x h1 h3) h4
theorem nodup_len {a b : List Nat} (nd : a.Nodup) (h : ∀ x ∈ a, x ∈ b) : a.length ≤ b.length := by
  induction a generalizing b with
  | nil => exact Nat.zero_le _
  | cons x a ih =>
    obtain ⟨n1, n2⟩ := List.nodup_cons.mp nd
    have hx := h x (List.mem_cons_self ..)
    have := ih (b := b.erase x) n2 fun y hy => (List.mem_erase_of_ne fun e : y = x => n1 (e ▸ hy)).mpr (h y (List.mem_cons_of_mem _ hy))
    rw [List.length_erase_of_mem hx] at this
    have := List.length_pos_of_mem hx
    rw [List.length_cons]
    omega
theorem Grow.all (ok : CrOk f) (h : Grow f ls left c ls.length g) (hl : ∀ x ∈ left, x ∈ ls) (cl : ∀ x, Conn f ls c x → x ∈ left) (hc : c ∈ ls) : ∀ x, x ∈ g ↔ Conn f ls c x := by
  have cz : ∀ x ∈ left, (∃ o ∈ g, ¬ o ∈ f x) → x ∈ g := by
    rcases h.big with b | b
    · have := nodup_len h.nd fun x hx => hl x (h.sub x hx)
      omega
    · exact b
  refine fun x => ⟨h.cn x, fun z => closed_all (f := f) (ls := ls) h.has (fun y hy ⟨o, ho, n⟩ => ?_) x z⟩
  exact cz y (cl y (.step (h.cn o ho) hy n)) ⟨o, ho, fun w => n (ok.sym _ _ w)⟩
end
section
variable {K : PySem.W.Frag} {H : Hp} {Q : VK} {c : Nat} {l : List Nat} {p : Addr}
theorem ones_tx (l : List Nat) : onesV l = (l.map fun c => [c]).map fun l => V.str (tx l) := by
  unfold onesV
  rw [List.map_map]
  rfl
theorem one_mem : decide ([c] ∈ l.map fun c => [c]) = decide (c ∈ l) := decide_eq_decide.mpr ⟨fun z => by
  obtain ⟨d, hd, e⟩ := List.mem_map.mp z
  injection e with e _
  exact e ▸ hd, fun z => List.mem_map.mpr ⟨c, z, rfl⟩⟩
theorem v_inOnes (h : H p = some (.lst (onesV l))) (q : Q (.bl (decide (c ∈ l))) H) : rIn K false (.str (tx [c])) (.ref p) H Q := by
  rw [ones_tx] at h
  exact v_inL h (by rw [one_mem]; exact q)
theorem v_notInOnes (h : H p = some (.lst (onesV l))) (q : Q (.bl (!decide (c ∈ l))) H) : rIn K true (.str (tx [c])) (.ref p) H Q := by
  rw [ones_tx] at h
  refine ⟨p, _, rfl, .inl (SqL.of h), rfl, flat_tx _, ?_⟩
  rw [inV_tx, one_mem]
  exact q
theorem v_neNilO {q : Addr} (h : H p = some (.lst (onesV l))) (hl : ∀ c ∈ l, c < 1000) (hq : H q = some (.lst [])) (k : Q (.bl (!l.isEmpty)) H) : rNeD K (.ref p) (.ref q) H Q := by
  have h' : H p = some (.lst ((l.map fun c => tx [c]).map V.str)) := by
    rw [h, List.map_map]
    rfl
  refine v_neNilS h' (fun x hx => ?_) hq (by rw [List.isEmpty_map]; exact k)
  obtain ⟨c, hc, rfl⟩ := List.mem_map.mp hx
  exact ok_tx fun d hd => by rw [List.mem_singleton.mp hd]; exact hl c hc
theorem onesV_len (l : List Nat) : (onesV l).length = l.length := List.length_map ..
end
theorem let_lt' : ∀ c ∈ LET, c < 1000 := by decide +kernel
def spGroups : Sp := fun vs H Q _ => ∃ (d : Addr) (ls : List Nat) (fn : Nat → List Nat), vs = [.ref d] ∧ H d = some (.dK (tabKV ls fn)) ∧ Fl ls fn ∧ ∀ p H' Gs, H p = none → Same H H' → PartsOf fn ls ls Gs → H' p = some (.lst (strsG Gs)) → Gs.length ≤ 8 → Q (.ref p) H'
section
variable {P : Program} {w : World} {K : PySem.W.Frag} {mg : Str → Option Value} {base : Heap} {C R O : Addr}
end
end Cw
set_option Elab.async false
set_option linter.all false
set_option maxRecDepth 100000
set_option maxHeartbeats 4000000
/-! walls in plain words: two doors of one kind lie in one wall just if their marks agree but for the sign -/
namespace Cw
/-! ### sums of coordinates -/
def sumL : List Nat → (Nat → Int) → Int
  | [], _ => 0
  | x :: r, v => v x + sumL r v
theorem sumL_congr {u v : Nat → Int} : ∀ {ls : List Nat}, (∀ x ∈ ls, u x = v x) → sumL ls u = sumL ls v
  | [], _ => rfl
  | x :: r, h => by
    show u x + sumL r u = v x + sumL r v
    rw [h x (List.mem_cons_self ..), sumL_congr fun y hy => h y (List.mem_cons_of_mem _ hy)]
theorem sumL_comb (a b : Int) (u v : Nat → Int) : ∀ ls : List Nat, sumL ls (fun x => a * u x + b * v x) = a * sumL ls u + b * sumL ls v
  | [] => by simp [sumL]
  | x :: r => by
    show (a * u x + b * v x) + sumL r _ = a * (u x + sumL r u) + b * (v x + sumL r v)
    rw [sumL_comb a b u v r, Int.mul_add, Int.mul_add]
    omega
theorem sumL_nonneg {v : Nat → Int} : ∀ {ls : List Nat}, (∀ x ∈ ls, 0 ≤ v x) → 0 ≤ sumL ls v
  | [], _ => by simp [sumL]
  | x :: r, h => by
    show 0 ≤ v x + sumL r v
    have := h x (List.mem_cons_self ..)
    have := sumL_nonneg (ls := r) fun y hy => h y (List.mem_cons_of_mem _ hy)
    omega
theorem sumL_nonpos {v : Nat → Int} : ∀ {ls : List Nat}, (∀ x ∈ ls, v x ≤ 0) → sumL ls v ≤ 0
  | [], _ => by simp [sumL]
  | x :: r, h => by
    show v x + sumL r v ≤ 0
    have := h x (List.mem_cons_self ..)
    have := sumL_nonpos (ls := r) fun y hy => h y (List.mem_cons_of_mem _ hy)
    omega
theorem sumL_pos {v : Nat → Int} : ∀ {ls : List Nat}, Pos ls v → 1 ≤ sumL ls v
  | [], h => by
    obtain ⟨x, hx, _⟩ := h.2
    cases hx
  | y :: r, h => by
    show 1 ≤ v y + sumL r v
    have h1 := h.1 y (List.mem_cons_self ..)
    have h2 := sumL_nonneg (ls := r) fun z hz => h.1 z (List.mem_cons_of_mem _ hz)
    obtain ⟨x, hx, hp⟩ := h.2
    rcases List.mem_cons.mp hx with rfl | hx
    · omega
    · have := sumL_pos (ls := r) ⟨fun z hz => h.1 z (List.mem_cons_of_mem _ hz), x, hx, hp⟩
      omega
theorem sumL_out {g : Nat → Int} {s : Nat} : ∀ {ls : List Nat}, ¬ s ∈ ls → sumL ls (fun x => g x * unit x s) = 0
  | [], _ => rfl
  | y :: r, h => by
    show g y * unit y s + sumL r _ = 0
    rw [sumL_out fun z => h (List.mem_cons_of_mem _ z)]
    unfold unit
    rw [if_neg fun z : s = y => h (z ▸ List.mem_cons_self ..)]
    simp
theorem sumL_unit {g : Nat → Int} {s : Nat} : ∀ {ls : List Nat}, ls.Nodup → s ∈ ls → sumL ls (fun x => g x * unit x s) = g s
  | [], _, h => nomatch h
  | y :: r, hn, h => by
    show g y * unit y s + sumL r _ = g s
    have hn' := List.nodup_cons.mp hn
    by_cases e : s = y
    · subst e
      rw [sumL_out hn'.1]
      unfold unit
      rw [if_pos rfl]
      omega
    · rw [sumL_unit hn'.2 ((List.mem_cons.mp h).resolve_left e)]
      unfold unit
      rw [if_neg e]
      omega
theorem sumL_one {s : Nat} {ls : List Nat} (hn : ls.Nodup) (hs : s ∈ ls) : sumL ls (fun x => unit x s) = 1 := by
  have := sumL_unit (g := fun _ => 1) hn hs
  rw [← this]
  exact sumL_congr fun x _ => by omega
section
variable {f : Nat → List Nat} {ls : List Nat} {s t : Nat}
/-- a way acts as a matrix of whole numbers -/
theorem act_lin (hn : ls.Nodup) (ok : CrOk f) (g : Nat → Int) : ∀ {w : List Nat} {s : Nat}, (∀ y ∈ w, y ∈ ls) → s ∈ ls → act f w g s = sumL ls fun x => g x * mark f w s x
  | [], s, _, hs => (sumL_unit hn hs).symm
  | t :: r, s, hw, hs => by
    have ht := hw t (List.mem_cons_self ..)
    have hr : ∀ y ∈ r, y ∈ ls := fun y hy => hw y (List.mem_cons_of_mem _ hy)
    show thr f t (act f r g) s = _
    by_cases e : s = t
    · subst e
      rw [thr_self, act_lin hn ok g hr hs]
      have := sumL_comb (-1) 0 (fun x => g x * mark f r s x) (fun _ => 0) ls
      have e2 : sumL ls (fun x => g x * mark f (s :: r) s x) = sumL ls fun x => -1 * (g x * mark f r s x) + 0 * 0 := sumL_congr fun x _ => by
        show g x * thr f s (act f r (unit x)) s = _
        rw [thr_self, Int.mul_neg]
        show -(g x * mark f r s x) = _
        omega
      rw [e2, this]
      omega
    · by_cases c : s ∈ f t
      · rw [thr_cr ok c, act_lin hn ok g hr hs]
        refine sumL_congr fun x _ => ?_
        show _ = g x * thr f t (act f r (unit x)) s
        rw [thr_cr ok c]
        rfl
      · rw [thr_not e c, act_lin hn ok g hr hs, act_lin hn ok g hr ht]
        have := sumL_comb 1 2 (fun x => g x * mark f r s x) (fun x => g x * mark f r t x) ls
        have e2 : sumL ls (fun x => g x * mark f (t :: r) s x) = sumL ls fun x => 1 * (g x * mark f r s x) + 2 * (g x * mark f r t x) := sumL_congr fun x _ => by
          show g x * thr f t (act f r (unit x)) s = _
          rw [thr_not e c]
          show g x * (mark f r s x + 2 * mark f r t x) = _
          rw [Int.mul_add, ← Int.mul_assoc, Int.mul_comm (g x) 2, Int.mul_assoc]
          omega
        rw [e2, this]
        omega
theorem mark_nn (ok : CrOk f) {w : List Nat} (hr : Red f w) (hw : ∀ y ∈ w, y ∈ ls) (hs : s ∈ ls) (hd : ¬ desc f s w) : Pos ls (mark f w s) := (mark_pos ok _ w rfl hr hw).1 s hs hd
theorem mark_np (ok : CrOk f) {w : List Nat} (hr : Red f w) (hw : ∀ y ∈ w, y ∈ ls) (hs : s ∈ ls) (hd : desc f s w) : ∀ x ∈ ls, mark f w s x ≤ 0 := by
  intro x hx
  obtain ⟨u, ru, du, lu, au, mu⟩ := Red_desc ok hr hd
  have := (mark_nn ok ru (fun y hy => hw y (mu y hy)) hs du).1 x hx
  show act f w (unit x) s ≤ 0
  rw [au, thr_self]
  have : 0 ≤ act f u (unit x) s := this
  omega
/-- a way that leaves the mark of a kind goes through kinds that cross it -/
theorem mark_fix (hn : ls.Nodup) (ok : CrOk f) (hs : s ∈ ls) : ∀ {w : List Nat}, Red f w → (∀ y ∈ w, y ∈ ls) → (∀ x ∈ ls, mark f w s x = unit x s) → ∀ y ∈ w, y ∈ f s
  | [], _, _, _, y, hy => nomatch hy
  | t :: r, hr, hw, he, y, hy => by
    have ht := hw t (List.mem_cons_self ..)
    have hr' : ∀ y ∈ r, y ∈ ls := fun y hy => hw y (List.mem_cons_of_mem _ hy)
    have S1 : sumL ls (mark f (t :: r) s) = 1 := by rw [sumL_congr he, sumL_one hn hs]
    have Pt := sumL_pos (mark_nn ok hr.2 hr' ht hr.1)
    by_cases e : s = t
    · subst e
      have e2 : sumL ls (mark f (s :: r) s) = sumL ls fun x => -1 * mark f r s x + 0 * mark f r s x := sumL_congr fun x _ => by
        show thr f s (act f r (unit x)) s = _
        rw [thr_self]
        show - mark f r s x = _
        omega
      rw [e2, sumL_comb] at S1
      omega
    · by_cases c : s ∈ f t
      · have ih := mark_fix hn ok hs hr.2 hr' fun x hx => by
          rw [← he x hx]
          show act f r (unit x) s = thr f t (act f r (unit x)) s
          rw [thr_cr ok c]
        rcases List.mem_cons.mp hy with rfl | hy
        · exact ok.sym _ _ c
        · exact ih y hy
      · have e2 : sumL ls (mark f (t :: r) s) = sumL ls fun x => 1 * mark f r s x + 2 * mark f r t x := sumL_congr fun x _ => by
          show thr f t (act f r (unit x)) s = _
          rw [thr_not e c]
          show mark f r s x + 2 * mark f r t x = _
          omega
        rw [e2, sumL_comb] at S1
        by_cases d : desc f s r
        · have := sumL_pos ((mark_pos ok _ r rfl hr.2 hr').2 s hs t ht e c d hr.1 1 1 (by decide) (by decide) (by decide))
          rw [sumL_comb] at this
          omega
        · have := sumL_pos (mark_nn ok hr.2 hr' hs d)
          omega
theorem mark_zero (ok : CrOk f) {x : Nat} : ∀ {w : List Nat} {s : Nat}, ¬ x ∈ w → x ≠ s → mark f w s x = 0
  | [], s, _, h => by
    show unit x s = 0
    unfold unit
    rw [if_neg fun z : s = x => h z.symm]
  | t :: r, s, hw, h => by
    have h1 : ¬ x ∈ r := fun z => hw (List.mem_cons_of_mem _ z)
    have h2 : x ≠ t := fun z => hw (z ▸ List.mem_cons_self ..)
    have e1 := mark_zero ok h1 h
    have e2 := mark_zero ok h1 h2
    show thr f t (act f r (unit x)) s = 0
    have e1 : act f r (unit x) s = 0 := e1
    have e2 : act f r (unit x) t = 0 := e2
    unfold thr
    split
    · omega
    · split <;> omega
theorem act_of_name (ok : CrOk f) (w : List Nat) (g : Nat → Int) : act f (nameOf f w).reverse g = act f w.reverse g := act_rev_eq ok (name_act ok w) g
/-- two rooms from which no door of a kind that crosses s leads back, with one mark of s, are one -/
theorem wall_uniq (hn : ls.Nodup) (ok : CrOk f) (hs : s ∈ ls) {m n : List Nat} (hm : NF f m) (hn' : NF f n) (im : ∀ y ∈ m, y ∈ ls) (in' : ∀ y ∈ n, y ∈ ls)
    (dm : ∀ t ∈ f s, ¬ desc f t m.reverse) (dn : ∀ t ∈ f s, ¬ desc f t n.reverse) (he : ∀ x ∈ ls, mark f m.reverse s x = mark f n.reverse s x) : m = n := by
  have imr : ∀ y ∈ m.reverse, y ∈ ls := fun y hy => im y (List.mem_reverse.mp hy)
  have inr' : ∀ y ∈ n.reverse, y ∈ ls := fun y hy => in' y (List.mem_reverse.mp hy)
  have au : ∀ g, act f (wayC f n m).reverse g = act f m.reverse (act f n g) := fun g => by
    unfold wayC
    rw [act_of_name ok, List.reverse_append, List.reverse_reverse, act_app]
  have iu : ∀ y ∈ (wayC f n m).reverse, y ∈ ls := fun y hy => by
    rcases List.mem_append.mp (name_mem (List.mem_reverse.mp hy)) with z | z
    · exact in' y (List.mem_reverse.mp z)
    · exact im y z
  have ru : Red f (wayC f n m).reverse := (name_NF ok _).red.rev
  have fx : ∀ x ∈ ls, mark f (wayC f n m).reverse s x = unit x s := by
    intro x hx
    show act f (wayC f n m).reverse (unit x) s = _
    rw [au, act_lin hn ok _ imr hs, sumL_congr (v := fun y => act f n (unit x) y * mark f n.reverse s y) fun y hy => by rw [he y hy], ← act_lin hn ok _ inr' hs, act_rev ok]
  have uin := mark_fix hn ok hs ru iu fx
  have hg := way_goes ok n m
  have am : ∀ g, act f m.reverse g = act f (wayC f n m).reverse (act f n.reverse g) := fun g => by
    rw [← act_app, ← List.reverse_append, ← act_of_name ok (n ++ wayC f n m), hg, act_of_name ok]
  cases hu : (wayC f n m).reverse with
  | nil =>
    have : wayC f n m = [] := by simpa using hu
    rw [this, List.append_nil] at hg
    have e1 : nameOf f n = n := (is_NF ok).mpr hn'
    have e2 : nameOf f m = m := (is_NF ok).mpr hm
    rw [e1, e2] at hg
    exact hg.symm
  | cons t r =>
    have tin : t ∈ f s := uin t (by rw [hu]; exact List.mem_cons_self ..)
    have tls : t ∈ ls := iu t (by rw [hu]; exact List.mem_cons_self ..)
    have hd : desc f t (wayC f n m).reverse := by rw [hu]; exact .inl rfl
    obtain ⟨x, hx, hp⟩ := (mark_nn ok hm.red.rev imr tls (dm t tin)).2
    have e1 : mark f m.reverse t x = sumL ls fun y => act f n.reverse (unit x) y * mark f (wayC f n m).reverse t y := by
      show act f m.reverse (unit x) t = _
      rw [am, act_lin hn ok _ iu tls]
    have e2 : (sumL ls fun y => act f n.reverse (unit x) y * mark f (wayC f n m).reverse t y) ≤ 0 := by
      refine sumL_nonpos fun y hy => ?_
      have np := mark_np ok ru iu tls hd y hy
      by_cases c : y ∈ f s
      · have := (mark_nn ok hn'.red.rev inr' hy (dn y c)).1 x hx
        have this : 0 ≤ act f n.reverse (unit x) y := this
        exact Int.mul_nonpos_of_nonneg_of_nonpos this np
      · have z := mark_zero ok (x := y) (w := (wayC f n m).reverse) (s := t) (fun z => c (uin y z)) (fun z => c (z ▸ tin))
        rw [z]
        omega
    omega
/-! ### the end of a way that may be left off -/
/-- letters out of free that may be brought ahead, and the rest -/
def splitA (f : Nat → List Nat) : List Nat → List Nat → List Nat × List Nat
  | _, [] => ([], [])
  | free, k :: r => if k ∈ free then (k :: (splitA f free r).1, (splitA f free r).2) else ((splitA f (free.filter fun o => decide (o ∈ f k)) r).1, k :: (splitA f (free.filter fun o => decide (o ∈ f k)) r).2)
theorem splitA_in (f : Nat → List Nat) : ∀ (w free : List Nat), ∀ y ∈ (splitA f free w).1, y ∈ free
  | [], _, y, hy => nomatch hy
  | k :: r, free, y, hy => by
    unfold splitA at hy
    by_cases c : k ∈ free
    · rw [if_pos c] at hy
      rcases List.mem_cons.mp hy with rfl | hy
      · exact c
      · exact splitA_in f r free y hy
    · rw [if_neg c] at hy
      exact (List.mem_filter.mp (splitA_in f r _ y hy)).1
theorem splitA_mem1 (f : Nat → List Nat) : ∀ (w free : List Nat), ∀ y ∈ (splitA f free w).1, y ∈ w
  | [], _, y, hy => nomatch hy
  | k :: r, free, y, hy => by
    unfold splitA at hy
    by_cases c : k ∈ free
    · rw [if_pos c] at hy
      rcases List.mem_cons.mp hy with rfl | hy
      · exact List.mem_cons_self ..
      · exact List.mem_cons_of_mem _ (splitA_mem1 f r free y hy)
    · rw [if_neg c] at hy
      exact List.mem_cons_of_mem _ (splitA_mem1 f r _ y hy)
theorem splitA_mem2 (f : Nat → List Nat) : ∀ (w free : List Nat), ∀ y ∈ (splitA f free w).2, y ∈ w
  | [], _, y, hy => nomatch hy
  | k :: r, free, y, hy => by
    unfold splitA at hy
    by_cases c : k ∈ free
    · rw [if_pos c] at hy
      exact List.mem_cons_of_mem _ (splitA_mem2 f r free y hy)
    · rw [if_neg c] at hy
      rcases List.mem_cons.mp hy with rfl | hy
      · exact List.mem_cons_self ..
      · exact List.mem_cons_of_mem _ (splitA_mem2 f r _ y hy)
theorem splitA_len (f : Nat → List Nat) : ∀ (w free : List Nat), (splitA f free w).1.length + (splitA f free w).2.length = w.length
  | [], _ => rfl
  | k :: r, free => by
    unfold splitA
    by_cases c : k ∈ free
    · rw [if_pos c]
      have := splitA_len f r free
      simp only [List.length_cons]
      omega
    · rw [if_neg c]
      have := splitA_len f r (free.filter fun o => decide (o ∈ f k))
      simp only [List.length_cons]
      omega
theorem splitA_nil (f : Nat → List Nat) : ∀ w : List Nat, splitA f [] w = ([], w)
  | [] => rfl
  | k :: r => by
    unfold splitA
    rw [if_neg (fun z => nomatch z)]
    show ((splitA f [] r).1, k :: (splitA f [] r).2) = _
    rw [splitA_nil f r]
theorem splitA_act (ok : CrOk f) (g : Nat → Int) : ∀ (w free : List Nat), act f ((splitA f free w).1 ++ (splitA f free w).2) g = act f w g
  | [], _ => rfl
  | k :: r, free => by
    unfold splitA
    by_cases c : k ∈ free
    · rw [if_pos c]
      show thr f k (act f ((splitA f free r).1 ++ (splitA f free r).2) g) = thr f k (act f r g)
      rw [splitA_act ok g r free]
    · rw [if_neg c]
      show act f ((splitA f _ r).1 ++ k :: (splitA f _ r).2) g = thr f k (act f r g)
      rw [← splitA_act ok g r (free.filter fun o => decide (o ∈ f k)), act_app, act_app]
      show act f (splitA f _ r).1 (thr f k (act f (splitA f _ r).2 g)) = _
      rw [act_comm ok fun y hy => of_decide_eq_true (List.mem_filter.mp (splitA_in f r _ y hy)).2]
theorem splitA_desc (ok : CrOk f) : ∀ (w free : List Nat), ∀ t ∈ free, ¬ desc f t (splitA f free w).2
  | [], _, t, _ => id
  | k :: r, free, t, ht => by
    unfold splitA
    by_cases c : k ∈ free
    · rw [if_pos c]
      exact splitA_desc ok r free t ht
    · rw [if_neg c]
      rintro (z | ⟨z1, z2⟩)
      · exact c (z ▸ ht)
      · exact splitA_desc ok r _ t (List.mem_filter.mpr ⟨ht, decide_eq_true (ok.sym _ _ z1)⟩) z2
theorem splitA_back {k : Nat} : ∀ {w free : List Nat}, (∀ y ∈ free, y ∈ f k) → desc f k (splitA f free w).2 → desc f k w
  | [], _, _, h => h
  | c :: r, free, hf, h => by
    unfold splitA at h
    by_cases e : c ∈ free
    · rw [if_pos e] at h
      exact .inr ⟨hf c e, splitA_back hf h⟩
    · rw [if_neg e] at h
      rcases h with h | ⟨h1, h2⟩
      · exact .inl h
      · exact .inr ⟨h1, splitA_back (fun y hy => hf y (List.mem_filter.mp hy).1) h2⟩
theorem okAt_rest {k : Nat} : ∀ {w free : List Nat}, (∀ y ∈ free, y ∈ f k) → okAt f k w → okAt f k (splitA f free w).2
  | [], _, _, h => h
  | c :: r, free, hf, h => by
    unfold splitA
    by_cases e : c ∈ free
    · rw [if_pos e]
      exact okAt_rest hf (h.2 (hf c e)).2
    · rw [if_neg e]
      exact ⟨h.1, fun z => ⟨(h.2 z).1, okAt_rest (fun y hy => hf y (List.mem_filter.mp hy).1) (h.2 z).2⟩⟩
theorem NFr_rest : ∀ {w free : List Nat}, NFr f w → NFr f (splitA f free w).2
  | [], _, h => h
  | c :: r, free, h => by
    unfold splitA
    by_cases e : c ∈ free
    · rw [if_pos e]
      exact NFr_rest h.2
    · rw [if_neg e]
      exact ⟨okAt_rest (fun y hy => of_decide_eq_true (List.mem_filter.mp hy).2) h.1, NFr_rest h.2⟩
theorem splitA_congr {g : Nat → List Nat} : ∀ {w free free' : List Nat}, (∀ c ∈ w, c ∈ free ↔ c ∈ free') → (∀ k ∈ w, ∀ c ∈ w, c ∈ f k ↔ c ∈ g k) → splitA f free w = splitA g free' w
  | [], _, _, _, _ => rfl
  | k :: r, free, free', h1, h2 => by
    have hk := h1 k (List.mem_cons_self ..)
    have h2' : ∀ k ∈ r, ∀ c ∈ r, c ∈ f k ↔ c ∈ g k := fun y hy c hc => h2 y (List.mem_cons_of_mem _ hy) c (List.mem_cons_of_mem _ hc)
    unfold splitA
    by_cases c : k ∈ free
    · rw [if_pos c, if_pos (hk.mp c), splitA_congr (fun y hy => h1 y (List.mem_cons_of_mem _ hy)) h2']
    · rw [if_neg c, if_neg fun z => c (hk.mpr z), splitA_congr (free' := free'.filter fun o => decide (o ∈ g k)) (fun y hy => ?_) h2']
      rw [List.mem_filter, List.mem_filter, decide_eq_true_iff, decide_eq_true_iff, h1 y (List.mem_cons_of_mem _ hy), h2 k (List.mem_cons_self ..) y (List.mem_cons_of_mem _ hy)]
/-! ### where a wall begins -/
def nearC (f : Nat → List Nat) (name : List Nat) (s : Nat) : List Nat := if desc f s name.reverse then stepOf (f s) name s else name
def startC (f : Nat → List Nat) (name : List Nat) (s : Nat) : List Nat := (splitA f (f s) (nearC f name s).reverse).2.reverse
theorem near_not (ok : CrOk f) {name : List Nat} (h : NF f name) (s : Nat) : ¬ desc f s (nearC f name s).reverse := by
  unfold nearC
  by_cases c : desc f s name.reverse
  · rw [if_pos c]
    intro z
    have l1 := (step_len_desc ok name s).1 c
    have l2 := (step_len_desc ok (stepOf (f s) name s) s).1 z
    have e : stepOf (f s) (stepOf (f s) name s) s = name := by
      have e1 : nameOf f name = name := (is_NF ok).mpr h
      have e2 := name_twice ok name s
      rw [e1] at e2
      have e3 : nameOf f (name ++ [s] ++ [s]) = stepOf (f s) (stepOf (f s) (nameOf f name) s) s := by
        show joinC f [] (name ++ [s] ++ [s]) = _
        rw [joinC_app, joinC_app]
        rfl
      rw [e3, e1] at e2
      exact e2
    rw [e] at l2
    omega
  · rw [if_neg c]
    exact c
theorem near_NF (ok : CrOk f) {name : List Nat} (h : NF f name) (s : Nat) : NF f (nearC f name s) := by
  unfold nearC
  split
  · exact NF_step ok h
  · exact h
theorem near_mem {name : List Nat} {s c : Nat} (h : c ∈ nearC f name s) : c = s ∨ c ∈ name := by
  unfold nearC at h
  split at h
  · exact stepOf_mem h
  · exact .inr h
theorem near_len (ok : CrOk f) (name : List Nat) (s : Nat) : (nearC f name s).length ≤ name.length := by
  unfold nearC
  split
  · have := (step_len_desc ok name s).1 (by assumption)
    omega
  · omega
theorem start_NF (ok : CrOk f) {name : List Nat} (h : NF f name) (s : Nat) : NF f (startC f name s) := by
  unfold startC NF
  rw [List.reverse_reverse]
  exact NFr_rest (near_NF ok h s)
theorem start_not (ok : CrOk f) {name : List Nat} (h : NF f name) (s : Nat) : ¬ desc f s (startC f name s).reverse := by
  unfold startC
  rw [List.reverse_reverse]
  exact fun z => near_not ok h s (splitA_back (fun y hy => hy) z)
theorem start_free (ok : CrOk f) (name : List Nat) (s : Nat) : ∀ t ∈ f s, ¬ desc f t (startC f name s).reverse := by
  unfold startC
  rw [List.reverse_reverse]
  exact splitA_desc ok _ _
theorem start_mem {name : List Nat} {s c : Nat} (h : c ∈ startC f name s) : c = s ∨ c ∈ name := near_mem (List.mem_reverse.mp (splitA_mem2 f _ _ c (List.mem_reverse.mp h)))
theorem start_len (ok : CrOk f) (name : List Nat) (s : Nat) : (startC f name s).length ≤ name.length := by
  unfold startC
  have := splitA_len f (nearC f name s).reverse (f s)
  have := near_len ok name s
  rw [List.length_reverse] at *
  omega
theorem mark_along (ok : CrOk f) {g : Nat → Int} {v : List Nat} : ∀ {u : List Nat}, (∀ y ∈ u, y ∈ f s) → act f (u ++ v) g s = act f v g s
  | [], _ => rfl
  | y :: u, h => by
    show thr f y (act f (u ++ v) g) s = _
    rw [thr_cr ok (ok.sym _ _ (h y (List.mem_cons_self ..))), mark_along ok fun z hz => h z (List.mem_cons_of_mem _ hz)]
theorem start_mark (ok : CrOk f) (name : List Nat) (s : Nat) (g : Nat → Int) : act f (startC f name s).reverse g s = act f (nearC f name s).reverse g s := by
  unfold startC
  rw [List.reverse_reverse, ← splitA_act ok g (nearC f name s).reverse (f s)]
  exact (mark_along ok (splitA_in f _ _)).symm
theorem near_mark (ok : CrOk f) (name : List Nat) (s : Nat) (g : Nat → Int) : act f (nearC f name s).reverse g s = if desc f s name.reverse then - act f name.reverse g s else act f name.reverse g s := by
  unfold nearC
  by_cases c : desc f s name.reverse
  · rw [if_pos c, if_pos c, act_rev_eq ok (fun g => act_step ok name s g), List.reverse_append]
    show thr f s (act f name.reverse g) s = _
    rw [thr_self]
  · rw [if_neg c, if_neg c]
/-- the mark or its opposite, whichever is not below nought -/
def posM (f : Nat → List Nat) (ls : List Nat) (w : List Nat) (s : Nat) : Nat → Int := if ∃ x ∈ ls, act f w.reverse (unit x) s < 0 then fun x => - act f w.reverse (unit x) s else fun x => act f w.reverse (unit x) s
theorem pos_start (ok : CrOk f) {w : List Nat} (hw : ∀ y ∈ w, y ∈ ls) (hs : s ∈ ls) (x : Nat) : posM f ls w s x = mark f (startC f (nameOf f w) s).reverse s x := by
  have hr := (name_NF ok w).red.rev
  have h1 := mark_neg (ls := ls) ok hr (fun y hy => hw y (name_mem (List.mem_reverse.mp hy))) hs
  show _ = act f (startC f (nameOf f w) s).reverse (unit x) s
  rw [start_mark ok, near_mark ok]
  unfold posM
  have e : (∃ x ∈ ls, act f w.reverse (unit x) s < 0) ↔ desc f s (nameOf f w).reverse := by
    rw [← h1]
    unfold mark
    simp only [act_of_name ok]
  by_cases c : desc f s (nameOf f w).reverse
  · rw [if_pos c, if_pos (e.mpr c), act_of_name ok]
  · rw [if_neg c, if_neg fun z => c (e.mp z), act_of_name ok]
/-- one wall, by the marks -/
theorem wall_iff (hn : ls.Nodup) (ok : CrOk f) (hs : s ∈ ls) {v w : List Nat} (hv : ∀ y ∈ v, y ∈ ls) (hw : ∀ y ∈ w, y ∈ ls) : startC f (nameOf f v) s = startC f (nameOf f w) s ↔ ∀ x ∈ ls, posM f ls v s x = posM f ls w s x := by
  constructor
  · intro h x _
    rw [pos_start ok hv hs, pos_start ok hw hs, h]
  · intro h
    have mem : ∀ {w : List Nat}, (∀ y ∈ w, y ∈ ls) → ∀ y ∈ startC f (nameOf f w) s, y ∈ ls := fun hw y hy => (start_mem hy).elim (fun z => z ▸ hs) fun z => hw y (name_mem z)
    refine wall_uniq hn ok hs (start_NF ok (name_NF ok v) s) (start_NF ok (name_NF ok w) s) (mem hv) (mem hw) (start_free ok _ s) (start_free ok _ s) fun x hx => ?_
    rw [← pos_start ok hv hs, ← pos_start ok hw hs]
    exact h x hx
end
end Cw
set_option Elab.async false
set_option linter.all false
set_option maxRecDepth 100000
set_option maxHeartbeats 4000000
/-! more of walls in plain words -/
namespace Cw
section
variable {f : Nat → List Nat} {ls : List Nat} {s t : Nat}
/-- a door from its other side -/
theorem pos_thr (ok : CrOk f) {w : List Nat} (hw : ∀ y ∈ w, y ∈ ls) (hs : s ∈ ls) : posM f ls (w ++ [s]) s = posM f ls w s := by
  have hr := (name_NF ok w).red.rev
  have hm : ∀ y ∈ (nameOf f w).reverse, y ∈ ls := fun y hy => hw y (name_mem (List.mem_reverse.mp hy))
  have e1 : ∀ x, act f (w ++ [s]).reverse (unit x) s = - act f w.reverse (unit x) s := fun x => by
    rw [List.reverse_append]
    show thr f s (act f w.reverse (unit x)) s = _
    rw [thr_self]
  have e2 : ∀ x, mark f (nameOf f w).reverse s x = act f w.reverse (unit x) s := fun x => by
    unfold mark
    rw [act_of_name ok]
  unfold posM
  simp only [e1]
  by_cases c : desc f s (nameOf f w).reverse
  · have h1 := mark_np ok hr hm hs c
    have h2 := (mark_neg (ls := ls) ok hr hm hs).mpr c
    simp only [e2] at h1 h2
    rw [if_pos h2, if_neg]
    rintro ⟨x, hx, z⟩
    have := h1 x hx
    omega
  · have h1 := mark_nn ok hr hm hs c
    obtain ⟨h1, x, hx, h2⟩ := h1
    simp only [e2] at h1 h2
    rw [if_pos ⟨x, hx, by omega⟩, if_neg]
    · funext y
      omega
    · rintro ⟨y, hy, z⟩
      have := h1 y hy
      omega
theorem wall_thr (hn : ls.Nodup) (ok : CrOk f) (hs : s ∈ ls) {w : List Nat} (hw : ∀ y ∈ w, y ∈ ls) : startC f (nameOf f (w ++ [s])) s = startC f (nameOf f w) s := by
  refine (wall_iff hn ok hs (fun y hy => ?_) hw).mpr fun x _ => by rw [pos_thr ok hw hs]
  rcases List.mem_append.mp hy with z | z
  · exact hw y z
  · rw [List.mem_singleton.mp z]
    exact hs
end
end Cw
set_option Elab.async false
set_option linter.all false
set_option maxRecDepth 100000
set_option maxHeartbeats 4000000
/-! rooms beyond a wall, by the marks of the doors of a shortest way -/
namespace Cw
section
variable {f : Nat → List Nat} {ls : List Nat} {s c : Nat}
theorem act_swap (hn : ls.Nodup) (ok : CrOk f) {m p : List Nat} (hm : ∀ y ∈ m, y ∈ ls) (hp : ∀ y ∈ p, y ∈ ls) (hs : s ∈ ls) (hc : c ∈ ls) (he : ∀ x ∈ ls, act f p.reverse (unit x) c = act f m.reverse (unit x) s) (g : Nat → Int) : act f m.reverse g s = act f p.reverse g c := by
  rw [act_lin hn ok g (fun y hy => hm y (List.mem_reverse.mp hy)) hs, act_lin hn ok g (fun y hy => hp y (List.mem_reverse.mp hy)) hc]
  exact sumL_congr fun x hx => by
    show g x * act f m.reverse (unit x) s = g x * act f p.reverse (unit x) c
    rw [he x hx]
/-- a door of the way in the wall: the room at the end is beyond it -/
theorem beyond_of (hn : ls.Nodup) (ok : CrOk f) {m p q : List Nat} (hr : Red f (p ++ c :: q)) (hm : ∀ y ∈ m, y ∈ ls) (hpq : ∀ y ∈ p ++ c :: q, y ∈ ls) (hs : s ∈ ls) (he : ∀ x ∈ ls, act f p.reverse (unit x) c = act f m.reverse (unit x) s) : desc f s (wayC f m (p ++ c :: q)) := by
  have hp : ∀ y ∈ p, y ∈ ls := fun y hy => hpq y (List.mem_append_left _ hy)
  have hc : c ∈ ls := hpq c (List.mem_append_right _ (List.mem_cons_self ..))
  have hq : ∀ y ∈ q, y ∈ ls := fun y hy => hpq y (List.mem_append_right _ (List.mem_cons_of_mem _ hy))
  have hw : ∀ y ∈ wayC f m (p ++ c :: q), y ∈ ls := fun y hy => by
    rcases List.mem_append.mp (name_mem hy) with z | z
    · exact hm y (List.mem_reverse.mp z)
    · exact hpq y z
  have rr := Red_right hr
  obtain ⟨x, hx, hpos⟩ := (mark_nn ok rr.2 hq hc rr.1).2
  refine (mark_neg ok (name_NF ok _).red hw hs).mp ⟨x, hx, ?_⟩
  show act f (nameOf f (m.reverse ++ (p ++ c :: q))) (unit x) s < 0
  rw [name_act ok, act_app, act_swap hn ok hm hp hs hc he, act_app, act_rev ok]
  show thr f c (act f q (unit x)) c < 0
  rw [thr_self]
  have : 0 < act f q (unit x) c := hpos
  omega
theorem int_one {k t : Int} (h : k * t = 1) (hk : 0 < k) : k = 1 := by
  have ht : 0 < t := by
    rcases Int.lt_or_le 0 t with z | z
    · exact z
    · have := Int.mul_nonpos_of_nonneg_of_nonpos (Int.le_of_lt hk) z
      omega
  have h1 : k * 1 ≤ k * t := Int.mul_le_mul_of_nonneg_left (by omega) (by omega)
  omega
theorem unit_thr {x e : Nat} (hx : x ≠ c) : thr f c (unit x) e = unit x e := by
  have h0 : unit x c = 0 := by
    unfold unit
    rw [if_neg hx.symm]
  unfold thr
  by_cases h : e = c
  · rw [if_pos h, h, h0]
    rfl
  · rw [if_neg h]
    split
    · rfl
    · rw [h0]
      omega
/-- what stands on one side of all, in a word -/
theorem sign_def (ok : CrOk f) {w : List Nat} (hw : ∀ y ∈ w, y ∈ ls) (hs : s ∈ ls) : Pos ls (mark f w s) ∨ ((∀ x ∈ ls, mark f w s x ≤ 0) ∧ ∃ x ∈ ls, mark f w s x < 0) := by
  have hm : ∀ y ∈ nameOf f w, y ∈ ls := fun y hy => hw y (name_mem hy)
  have hr := (name_NF ok w).red
  have e : ∀ x, mark f (nameOf f w) s x = mark f w s x := fun x => by
    unfold mark
    rw [name_act ok]
  by_cases d : desc f s (nameOf f w)
  · right
    have h1 := mark_np ok hr hm hs d
    have h2 := (mark_neg (ls := ls) ok hr hm hs).mpr d
    simp only [e] at h1 h2
    exact ⟨h1, h2⟩
  · left
    exact (mark_nn ok hr hm hs d).congr fun x _ => (e x).symm
/-- the room at the end is beyond the wall: a door of the way lies in it -/
theorem beyond_door (hn : ls.Nodup) (ok : CrOk f) {m : List Nat} (hm : ∀ y ∈ m, y ∈ ls) (hs : s ∈ ls) (hm0 : Pos ls (mark f m.reverse s)) : ∀ (n : List Nat), (∀ y ∈ n, y ∈ ls) → desc f s (wayC f m n) → ∃ i, i < n.length ∧ ∀ x ∈ ls, act f (n.take i).reverse (unit x) (n.getD i 0) = act f m.reverse (unit x) s := by
  intro n hn' hd
  -- the first place where the sign turns
  have key : ∀ k, k ≤ n.length → (∃ i, i < k ∧ Pos ls (mark f (m.reverse ++ n.take i) s) ∧ ¬ Pos ls (mark f (m.reverse ++ n.take (i + 1)) s)) ∨ Pos ls (mark f (m.reverse ++ n.take k) s) := by
    intro k
    induction k with
    | zero =>
      intro _
      right
      rw [List.take_zero, List.append_nil]
      exact hm0
    | succ k ih =>
      intro hk
      rcases ih (by omega) with ⟨i, h1, h2, h3⟩ | h
      · exact .inl ⟨i, by omega, h2, h3⟩
      · by_cases c : Pos ls (mark f (m.reverse ++ n.take (k + 1)) s)
        · exact .inr c
        · exact .inl ⟨k, by omega, h, c⟩
  have last : ¬ Pos ls (mark f (m.reverse ++ n.take n.length) s) := by
    rw [List.take_length]
    intro z
    have hw : ∀ y ∈ wayC f m n, y ∈ ls := fun y hy => by
      rcases List.mem_append.mp (name_mem hy) with z | z
      · exact hm y (List.mem_reverse.mp z)
      · exact hn' y z
    obtain ⟨x, hx, h⟩ := (mark_neg (ls := ls) ok (name_NF ok _).red hw hs).mpr hd
    have h : act f (nameOf f (m.reverse ++ n)) (unit x) s < 0 := h
    rw [name_act ok] at h
    have := z.1 x hx
    have this : 0 ≤ act f (m.reverse ++ n) (unit x) s := this
    omega
  rcases key n.length (Nat.le_refl _) with ⟨i, hi, h1, h2⟩ | h
  · refine ⟨i, hi, ?_⟩
    have tk : n.take (i + 1) = n.take i ++ [n.getD i 0] := by
      rw [List.take_succ_eq_append_getElem hi, List.getD_eq_getElem?_getD, List.getElem?_eq_getElem hi]
      rfl
    have hc : n.getD i 0 ∈ ls := hn' _ (by
      rw [List.getD_eq_getElem?_getD, List.getElem?_eq_getElem hi]
      exact List.getElem_mem hi)
    have hp : ∀ y ∈ n.take i, y ∈ ls := fun y hy => hn' y (List.mem_of_mem_take hy)
    rw [tk] at h2
    generalize n.getD i 0 = c at h2 hc
    generalize n.take i = p at h1 h2 hp
    have hz : ∀ y ∈ m.reverse ++ p, y ∈ ls := fun y hy => (List.mem_append.mp hy).elim (fun z => hm y (List.mem_reverse.mp z)) (hp y)
    have hz2 : ∀ y ∈ m.reverse ++ (p ++ [c]), y ∈ ls := fun y hy => by
      rw [← List.append_assoc] at hy
      rcases List.mem_append.mp hy with z | z
      · exact hz y z
      · rw [List.mem_singleton.mp z]
        exact hc
    have np := (sign_def ok hz2 hs).resolve_left h2
    have eq0 : ∀ x ∈ ls, x ≠ c → mark f (m.reverse ++ p) s x = 0 := by
      intro x hx hxc
      have a1 := h1.1 x hx
      have a2 := np.1 x hx
      have e : mark f (m.reverse ++ (p ++ [c])) s x = mark f (m.reverse ++ p) s x := by
        unfold mark
        rw [← List.append_assoc, act_app]
        show act f (m.reverse ++ p) (thr f c (unit x)) s = _
        rw [show thr f c (unit x) = unit x from funext fun e => unit_thr hxc]
      omega
    have kpos : 0 < mark f (m.reverse ++ p) s c := by
      obtain ⟨x, hx, h⟩ := h1.2
      by_cases e : x = c
      · rw [← e]
        exact h
      · have := eq0 x hx e
        omega
    have lin : ∀ g, act f (m.reverse ++ p) g s = mark f (m.reverse ++ p) s c * g c := by
      intro g
      rw [act_lin hn ok g hz hs]
      have e2 : sumL ls (fun x => g x * mark f (m.reverse ++ p) s x) = sumL ls fun x => (mark f (m.reverse ++ p) s c * g x) * unit x c := sumL_congr fun x hx => by
        unfold unit
        by_cases e : c = x
        · rw [if_pos e, ← e, Int.mul_one, Int.mul_comm]
        · rw [if_neg e, eq0 x hx fun z => e z.symm]
          omega
      rw [e2]
      exact sumL_unit (g := fun x => mark f (m.reverse ++ p) s c * g x) hn hc
    have one : mark f (m.reverse ++ p) s c = 1 := by
      have h := lin (act f (m.reverse ++ p).reverse (unit s))
      rw [act_rev' ok] at h
      have hu : unit s s = 1 := if_pos rfl
      rw [hu] at h
      exact int_one h.symm kpos
    intro x hx
    have h := lin (act f p.reverse (unit x))
    rw [act_app, act_rev' ok, one, Int.one_mul] at h
    exact h.symm
  · exact absurd h last
/-- the rooms beyond a wall -/
theorem beyond_iff (hn : ls.Nodup) (ok : CrOk f) {m n : List Nat} (hm : ∀ y ∈ m, y ∈ ls) (hmn : NF f m) (hs : s ∈ ls) (hm0 : ¬ desc f s m.reverse) (hnn : NF f n) (hn' : ∀ y ∈ n, y ∈ ls) : desc f s (wayC f m n) ↔ ∃ i, i < n.length ∧ ∀ x ∈ ls, act f (n.take i).reverse (unit x) (n.getD i 0) = act f m.reverse (unit x) s := by
  constructor
  · exact beyond_door hn ok hm hs (mark_nn ok hmn.red.rev (fun y hy => hm y (List.mem_reverse.mp hy)) hs hm0) n hn'
  · rintro ⟨i, hi, he⟩
    have e : n = n.take i ++ n.getD i 0 :: n.drop (i + 1) := by
      rw [List.getD_eq_getElem?_getD, List.getElem?_eq_getElem hi]
      show n = n.take i ++ n[i] :: n.drop (i + 1)
      rw [← List.drop_eq_getElem_cons hi, List.take_append_drop]
    have := beyond_of (c := n.getD i 0) (p := n.take i) (q := n.drop (i + 1)) hn ok (by rw [← e]; exact hnn.red) hm (by rw [← e]; exact hn') hs he
    rw [← e] at this
    exact this
end
end Cw
set_option Elab.async false
set_option linter.all false
set_option maxRecDepth 100000
set_option maxHeartbeats 4000000
/-! the middle of three rooms, in plain words -/
namespace Cw
section
variable {f : Nat → List Nat} {ls : List Nat} {s t c : Nat}
/-- the mark has a coordinate below nought -/
def Ng (f : Nat → List Nat) (ls : List Nat) (w : List Nat) (s : Nat) : Prop := ∃ x ∈ ls, mark f w s x < 0
theorem ng_desc (ok : CrOk f) {w : List Nat} (hr : Red f w) (hw : ∀ y ∈ w, y ∈ ls) (hs : s ∈ ls) : Ng f ls w s ↔ desc f s w := mark_neg ok hr hw hs
theorem ng_name (ok : CrOk f) (w : List Nat) (s : Nat) : Ng f ls (nameOf f w) s ↔ Ng f ls w s := by
  unfold Ng mark
  simp only [name_act ok]
theorem ng_act {v w : List Nat} (h : ∀ g, act f v g = act f w g) (s : Nat) : Ng f ls v s ↔ Ng f ls w s := by
  unfold Ng mark
  simp only [h]
theorem not_ng (ok : CrOk f) {w : List Nat} (hw : ∀ y ∈ w, y ∈ ls) (hs : s ∈ ls) : ¬ Ng f ls w s ↔ Pos ls (mark f w s) := by
  constructor
  · intro h
    exact (sign_def ok hw hs).resolve_right fun z => h z.2
  · rintro ⟨h1, _⟩ ⟨x, hx, z⟩
    have := h1 x hx
    omega
theorem ng_np (ok : CrOk f) {w : List Nat} (hw : ∀ y ∈ w, y ∈ ls) (hs : s ∈ ls) (h : Ng f ls w s) : ∀ x ∈ ls, mark f w s x ≤ 0 := by
  rcases sign_def ok hw hs with z | z
  · exact absurd h ((not_ng ok hw hs).mpr z)
  · exact z.1
/-- two unlike kinds that do not cross, behind a way -/
theorem pos_two (ok : CrOk f) {w : List Nat} (hw : ∀ y ∈ w, y ∈ ls) (hs : s ∈ ls) (ht : t ∈ ls) (ne : s ≠ t) (nc : ¬ s ∈ f t) (hp : Pos ls (mark f w t)) : Pos ls fun x => mark f w s x + 2 * mark f w t x := by
  have hm : ∀ y ∈ nameOf f w, y ∈ ls := fun y hy => hw y (name_mem hy)
  have hr := (name_NF ok w).red
  have e : ∀ s x, mark f (nameOf f w) s x = mark f w s x := fun s x => by
    unfold mark
    rw [name_act ok]
  have hd : ¬ desc f t (nameOf f w) := fun z => by
    have := (mark_neg (ls := ls) ok hr hm ht).mpr z
    simp only [e] at this
    obtain ⟨x, hx, z⟩ := this
    have := hp.1 x hx
    omega
  by_cases d : desc f s (nameOf f w)
  · have := (mark_pos ok _ _ rfl hr hm).2 s hs t ht ne nc d hd 1 2 (by decide) (by decide) (by decide)
    refine this.congr fun x _ => ?_
    rw [e, e]
    omega
  · have h1 := mark_nn ok hr hm hs d
    have := h1.comb (mark_nn ok hr hm ht hd) (show (0 : Int) ≤ 1 by decide) (show (0 : Int) < 2 by decide)
    refine this.congr fun x _ => ?_
    rw [e, e]
    omega
theorem desc_left {s : Nat} {b : List Nat} : ∀ {a : List Nat}, desc f s a → desc f s (a ++ b)
  | [], h => h.elim
  | y :: a, h => by
    rcases h with h | ⟨h1, h2⟩
    · exact .inl h
    · exact .inr ⟨h1, desc_left h2⟩
theorem Red_left {b : List Nat} : ∀ {a : List Nat}, Red f (a ++ b) → Red f a
  | [], _ => trivial
  | y :: a, h => ⟨fun z => h.1 (desc_left z), Red_left h.2⟩
/-- a wall that two ways go through: a door with which both may begin -/
theorem both_first (ok : CrOk f) {v : List Nat} (hv : ∀ y ∈ v, y ∈ ls) : ∀ (pr q : List Nat) (s : Nat), Red f (pr.reverse ++ s :: q) → (∀ y ∈ pr.reverse ++ s :: q, y ∈ ls) → Ng f ls (pr ++ v) s → ∃ t ∈ ls, desc f t (pr.reverse ++ s :: q) ∧ Ng f ls v t := by
  intro pr
  induction pr with
  | nil =>
    intro q s hr hm hn
    exact ⟨s, hm s (List.mem_cons_self ..), .inl rfl, hn⟩
  | cons t pr ih =>
    intro q s hr hm hn
    have e1 : (t :: pr).reverse ++ s :: q = pr.reverse ++ t :: s :: q := by rw [List.reverse_cons, List.append_assoc]; rfl
    rw [e1] at hr hm ⊢
    obtain ⟨p, rfl⟩ : ∃ p : List Nat, pr = p.reverse := ⟨pr.reverse, (List.reverse_reverse _).symm⟩
    rw [List.reverse_reverse] at hr hm ih ⊢
    have ht : t ∈ ls := hm t (List.mem_append_right _ (List.mem_cons_self ..))
    have hs : s ∈ ls := hm s (List.mem_append_right _ (List.mem_cons_of_mem _ (List.mem_cons_self ..)))
    have hp : ∀ y ∈ p, y ∈ ls := fun y hy => hm y (List.mem_append_left _ hy)
    have rr := Red_right hr
    have ne : s ≠ t := fun z => rr.1 (.inl z)
    have hpv : ∀ y ∈ p.reverse ++ v, y ∈ ls := fun y hy => (List.mem_append.mp hy).elim (fun z => hp y (List.mem_reverse.mp z)) (hv y)
    have hn : Ng f ls (t :: (p.reverse ++ v)) s := hn
    by_cases c : s ∈ f t
    · -- the two letters are exchanged
      have e2 : ∀ g, act f (p ++ s :: t :: q) g = act f (p ++ t :: s :: q) g := fun g => by
        rw [act_app, act_app]
        show act f p (thr f s (thr f t (act f q g))) = act f p (thr f t (thr f s (act f q g)))
        rw [thr_comm ok c]
      have hm2 : ∀ y ∈ p ++ s :: t :: q, y ∈ ls := fun y hy => by
        rcases List.mem_append.mp hy with z | z
        · exact hp y z
        · rcases List.mem_cons.mp z with z | z
          · exact z ▸ hs
          · rcases List.mem_cons.mp z with z | z
            · exact z ▸ ht
            · exact hm y (List.mem_append_right _ (List.mem_cons_of_mem _ (List.mem_cons_of_mem _ z)))
      have hr2 : Red f (p ++ s :: t :: q) := by
        have c' := ok.sym _ _ c
        have key : ∀ y w, desc f y (s :: t :: w) ↔ desc f y (t :: s :: w) := by
          intro y w
          constructor
          · rintro (rfl | ⟨a, rfl | ⟨b, d⟩⟩)
            · exact .inr ⟨c', .inl rfl⟩
            · exact .inl rfl
            · exact .inr ⟨b, .inr ⟨a, d⟩⟩
          · rintro (rfl | ⟨a, rfl | ⟨b, d⟩⟩)
            · exact .inr ⟨c, .inl rfl⟩
            · exact .inl rfl
            · exact .inr ⟨b, .inr ⟨a, d⟩⟩
        have key2 : ∀ (p : List Nat) y, desc f y (p ++ s :: t :: q) ↔ desc f y (p ++ t :: s :: q) := by
          intro p
          induction p with
          | nil => exact fun y => key y q
          | cons z p ih2 =>
            intro y
            show (z = y ∨ (z ∈ f y ∧ desc f y (p ++ _))) ↔ (z = y ∨ (z ∈ f y ∧ desc f y (p ++ _)))
            rw [ih2]
        have key3 : ∀ p : List Nat, Red f (p ++ t :: s :: q) → Red f (p ++ s :: t :: q) := by
          intro p
          induction p with
          | nil =>
            rintro ⟨h1, h2, h3⟩
            refine ⟨?_, fun z => h1 (.inr ⟨c, z⟩), h3⟩
            rintro (z | ⟨_, z⟩)
            · exact ne z.symm
            · exact h2 z
          | cons z p ih2 =>
            rintro ⟨h1, h2⟩
            exact ⟨fun d => h1 ((key2 p z).mp d), ih2 h2⟩
        exact key3 p hr
      have hn2 : Ng f ls (p.reverse ++ v) s := by
        obtain ⟨x, hx, z⟩ := hn
        refine ⟨x, hx, ?_⟩
        have e3 : mark f (t :: (p.reverse ++ v)) s x = mark f (p.reverse ++ v) s x := by
          show thr f t (act f (p.reverse ++ v) (unit x)) s = _
          rw [thr_cr ok c]
          rfl
        omega
      obtain ⟨y, hy, d, n⟩ := ih (t :: q) s hr2 hm2 hn2
      refine ⟨y, hy, ?_, n⟩
      rw [← ng_desc ok hr2 hm2 hy] at d
      rw [← ng_desc ok hr hm hy]
      exact (ng_act e2 y).mp d
    · refine ih (s :: q) t hr hm ?_
      apply Classical.byContradiction
      intro z
      have hp2 := pos_two ok hpv hs ht ne c ((not_ng ok hpv ht).mp z)
      obtain ⟨x, hx, n⟩ := hn
      have e3 : mark f (t :: (p.reverse ++ v)) s x = mark f (p.reverse ++ v) s x + 2 * mark f (p.reverse ++ v) t x := by
        show thr f t (act f (p.reverse ++ v) (unit x)) s = _
        rw [thr_not ne c]
        rfl
      have : 0 ≤ mark f (p.reverse ++ v) s x + 2 * mark f (p.reverse ++ v) t x := hp2.1 x hx
      omega
/-- where the sign turns along a way, one door of the way lies in the wall -/
theorem turn_door (hn : ls.Nodup) (ok : CrOk f) {z : List Nat} (hz : ∀ y ∈ z, y ∈ ls) (hs : s ∈ ls) : ∀ (u : List Nat), (∀ y ∈ u, y ∈ ls) → ¬ (Ng f ls z s ↔ Ng f ls (z ++ u) s) → ∃ p c q, u = p ++ c :: q ∧ ((∀ g, act f (z ++ p) g s = g c) ∨ (∀ g, act f (z ++ p) g s = - g c)) := by
  intro u hu h
  -- the first place where the sign turns
  have key : ∀ (p q : List Nat), u = p ++ q → ¬ (Ng f ls (z ++ p) s ↔ Ng f ls (z ++ u) s) → ∃ p c q, u = p ++ c :: q ∧ ¬ (Ng f ls (z ++ p) s ↔ Ng f ls (z ++ (p ++ [c])) s) := by
    intro p q
    induction q generalizing p with
    | nil =>
      intro e h
      rw [List.append_nil] at e
      rw [e] at h
      exact absurd Iff.rfl h
    | cons c q ih =>
      intro e h
      by_cases d : Ng f ls (z ++ p) s ↔ Ng f ls (z ++ (p ++ [c])) s
      · refine ih (p ++ [c]) (by rw [e, List.append_assoc]; rfl) fun w => h (d.trans w)
      · exact ⟨p, c, q, e, d⟩
  obtain ⟨p, c, q, e, d⟩ := key [] u rfl (by rw [List.append_nil]; exact h)
  refine ⟨p, c, q, e, ?_⟩
  subst e
  have hc : c ∈ ls := hu c (List.mem_append_right _ (List.mem_cons_self ..))
  have hzp : ∀ y ∈ z ++ p, y ∈ ls := fun y hy => (List.mem_append.mp hy).elim (hz y) fun w => hu y (List.mem_append_left _ w)
  have hzc : ∀ y ∈ z ++ (p ++ [c]), y ∈ ls := fun y hy => by
    rw [← List.append_assoc] at hy
    rcases List.mem_append.mp hy with w | w
    · exact hzp y w
    · rw [List.mem_singleton.mp w]
      exact hc
  have same : ∀ x, x ≠ c → mark f (z ++ (p ++ [c])) s x = mark f (z ++ p) s x := fun x hx => by
    unfold mark
    rw [← List.append_assoc, act_app]
    show act f (z ++ p) (thr f c (unit x)) s = _
    rw [show thr f c (unit x) = unit x from funext fun e => unit_thr hx]
  have eq0 : ∀ x ∈ ls, x ≠ c → mark f (z ++ p) s x = 0 := by
    intro x hx hxc
    have e := same x hxc
    by_cases n : Ng f ls (z ++ p) s
    · have n2 : ¬ Ng f ls (z ++ (p ++ [c])) s := fun w => d ⟨fun _ => w, fun _ => n⟩
      have a1 := ng_np ok hzp hs n x hx
      have a2 := ((not_ng ok hzc hs).mp n2).1 x hx
      omega
    · have n2 : Ng f ls (z ++ (p ++ [c])) s := Classical.byContradiction fun w => d ⟨fun a => absurd a n, fun a => absurd a w⟩
      have a1 := ((not_ng ok hzp hs).mp n).1 x hx
      have a2 := ng_np ok hzc hs n2 x hx
      omega
  have lin : ∀ g, act f (z ++ p) g s = mark f (z ++ p) s c * g c := by
    intro g
    rw [act_lin hn ok g hzp hs]
    have e2 : sumL ls (fun x => g x * mark f (z ++ p) s x) = sumL ls fun x => (mark f (z ++ p) s c * g x) * unit x c := sumL_congr fun x hx => by
      unfold unit
      by_cases e : c = x
      · rw [if_pos e, ← e, Int.mul_one, Int.mul_comm]
      · rw [if_neg e, eq0 x hx fun w => e w.symm]
        omega
    rw [e2]
    exact sumL_unit (g := fun x => mark f (z ++ p) s c * g x) hn hc
  have h1 := lin (act f (z ++ p).reverse (unit s))
  rw [act_rev' ok] at h1
  have hu1 : unit s s = 1 := if_pos rfl
  rw [hu1] at h1
  rcases Int.lt_or_le 0 (mark f (z ++ p) s c) with k0 | k0
  · have one := int_one h1.symm k0
    exact .inl fun g => by rw [lin, one, Int.one_mul]
  · have hk : mark f (z ++ p) s c ≠ 0 := fun w => by rw [w] at h1; omega
    have one : - mark f (z ++ p) s c = 1 := int_one (t := - act f (z ++ p).reverse (unit s) c) (by rw [Int.neg_mul_neg]; exact h1.symm) (by omega)
    exact .inr fun g => by
      rw [lin]
      have : mark f (z ++ p) s c = -1 := by omega
      rw [this]
      omega
/-- the sign turns along two ways: they may begin alike -/
theorem turn_two (hn : ls.Nodup) (ok : CrOk f) {z u v : List Nat} (hz : ∀ y ∈ z, y ∈ ls) (hs : s ∈ ls) (hu : ∀ y ∈ u, y ∈ ls) (hv : ∀ y ∈ v, y ∈ ls) (ru : Red f u) (rv : Red f v) (h1 : ¬ (Ng f ls z s ↔ Ng f ls (z ++ u) s)) (h2 : ¬ (Ng f ls z s ↔ Ng f ls (z ++ v) s)) : ∃ t ∈ ls, desc f t u ∧ desc f t v := by
  obtain ⟨p, c, q, rfl, hg⟩ := turn_door hn ok hz hs u hu h1
  have hc : c ∈ ls := hu c (List.mem_append_right _ (List.mem_cons_self ..))
  have hp : ∀ y ∈ p.reverse, y ∈ ls := fun y hy => hu y (List.mem_append_left _ (List.mem_reverse.mp hy))
  have hpv : ∀ y ∈ p.reverse ++ v, y ∈ ls := fun y hy => (List.mem_append.mp hy).elim (hp y) (hv y)
  -- the mark of the door
  have pos : Pos ls (mark f p.reverse c) := by
    have : Red f (p ++ [c]) := by
      have h : Red f ((p ++ [c]) ++ q) := by rw [List.append_assoc]; exact ru
      exact Red_left h
    have h2 := this.rev
    rw [List.reverse_append] at h2
    exact mark_nn ok h2.2 hp hc h2.1
  have ez : ∀ g, act f z g s = act f (z ++ p) (act f p.reverse g) s := fun g => by rw [act_app, act_rev' ok]
  have ev : ∀ x, mark f (z ++ v) s x = act f z (act f v (unit x)) s := fun x => by unfold mark; rw [act_app]
  have nv : Ng f ls (p.reverse ++ v) c := by
    apply Classical.byContradiction
    intro w
    have pw := (not_ng ok hpv hc).mp w
    apply h2
    have e5 : ∀ x, mark f (p.reverse ++ v) c x = act f p.reverse (act f v (unit x)) c := fun x => by unfold mark; rw [act_app]
    rcases hg with hg | hg
    · have a1 : ¬ Ng f ls z s := by
        rintro ⟨x, hx, w⟩
        have w : act f z (unit x) s < 0 := w
        rw [ez, hg] at w
        have := pos.1 x hx
        have this : 0 ≤ act f p.reverse (unit x) c := this
        omega
      have a2 : ¬ Ng f ls (z ++ v) s := by
        rintro ⟨x, hx, w⟩
        rw [ev, ez, hg] at w
        have := pw.1 x hx
        rw [e5] at this
        omega
      exact ⟨fun a => absurd a a1, fun a => absurd a a2⟩
    · have a1 : Ng f ls z s := by
        obtain ⟨x, hx, w⟩ := pos.2
        refine ⟨x, hx, ?_⟩
        show act f z (unit x) s < 0
        rw [ez, hg]
        have w : 0 < act f p.reverse (unit x) c := w
        omega
      have a2 : Ng f ls (z ++ v) s := by
        obtain ⟨x, hx, w⟩ := pw.2
        refine ⟨x, hx, ?_⟩
        rw [ev, ez, hg]
        rw [e5] at w
        omega
      exact ⟨fun _ => a2, fun _ => a1⟩
  obtain ⟨t, ht, d, n⟩ := both_first ok hv p.reverse q c (by rw [List.reverse_reverse]; exact ru) (by rw [List.reverse_reverse]; exact hu) nv
  rw [List.reverse_reverse] at d
  exact ⟨t, ht, d, (ng_desc ok rv hv ht).mp n⟩
end
end Cw
set_option Elab.async false
set_option linter.all false
set_option maxRecDepth 100000
set_option maxHeartbeats 4000000
/-! the room between each two of three -/
namespace Cw
section
variable {f : Nat → List Nat} {ls : List Nat} {s t k : Nat}
theorem red_of_len (ok : CrOk f) {w : List Nat} (h : (nameOf f w).length = w.length) : Red f w := by
  rw [Red_iff]
  intro p t q r e hq
  have e2 : nameOf f w = nameOf f (p ++ (q ++ r)) := name_eq ok fun g => by
    rw [e]
    simp only [act_app]
    show act f p (thr f t (act f (q ++ t :: r) g)) = _
    rw [act_app]
    show act f p (thr f t (act f q (thr f t (act f r g)))) = _
    rw [act_comm ok hq, thr_thr ok]
  have l1 := name_len f (p ++ (q ++ r))
  rw [← e2, h, e] at l1
  simp only [List.length_append, List.length_cons] at l1
  omega
/-- one letter less -/
theorem erase_desc (ok : CrOk f) {w : List Nat} (h : desc f k w) : ∃ p q, w = p ++ k :: q ∧ (∀ y ∈ p, y ∈ f k) ∧ w.erase k = p ++ q := by
  obtain ⟨p, q, rfl, hp⟩ := desc_split h
  refine ⟨p, q, rfl, hp, ?_⟩
  rw [List.erase_append_right _ fun z => ok.irr k (hp k z), List.erase_cons_head]
theorem desc_pop {p q : List Nat} (ne : k ≠ t) : ∀ {p : List Nat}, desc f t (p ++ k :: q) → desc f t (p ++ q)
  | [], h => by
    rcases h with h | ⟨_, h⟩
    · exact absurd h ne
    · exact h
  | y :: p, h => by
    rcases h with h | ⟨h1, h2⟩
    · exact .inl h
    · exact .inr ⟨h1, desc_pop (p := p) ne h2⟩
theorem erase_keep (ok : CrOk f) {w : List Nat} (h : desc f k w) (ne : k ≠ t) (ht : desc f t w) : desc f t (w.erase k) := by
  obtain ⟨p, q, rfl, hp, e⟩ := erase_desc ok h
  rw [e]
  exact desc_pop (p := p) (q := q) ne ht
theorem erase_red (ok : CrOk f) {w : List Nat} (h : desc f k w) (hr : Red f w) : Red f (w.erase k) := by
  obtain ⟨p, q, rfl, hp, e⟩ := erase_desc ok h
  rw [e]
  exact Red_out ok hp hr
theorem erase_act (ok : CrOk f) {w : List Nat} (h : desc f k w) (g : Nat → Int) : act f (k :: w.erase k) g = act f w g := by
  obtain ⟨p, q, rfl, hp, e⟩ := erase_desc ok h
  rw [e]
  show thr f k (act f (p ++ q) g) = _
  rw [act_app, act_app]
  show _ = act f p (thr f k (act f q g))
  rw [act_comm ok hp]
theorem erase_len {w : List Nat} (h : desc f k w) : (w.erase k).length + 1 = w.length := by
  obtain ⟨p, q, rfl, hp⟩ := desc_split h
  have : k ∈ p ++ k :: q := List.mem_append_right _ (List.mem_cons_self ..)
  rw [List.length_erase_of_mem this]
  have : 0 < (p ++ k :: q).length := by rw [List.length_append, List.length_cons]; omega
  omega
/-- what is in common at the beginning of two ways, and the rests -/
structure Share (f : Nat → List Nat) (ls u v fd u' v' : List Nat) : Prop where
  au : ∀ g, act f u g = act f (fd ++ u') g
  av : ∀ g, act f v g = act f (fd ++ v') g
  ru : Red f u'
  rv : Red f v'
  mu : ∀ y ∈ u', y ∈ ls
  mv : ∀ y ∈ v', y ∈ ls
  mf : ∀ y ∈ fd, y ∈ ls
  lu : fd.length + u'.length = u.length
  lv : fd.length + v'.length = v.length
theorem Share.start {u v : List Nat} (ru : Red f u) (rv : Red f v) (mu : ∀ y ∈ u, y ∈ ls) (mv : ∀ y ∈ v, y ∈ ls) : Share f ls u v [] u v := ⟨fun _ => rfl, fun _ => rfl, ru, rv, mu, mv, fun _ z => (nomatch z), by simp, by simp⟩
theorem Share.step (ok : CrOk f) {u v fd u' v' : List Nat} (h : Share f ls u v fd u' v') (hk : k ∈ ls) (hu : desc f k u') (hv : desc f k v') : Share f ls u v (fd ++ [k]) (u'.erase k) (v'.erase k) where
  au := fun g => by rw [h.au, List.append_assoc, act_app, act_app]; show _ = act f fd (act f (k :: u'.erase k) g); rw [erase_act ok hu]
  av := fun g => by rw [h.av, List.append_assoc, act_app, act_app]; show _ = act f fd (act f (k :: v'.erase k) g); rw [erase_act ok hv]
  ru := erase_red ok hu h.ru
  rv := erase_red ok hv h.rv
  mu := fun y hy => h.mu y (List.mem_of_mem_erase hy)
  mv := fun y hy => h.mv y (List.mem_of_mem_erase hy)
  mf := fun y hy => (List.mem_append.mp hy).elim (h.mf y) fun z => by rw [List.mem_singleton.mp z]; exact hk
  lu := by
    have := erase_len hu
    have := h.lu
    rw [List.length_append, List.length_singleton]
    omega
  lv := by
    have := erase_len hv
    have := h.lv
    rw [List.length_append, List.length_singleton]
    omega
/-- the middle of three rooms, by all walls -/
structure Mid (f : Nat → List Nat) (ls a b c M : List Nat) : Prop where
  nf : NF f M
  mem : ∀ y ∈ M, y ∈ ls
  by' : ∀ z : List Nat, (∀ y ∈ z, y ∈ ls) → ∀ s ∈ ls, (Ng f ls (z ++ M) s ↔ (Ng f ls (z ++ a) s ∧ Ng f ls (z ++ b) s) ∨ (Ng f ls (z ++ a) s ∧ Ng f ls (z ++ c) s) ∨ (Ng f ls (z ++ b) s ∧ Ng f ls (z ++ c) s))
theorem ng_nil {s : Nat} : ¬ Ng f ls [] s := by
  rintro ⟨x, _, h⟩
  have h : unit x s < 0 := h
  unfold unit at h
  split at h <;> omega
theorem ng_back (ok : CrOk f) (m : List Nat) (s : Nat) : ¬ Ng f ls (m.reverse ++ m) s := fun z => ng_nil (f := f) (ls := ls) (s := s) ((ng_act (w := []) (fun g => by rw [act_app, act_rev ok]; rfl) s).mp z)
/-- rooms that no wall parts are one -/
theorem room_uniq (ok : CrOk f) {M N : List Nat} (hM : NF f M) (hN : NF f N) (mM : ∀ y ∈ M, y ∈ ls) (mN : ∀ y ∈ N, y ∈ ls) (h : ∀ s ∈ ls, ¬ Ng f ls (M.reverse ++ N) s) : M = N := by
  have hw : ∀ y ∈ wayC f M N, y ∈ ls := fun y hy => by
    rcases List.mem_append.mp (name_mem hy) with z | z
    · exact mM y (List.mem_reverse.mp z)
    · exact mN y z
  have e : wayC f M N = [] := by
    cases hc : wayC f M N with
    | nil => rfl
    | cons t r =>
      exfalso
      have ht : t ∈ ls := hw t (by rw [hc]; exact List.mem_cons_self ..)
      refine h t ht ((ng_name ok _ t).mp ((ng_desc ok (name_NF ok _).red hw ht).mpr ?_))
      show desc f t (wayC f M N)
      rw [hc]
      exact .inl rfl
  have := way_goes ok M N
  rw [e, List.append_nil] at this
  have e1 : nameOf f M = M := (is_NF ok).mpr hM
  have e2 : nameOf f N = N := (is_NF ok).mpr hN
  rw [e1, e2] at this
  exact this
theorem Mid.uniq (ok : CrOk f) {a b c a' b' c' M N : List Nat} (h : Mid f ls a b c M) (h' : Mid f ls a' b' c' N)
    (hp : ∀ z : List Nat, (∀ y ∈ z, y ∈ ls) → ∀ s ∈ ls, (((Ng f ls (z ++ a) s ∧ Ng f ls (z ++ b) s) ∨ (Ng f ls (z ++ a) s ∧ Ng f ls (z ++ c) s) ∨ (Ng f ls (z ++ b) s ∧ Ng f ls (z ++ c) s)) ↔ ((Ng f ls (z ++ a') s ∧ Ng f ls (z ++ b') s) ∨ (Ng f ls (z ++ a') s ∧ Ng f ls (z ++ c') s) ∨ (Ng f ls (z ++ b') s ∧ Ng f ls (z ++ c') s)))) : M = N := by
  refine room_uniq (ls := ls) ok h.nf h'.nf h.mem h'.mem fun s hs z => ng_back (ls := ls) ok M s ?_
  have mz : ∀ y ∈ M.reverse, y ∈ ls := fun y hy => h.mem y (List.mem_reverse.mp hy)
  exact (h.by' _ mz s hs).mpr ((hp _ mz s hs).mpr ((h'.by' _ mz s hs).mp z))
/-- the middle by what is in common at the beginning -/
theorem mid_of (hn : ls.Nodup) (ok : CrOk f) {a b c fd u' v' : List Nat} (ma : ∀ y ∈ a, y ∈ ls) (mb : ∀ y ∈ b, y ∈ ls) (mc : ∀ y ∈ c, y ∈ ls) (h : Share f ls (wayC f a b) (wayC f a c) fd u' v') (hd : ∀ t ∈ ls, ¬ (desc f t u' ∧ desc f t v')) : Mid f ls a b c (nameOf f (a ++ fd)) := by
  have redL : ∀ {w x : List Nat}, (∀ g, act f (nameOf f w) g = act f (fd ++ x) g) → fd.length + x.length = (nameOf f w).length → Red f (fd ++ x) := by
    intro w x e l
    refine red_of_len ok ?_
    rw [← name_eq ok e, name_name ok, List.length_append, l]
  have r1 : Red f (fd ++ u') := redL h.au h.lu
  have r2 : Red f (fd ++ v') := redL h.av h.lv
  have mfr : ∀ y ∈ fd.reverse, y ∈ ls := fun y hy => h.mf y (List.mem_reverse.mp hy)
  have rf : Red f fd.reverse := (Red_left r1).rev
  have noc : ∀ {x : List Nat}, Red f (fd ++ x) → ∀ t, ¬ (desc f t fd.reverse ∧ desc f t x) := by
    rintro x hr t ⟨d1, d2⟩
    obtain ⟨p1, q1, e1, h1⟩ := desc_split d1
    obtain ⟨p2, q2, e2, h2⟩ := desc_split d2
    have e3 := congrArg List.reverse e1
    rw [List.reverse_reverse] at e3
    refine Red_iff.mp hr q1.reverse t (p1.reverse ++ p2) q2 ?_ fun y hy => (List.mem_append.mp hy).elim (fun z => h1 y (List.mem_reverse.mp z)) (h2 y)
    rw [e3, e2]
    simp
  refine ⟨name_NF ok _, fun y hy => (List.mem_append.mp (name_mem hy)).elim (ma y) (h.mf y), fun z hz s hs => ?_⟩
  have mM : ∀ y ∈ a ++ fd, y ∈ ls := fun y hy => (List.mem_append.mp hy).elim (ma y) (h.mf y)
  have mZ : ∀ y ∈ z ++ (a ++ fd), y ∈ ls := fun y hy => (List.mem_append.mp hy).elim (hz y) (mM y)
  have n0 : Ng f ls (z ++ nameOf f (a ++ fd)) s ↔ Ng f ls (z ++ (a ++ fd)) s := ng_act (fun g => by rw [act_app, act_app, name_act ok]) s
  have na : Ng f ls (z ++ a) s ↔ Ng f ls (z ++ (a ++ fd) ++ fd.reverse) s := ng_act (fun g => by simp only [act_app]; rw [act_rev' ok]) s
  have nb : Ng f ls (z ++ b) s ↔ Ng f ls (z ++ (a ++ fd) ++ u') s := ng_act (fun g => by
    simp only [act_app]
    have e := h.au g
    unfold wayC at e
    rw [name_act ok, act_app, act_app] at e
    rw [← e, act_rev' ok]) s
  have nc : Ng f ls (z ++ c) s ↔ Ng f ls (z ++ (a ++ fd) ++ v') s := ng_act (fun g => by
    simp only [act_app]
    have e := h.av g
    unfold wayC at e
    rw [name_act ok, act_app, act_app] at e
    rw [← e, act_rev' ok]) s
  rw [n0, na, nb, nc]
  have t1 : ¬ (¬ (Ng f ls (z ++ (a ++ fd)) s ↔ Ng f ls (z ++ (a ++ fd) ++ u') s) ∧ ¬ (Ng f ls (z ++ (a ++ fd)) s ↔ Ng f ls (z ++ (a ++ fd) ++ v') s)) := fun ⟨x, y⟩ => by
    obtain ⟨t, ht, d⟩ := turn_two hn ok mZ hs h.mu h.mv h.ru h.rv x y
    exact hd t ht d
  have t2 : ¬ (¬ (Ng f ls (z ++ (a ++ fd)) s ↔ Ng f ls (z ++ (a ++ fd) ++ fd.reverse) s) ∧ ¬ (Ng f ls (z ++ (a ++ fd)) s ↔ Ng f ls (z ++ (a ++ fd) ++ u') s)) := fun ⟨x, y⟩ => by
    obtain ⟨t, ht, d⟩ := turn_two hn ok mZ hs mfr h.mu rf h.ru x y
    exact noc r1 t d
  have t3 : ¬ (¬ (Ng f ls (z ++ (a ++ fd)) s ↔ Ng f ls (z ++ (a ++ fd) ++ fd.reverse) s) ∧ ¬ (Ng f ls (z ++ (a ++ fd)) s ↔ Ng f ls (z ++ (a ++ fd) ++ v') s)) := fun ⟨x, y⟩ => by
    obtain ⟨t, ht, d⟩ := turn_two hn ok mZ hs mfr h.mv rf h.rv x y
    exact noc r2 t d
  by_cases x0 : Ng f ls (z ++ (a ++ fd)) s <;> by_cases x1 : Ng f ls (z ++ (a ++ fd) ++ fd.reverse) s <;> by_cases x2 : Ng f ls (z ++ (a ++ fd) ++ u') s <;> by_cases x3 : Ng f ls (z ++ (a ++ fd) ++ v') s <;> simp only [x0, x1, x2, x3, iff_true, iff_false, true_iff, false_iff, not_true, not_false_iff, and_true, true_and, and_false, false_and, or_true, true_or, or_false, false_or, and_self, not_false_eq_true, iff_self] at t1 t2 t3 ⊢
end
end Cw
set_option Elab.async false
set_option linter.all false
set_option maxRecDepth 100000
set_option maxHeartbeats 4000000
/-! ways that become one another by exchanging crossing neighbours -/
namespace Cw
/-- one exchange of neighbours -/
inductive Sw (f : Nat → List Nat) : List Nat → List Nat → Prop
  | mk (a b : List Nat) (x y : Nat) (h : y ∈ f x) : Sw f (a ++ x :: y :: b) (a ++ y :: x :: b)
inductive Ex (f : Nat → List Nat) (u : List Nat) : List Nat → Prop
  | refl : Ex f u u
  | step {v w : List Nat} : Ex f u v → Sw f v w → Ex f u w
section
variable {f : Nat → List Nat} {ls u v w : List Nat}
theorem Ex.trans (h : Ex f u v) (h2 : Ex f v w) : Ex f u w := by
  induction h2 with
  | refl => exact h
  | step _ s ih => exact .step ih s
theorem Ex.perm (h : Ex f u v) : v.Perm u := by
  induction h with
  | refl => exact .refl _
  | step _ s ih =>
    cases s with
    | mk a b x y _ => exact (List.Perm.append_left a (List.Perm.swap x y b)).trans ih
theorem Ex.len (h : Ex f u v) : v.length = u.length := h.perm.length_eq
theorem Ex.act (ok : CrOk f) (h : Ex f u v) (g : Nat → Int) : act f v g = act f u g := by
  induction h with
  | refl => rfl
  | step _ s ih =>
    cases s with
    | mk a b x y hxy =>
      rw [← ih, act_app, act_app]
      congr 1
      show thr f y (thr f x (Cw.act f b g)) = thr f x (thr f y (Cw.act f b g))
      exact thr_comm ok hxy
theorem Ex.name (ok : CrOk f) (h : Ex f u v) : nameOf f v = nameOf f u := name_eq ok (h.act ok)
/-- a letter goes back over letters that it crosses -/
theorem Ex.move (ok : CrOk f) {s : Nat} {r : List Nat} : ∀ {q p : List Nat}, (∀ y ∈ q, y ∈ f s) → Ex f (p ++ (q ++ s :: r)) (p ++ s :: (q ++ r)) := by
  intro q
  induction q with
  | nil => exact fun _ => .refl
  | cons y q ih =>
    intro p h
    have h1 : Ex f ((p ++ [y]) ++ (q ++ s :: r)) ((p ++ [y]) ++ s :: (q ++ r)) := ih fun z hz => h z (List.mem_cons_of_mem _ hz)
    have e1 : (p ++ [y]) ++ (q ++ s :: r) = p ++ (y :: q ++ s :: r) := by simp
    have e2 : (p ++ [y]) ++ s :: (q ++ r) = p ++ y :: s :: (q ++ r) := by simp
    rw [e1, e2] at h1
    exact h1.step (.mk p (q ++ r) y s (ok.sym _ _ (h y (List.mem_cons_self ..))))
/-- a letter goes on over letters that it crosses -/
theorem Ex.back (ok : CrOk f) {s : Nat} {r : List Nat} : ∀ {q p : List Nat}, (∀ y ∈ q, y ∈ f s) → Ex f (p ++ s :: (q ++ r)) (p ++ (q ++ s :: r)) := by
  intro q
  induction q with
  | nil => exact fun _ => .refl
  | cons y q ih =>
    intro p h
    have h1 : Ex f ((p ++ [y]) ++ s :: (q ++ r)) ((p ++ [y]) ++ (q ++ s :: r)) := ih fun z hz => h z (List.mem_cons_of_mem _ hz)
    have e1 : (p ++ [y]) ++ s :: (q ++ r) = p ++ y :: s :: (q ++ r) := by simp
    have e2 : (p ++ [y]) ++ (q ++ s :: r) = p ++ (y :: q ++ s :: r) := by simp
    rw [e1, e2] at h1
    exact (Ex.step .refl (.mk p (q ++ r) s y (h y (List.mem_cons_self ..)))).trans h1
/-- no two equal neighbours anywhere in the class -/
def Clean (f : Nat → List Nat) (u : List Nat) : Prop := ∀ v, Ex f u v → ¬ ∃ a x b, v = a ++ x :: x :: b
theorem Clean.red (ok : CrOk f) (h : Clean f u) : Red f u := by
  refine Red_iff.mpr fun p t q r e hq => h _ ?_ ⟨p, t, q ++ r, rfl⟩
  rw [e]
  have := Ex.move (f := f) ok (s := t) (r := r) (q := q) (p := p ++ [t]) hq
  simpa using this
theorem Clean.ex (h : Clean f u) (e : Ex f u v) : Clean f v := fun w hw => h w (e.trans hw)
/-- the first one of the class is the name -/
theorem Clean.first (ok : CrOk f) (h : Clean f u) {m : List Nat} (hm : Ex f u m) (hl : ∀ v, Ex f u v → ¬ v < m) : m = nameOf f u := by
  have nf : NF f m := NF.of_two fun p q r t s e hq => by
    have mv := Ex.move (f := f) ok (s := s) (r := r) (q := q) (p := p ++ [t]) hq
    have e1 : (p ++ [t]) ++ (q ++ s :: r) = m := by rw [e]; simp
    have e2 : (p ++ [t]) ++ s :: (q ++ r) = p ++ t :: s :: (q ++ r) := by simp
    rw [e1, e2] at mv
    have ne : t ≠ s := fun z => by
      subst z
      exact h _ (hm.trans mv) ⟨p, t, q ++ r, rfl⟩
    refine ⟨ne, fun ht => ?_⟩
    rcases Nat.lt_or_gt_of_ne ne with l | l
    · exact l
    · refine absurd ?_ (hl _ ((hm.trans mv).step (.mk p (q ++ r) t s (ok.sym _ _ ht))))
      rw [e]
      exact List.append_left_lt (List.cons_lt_cons_iff.mpr (.inl l))
  rw [← hm.name ok]
  exact ((is_NF ok).mpr nf).symm
/-- the last letters of the class are the doors back -/
theorem Clean.last (ok : CrOk f) (h : Clean f u) (hu : ∀ y ∈ u, y ∈ ls) {c : Nat} (hc : c ∈ ls) : desc f c (nameOf f u).reverse ↔ ∃ v, Ex f u (v ++ [c]) := by
  have ng : ∀ {v : List Nat}, Ex f u v → (desc f c v.reverse ↔ desc f c (nameOf f u).reverse) := fun {v} hv => by
    have rv := (h.ex hv).red ok
    have mv : ∀ y ∈ v, y ∈ ls := fun y hy => hu y (hv.perm.mem_iff.mp hy)
    rw [← ng_desc ok rv.rev (fun y hy => mv y (List.mem_reverse.mp hy)) hc, ← ng_desc ok (name_NF ok u).red.rev (fun y hy => hu y (name_mem (List.mem_reverse.mp hy))) hc]
    refine ng_act (fun g => ?_) c
    refine act_rev_eq ok (fun g => ?_) g
    rw [hv.act ok, name_act ok]
  constructor
  · intro d
    have d := (ng .refl).mpr d
    obtain ⟨p, q, e, hp⟩ := desc_split d
    have e2 : u = q.reverse ++ c :: p.reverse := by
      have := congrArg List.reverse e
      rw [List.reverse_reverse] at this
      rw [this]
      simp
    refine ⟨q.reverse ++ p.reverse, ?_⟩
    have b := Ex.back (f := f) ok (s := c) (r := []) (q := p.reverse) (p := q.reverse) fun y hy => hp y (List.mem_reverse.mp hy)
    rw [List.append_nil] at b
    rw [e2, List.append_assoc]
    exact b
  · rintro ⟨v, hv⟩
    refine (ng hv).mp ?_
    rw [List.reverse_append, List.reverse_singleton]
    exact .inl rfl
/-! ### taking out two equal neighbours -/
def shorten : List Nat → List Nat
  | x :: y :: r => if x = y then r else x :: shorten (y :: r)
  | l => l
theorem shorten_cases : ∀ w : List Nat, (shorten w = w ∧ ¬ ∃ a x b, w = a ++ x :: x :: b) ∨ ∃ a x b, w = a ++ x :: x :: b ∧ shorten w = a ++ b
  | [] => .inl ⟨rfl, by rintro ⟨a, x, b, e⟩; have := congrArg List.length e; simp at this⟩
  | [z] => .inl ⟨rfl, by
      rintro ⟨a, x, b, e⟩
      have := congrArg List.length e
      simp at this
      omega⟩
  | x :: y :: r => by
    by_cases c : x = y
    · subst c
      exact .inr ⟨[], x, r, rfl, if_pos rfl⟩
    · have e1 : shorten (x :: y :: r) = x :: shorten (y :: r) := if_neg c
      rcases shorten_cases (y :: r) with ⟨h1, h2⟩ | ⟨a, z, b, h1, h2⟩
      · refine .inl ⟨by rw [e1, h1], ?_⟩
        rintro ⟨a, z, b, e⟩
        cases a with
        | nil =>
          injection e with e1 e2
          injection e2 with e2 _
          exact c (e1.trans e2.symm)
        | cons t a =>
          injection e with _ e2
          exact h2 ⟨a, z, b, e2⟩
      · exact .inr ⟨x :: a, z, b, by rw [h1]; rfl, by rw [e1, h2]; rfl⟩
theorem shorten_name (ok : CrOk f) (w : List Nat) : nameOf f (shorten w) = nameOf f w := by
  rcases shorten_cases w with ⟨h, _⟩ | ⟨a, x, b, h1, h2⟩
  · rw [h]
  · rw [h2, h1]
    refine name_eq ok fun g => ?_
    rw [act_app, act_app]
    congr 1
    show _ = thr f x (thr f x (act f b g))
    rw [thr_thr ok]
theorem shorten_mem {w : List Nat} {c : Nat} (h : c ∈ shorten w) : c ∈ w := by
  rcases shorten_cases w with ⟨h1, _⟩ | ⟨a, x, b, h1, h2⟩
  · rw [← h1]
    exact h
  · rw [h2] at h
    rw [h1]
    rcases List.mem_append.mp h with z | z
    · exact List.mem_append_left _ z
    · exact List.mem_append_right _ (List.mem_cons_of_mem _ (List.mem_cons_of_mem _ z))
theorem shorten_len {w : List Nat} (h : shorten w ≠ w) : (shorten w).length + 2 = w.length := by
  rcases shorten_cases w with ⟨h1, _⟩ | ⟨a, x, b, h1, h2⟩
  · exact absurd h1 h
  · rw [h2]
    conv => rhs; rw [h1]
    simp
    omega
end
end Cw
set_option Elab.async false
set_option linter.all false
set_option maxRecDepth 100000
set_option maxHeartbeats 4000000
/-! sorted of texts, any number of them -/
namespace Cw
open PySem PySem.Spec L2 PyProof.Rows SrtO
/-- the codes of a text -/
def sv : Value → List Nat
  | .str x _ => x.cps.toList
  | _ => []
def ltSv (v u : Value) : Bool := decide (sv v < sv u)
theorem swo_str : Swo ltSv := by
  refine ⟨fun x y h => ?_, fun x y z h1 h2 => ?_⟩
  · have a := of_decide_eq_true (p := sv x < sv y) h
    exact decide_eq_false (p := sv y < sv x) (List.lt_asymm a)
  · have a := of_decide_eq_false (p := sv y < sv x) h1
    have b := of_decide_eq_false (p := sv z < sv y) h2
    exact decide_eq_false (p := sv z < sv x) fun c => by
      by_cases d : sv z < sv y
      · exact b d
      · exact a (List.lt_of_le_of_lt (List.not_lt.mp d) c)
section
variable {prog : Program} {w : World} {A : Around} {s : Shared}
theorem str_sortable {a : Addr} {vs : List Value} {ss : List Str} (hS : StrsAre vs ss) (h2 : 2 ≤ vs.length) : SortableO prog w A s a vs ltSv := by
  intro h' _
  refine ⟨oneType', fun Q E hq => ?_, fun p q hm hm' => ?_⟩
  · match vs, hS, h2 with
    | v1 :: v2 :: rest, hS, _ =>
      rw [keyKind_strs hS]
      exact wpAny_pure hq
    | [], _, h => exact absurd h (by decide)
    | [v], _, h => exact absurd h (by simp)
  · obtain ⟨x, t, e⟩ := hS.all _ hm
    obtain ⟨y, u, e'⟩ := hS.all _ hm'
    show wpAny (model prog w) A (keyLt' oneType' p.1 q.1) (fun r s' => s' = { s with heap := h' } ∧ r = ltSv p.1 q.1) (fun _ _ => False) { s with heap := h' }
    rw [e, e', keyLt'_oneType]
    exact oneLt_str ⟨rfl, rfl⟩
end
theorem sv_str {vs : List Value} {ls : List (List Nat)} (h : StrsAre vs (ls.map tx)) : vs.map sv = ls := by
  have key : ∀ {vs : List Value} {ss : List Str}, StrsAre vs ss → vs.map sv = ss.map fun x => x.cps.toList := by
    intro vs ss h
    induction h with
    | nil => rfl
    | cons x t r ih => rw [List.map_cons, List.map_cons, ih]; rfl
  rw [key h, List.map_map]
  have : ((fun x : Str => x.cps.toList) ∘ tx) = id := funext fun l => rfl
  rw [this, List.map_id]
theorem str_sv {vs : List Value} (h : ∀ v ∈ vs, ∃ x t, v = Value.str x t) : StrsAre vs ((vs.map sv).map tx) := by
  have e : (vs.map sv).map tx = vs.map strOf := by
    rw [List.map_map]
    refine List.map_congr_left fun v hv => ?_
    obtain ⟨x, t, rfl⟩ := h v hv
    show tx x.cps.toList = x
    exact tx_eq.symm
  rw [e]
  exact strsAre_map vs h
/-- sorted(xs), texts, any number of them -/
def rSortedS (K : PySem.W.Frag) : List V → Hp → VK → Prop := fun vs H Q => ∃ (a : Addr) (ls : List (List Nat)), vs = [V.ref a] ∧ SqL K H a (ls.map fun l => V.str (tx l)) ∧
  ∀ (ls' : List (List Nat)) (p : Addr), ls'.Perm ls → ls'.Pairwise (fun a b => ¬ b < a) → H p = none → Q (.ref p) (upd H p (.lst (ls'.map fun l => V.str (tx l))))
theorem map_tx (ls : List (List Nat)) : (ls.map fun l => V.str (tx l)) = (ls.map tx).map V.str := by rw [List.map_map]; rfl
section
variable {X : Cx}
theorem cr_sortedT : CallR X (.builtin "sorted") (rSortedS X.K) := by
  intro pins s σ H vs us Q I r h
  obtain ⟨a, ls, rfl, hs, q⟩ := h
  rw [map_tx] at hs
  obtain ⟨its, rv, hl, hz⟩ := I.list hs
  rw [Vals.ref1 r]
  have hi := rv.strs
  refine sorted_ord swo_str hl.isList (by rw [← rv.length]; exact hz) (fun h2 h₁ a' _ _ => str_sortable hi h2) fun out h1 h2 => ?_
  have all := fun v hv => hi.all v (h2.perm.mem_iff.mp hv)
  have k1 : StrsAre out ((out.map sv).map tx) := str_sv all
  have k2 : (out.map sv).Perm ls := by
    have := h2.perm.map sv
    rw [sv_str hi] at this
    exact this
  have k3 : (out.map sv).Pairwise (fun a b => ¬ b < a) := List.pairwise_map.mpr (h1.imp fun {x y} h => of_decide_eq_false (p := sv y < sv x) h)
  obtain ⟨ep, he'⟩ := sortedAll_at s.heap its out.toArray
  have hlen : (((out.map sv).map tx).map V.str).length ≤ sizeLine := by
    rw [List.length_map, List.length_map, k2.length_eq]
    rw [List.length_map, List.length_map] at hz
    exact hz
  have q := q _ (s.heap.objs.size + 1) k2 k3 (I.hok.fresh (Nat.le_succ _))
  rw [map_tx] at q
  exact ⟨.ref _, upd H (s.heap.objs.size + 1) (.lst (((out.map sv).map tx).map V.str)), I.laid (t' := s.toks) (fun _ _ => sortedAll_old) (Nat.le_succ _) ⟨hlen, out, ep, vals_of_strs k1, he'⟩, rfl, q⟩
end
end Cw
set_option Elab.async false
set_option linter.all false
set_option maxRecDepth 100000
set_option maxHeartbeats 4000000
/-! sets of texts that can be walked: set(a list of texts), sorted(set(..)) -/
namespace Cw
open PySem PySem.Spec L2 PyProof.Rows SrtO
def strK (e : Int × Value) : Str := match e.2 with | .str x _ => x | _ => Str.empty
def GoodS (P : Program) (w : World) (e : Int × Value) : Prop := ∃ x t, e.2 = Value.str x t ∧ e.1 = (PySem.strKind P w).hash x
/-- the set at a holds just the texts of l, each once -/
def SetS (P : Program) (w : World) (h : Heap) (a : Addr) (l : List Str) : Prop :=
  ∃ o es ep t, h.get? a = some o ∧ o.ExactSet ∧ o.data = .set es ep t ∧ (∀ e ∈ es.toList, GoodS P w e) ∧ (es.toList.map strK).Perm l ∧ l.Nodup ∧
    es.size < scanBound ∧ t.fits es.size = true ∧ Ris t.place.toList ∧ (w.params.followText "set-order" = true ∨ t.led = true)
section
variable {P : Program} {w : World} {h h' : Heap} {a : Addr} {l : List Str}
theorem SetS.at (R : SetS P w h a l) (k : ∀ o, h.get? a = some o → h'.get? a = some o) : SetS P w h' a l := by
  obtain ⟨o, es, ep, t, ho, r⟩ := R
  exact ⟨o, es, ep, t, k o ho, r⟩
theorem goodS_elems {es : List (Int × Value)} (g : ∀ e ∈ es, GoodS P w e) : ElemsOf (PySem.strKind P w) es := fun e he => by
  obtain ⟨k, tk, h1, h2⟩ := g e he
  exact ⟨⟨k, by rw [h1]; exact strKind_is P w k tk, h2⟩, by rw [h1] <;> rfl⟩
theorem goodS_is {e : Int × Value} (g : GoodS P w e) (k : Str) : (PySem.strKind P w).is k e.2 = true ↔ strK e = k := by
  obtain ⟨k0, tk, h1, _⟩ := g
  unfold strK
  rw [h1]
  show ((k0 == k) = true) ↔ k0 = k
  exact beq_iff_eq
theorem goodS_mem {es : List (Int × Value)} (g : ∀ e ∈ es, GoodS P w e) (k : Str) : k ∈ es.map strK ↔ ∃ e ∈ es, (PySem.strKind P w).is k e.2 = true := by
  rw [List.mem_map]
  constructor
  · rintro ⟨e, he, q⟩
    exact ⟨e, he, (goodS_is (g e he) k).2 q⟩
  · rintro ⟨e, he, q⟩
    exact ⟨e, he, (goodS_is (g e he) k).1 q⟩
end
section
variable {P : Program} {w : World} {A : Around} {E : Value → Shared → Prop} {s : Shared} {a : Addr} {l : List Str}
theorem setS_add_tail {g : Bool → Sem Unit} (hg : ∀ (b : Bool) (s₁ : Shared) (Q' : Unit → Shared → Prop), Q' () s₁ → wpAny (model P w) A (g b) Q' E s₁)
    {o : Obj} {es : Array (Int × Value)} {ep : Nat} {t : SetTable} (ho : s.heap.get? a = some o) (hex : o.ExactSet) (hd : o.data = .set es ep t)
    {es1 : Array (Int × Value)} {t2 : SetTable} {l' : List Str} (g1 : ∀ e ∈ es1.toList, GoodS P w e) (pl : (es1.toList.map strK).Perm l') (nd1 : l'.Nodup)
    (hb1 : es1.size < scanBound) (hf2 : t2.fits es1.size = true) (hr : Ris t2.place.toList) (hl : w.params.followText "set-order" = true ∨ t2.led = true) {wasDummy : Bool} {R : Option Bool → Shared → Prop}
    (hR : ∀ h', Heap.SameBut a s.heap h' → SetS P w h' a l' → R (some true) { s with heap := h' }) :
    wpAny (model P w) A (do
        storeSet a es1 t2
        if (!wasDummy && t2.tooFull) = true then do
            g (relayAll t2 es1 (SetTable.grown es1.size)).2.2
            storeSet a (relayAll t2 es1 (SetTable.grown es1.size)).1 (relayAll t2 es1 (SetTable.grown es1.size)).2.1
            pure (some true)
          else pure (some true)) R E s := by
  refine wpAny_bind (wpAny_storeSet_of ho hd ?_ (fits_of_scanBound hb1))
  have ho1 := store_at (es' := es1) (t' := t2) ho hd
  have sb1 := Heap.SameBut.update s.heap a (Obj.putSet es1 t2)
  split
  · have pm := relayAll_perm t2 es1 (SetTable.grown es1.size)
    have hf3 := relayAll_fits t2 es1 (SetTable.grown es1.size)
    have hr3 := relayAll_ris t2 es1 (SetTable.grown es1.size)
    have hl3 := relayAll_led t2 es1 (SetTable.grown es1.size)
    generalize relayAll t2 es1 (SetTable.grown es1.size) = Z at pm hf3 hr3 hl3 ⊢
    obtain ⟨es2, t3, gave⟩ := Z
    dsimp only at pm hf3 hr3 hl3 ⊢
    have hsz : es2.size = es1.size := by rw [← Array.length_toList, pm.length_eq, Array.length_toList]
    have hb2 : es2.size < scanBound := by rw [hsz]; exact hb1
    refine wpAny_bind (hg _ _ _ ?_)
    refine wpAny_bind (wpAny_storeSet_of ho1 rfl ?_ (fits_of_scanBound hb2))
    have ho2 := store_at (es' := es2) (t' := t3) ho1 rfl
    refine wpAny_pure (hR _ (sb1.trans (Heap.SameBut.update _ a _)) ?_)
    exact ⟨_, es2, _, t3, ho2, hex, rfl, fun e he => g1 e (pm.mem_iff.mp he), (pm.map strK).trans pl, nd1, hb2, hf3, hr3, hl.imp id fun z => by rw [hl3]; exact z⟩
  · exact wpAny_pure (hR _ sb1 ⟨_, es1, _, t2, ho1, hex, rfl, g1, pl, nd1, hb1, hf2, hr, hl⟩)
theorem setS_add_hashed {k : Str} {tk : Tok} {Q : Bool → Shared → Prop} (R : SetS P w s.heap a l) (room : l.length + 1 < scanBound)
    (hQ : ∀ h' b, Heap.SameBut a s.heap h' → SetS P w h' a (metAdd l k) → Q b { s with heap := h' }) :
    wpAny (model P w) A (setAddHashed a (.str k tk) ((PySem.strKind P w).hash k)) Q E s := by
  obtain ⟨o, es, ep, t, ho, hex, hd, g, pl, nd, hb, hf, hr, hl⟩ := R
  have hkey : (PySem.strKind P w).is k (.str k tk) = true := strKind_is P w k tk
  have hsc : (Value.str k tk).scannable = true := rfl
  have hel : ElemsOf (PySem.strKind P w) es.toList := goodS_elems g
  unfold setAddHashed setAddHashedIn
  refine wpAny_holding (wpAny_bind (wpAny_setState_of ho hd hf ?_))
  dsimp only
  rw [byScan_of hsc hb hel]
  simp only [↓reduceIte]
  unfold setAddByScan
  refine wpAny_bind ?_
  refine wpAny_bind (wpAny_rule ?_)
  refine wpAny_bind (wpAny_setScan_of hkey ho hd hf hel ?_)
  cases hfi : List.findIdx? (fun e => (PySem.strKind P w).is k e.2) es.toList with
  | some j =>
    dsimp only
    obtain ⟨hj, pj, _⟩ := List.findIdx?_eq_some_iff_getElem.mp hfi
    have hk : k ∈ l := pl.mem_iff.mp ((goodS_mem (P := P) (w := w) g k).2 ⟨es.toList[j], List.getElem_mem hj, pj⟩)
    refine wpAny_pure (wpAny_pure ?_)
    refine hQ s.heap _ (Heap.SameBut.refl a s.heap) ⟨o, es, ep, t, ho, hex, hd, g, ?_, ?_, hb, hf, hr, hl⟩
    · unfold metAdd
      rw [if_pos hk]
      exact pl
    · unfold metAdd
      rw [if_pos hk]
      exact nd
  | none =>
    dsimp only
    have hnk : k ∉ es.toList.map strK := fun z => by
      obtain ⟨e, he, q⟩ := (goodS_mem (P := P) (w := w) g k).1 z
      have c := List.findIdx?_eq_none_iff.mp hfi e he
      rw [q] at c
      cases c
    have hkl : k ∉ l := fun z => hnk (pl.mem_iff.mpr z)
    have hgw : ∀ (b : Bool) {s₁ : Shared} {Q' : Unit → Shared → Prop}, Q' () s₁ → wpAny (model P w) A (match b with | true => rule "set.scan.the-table-gave-way" | false => pure ()) Q' E s₁ :=
      fun b s₁ Q' q => by cases b <;> first | exact wpAny_pure q | exact wpAny_rule q
    have pm := layNew_perm t es ((PySem.strKind P w).hash k) (.str k tk)
    have hf1 := layNew_fits t es ((PySem.strKind P w).hash k) (.str k tk)
    have hr1 := layNew_ris t es ((PySem.strKind P w).hash k) (.str k tk) hr
    have hl1 := layNew_led t es ((PySem.strKind P w).hash k) (.str k tk)
    generalize layNew t es ((PySem.strKind P w).hash k) (.str k tk) = Z at pm hf1 hr1 hl1 ⊢
    obtain ⟨es1, t1, wasDummy, gave⟩ := Z
    dsimp only at pm hf1 hr1 hl1 ⊢
    rw [Array.toList_push] at pm
    have pc : es1.toList.Perm (((PySem.strKind P w).hash k, Value.str k tk) :: es.toList) := pm.trans (List.perm_append_singleton _ _)
    have pk : (es1.toList.map strK).Perm (k :: es.toList.map strK) := pc.map strK
    have g1 : ∀ e ∈ es1.toList, GoodS P w e := fun e he => by
      rcases List.mem_cons.mp (pc.mem_iff.mp he) with z | z
      · rw [z]; exact ⟨k, tk, rfl, rfl⟩
      · exact g e z
    have eA : metAdd l k = l ++ [k] := if_neg hkl
    have pl1 : (es1.toList.map strK).Perm (metAdd l k) := by
      rw [eA]
      exact (pk.trans (pl.cons k)).trans (List.perm_append_singleton k l).symm
    have nd1 : (metAdd l k).Nodup := by
      rw [eA]
      exact (List.perm_append_singleton k l).nodup_iff.mpr (List.nodup_cons.mpr ⟨hkl, nd⟩)
    have hsz : es1.size = l.length + 1 := by
      have := pl1.length_eq
      rw [List.length_map, Array.length_toList, eA, List.length_append, List.length_singleton] at this
      exact this
    have hb1 : es1.size < scanBound := by rw [hsz]; exact room
    have hled : w.params.followText "set-order" = true ∨ t1.led = true := hl.imp id fun z => by rw [hl1]; exact z
    refine wpAny_bind (hgw _ ?_)
    split
    · refine wpAny_bind ?_
      rw [hashByValue_scannable 8 hsc]
      refine wpAny_pure ?_
      refine setS_add_tail ?_ ho hex hd g1 pl1 nd1 hb1 ?_ ?_ ?_ ?_
      · intro b s₁ Q' q; cases b <;> first | exact wpAny_pure q | exact wpAny_rule q
      · first | (split <;> first | exact hf1 | exact SetTable.fits_plain_off hf1) | exact hf1
      · first | (split <;> exact hr1) | exact hr1
      · first | (split <;> exact hled) | exact hled
      · intro h' sb r; dsimp only; exact wpAny_pure (hQ h' _ sb r)
    · refine wpAny_bind (wpAny_pure ?_)
      simp only [↓reduceIte]
      refine setS_add_tail ?_ ho hex hd g1 pl1 nd1 hb1 hf1 hr1 hled ?_
      · intro b s₁ Q' q; cases b <;> first | exact wpAny_pure q | exact wpAny_rule q
      · intro h' sb r; dsimp only; exact wpAny_pure (hQ h' _ sb r)
theorem setS_fresh {h : Heap} : SetS P w (h.push { cls := .type "set", dict := none, data := .set #[] 0 (.fresh 0 0 (!w.params.followText "set-order")) }) h.objs.size [] :=
  ⟨_, #[], 0, _, Heap.get?_push_size _ rfl, ⟨rfl, rfl, rfl⟩, rfl, (fun e he => by simp at he), .refl _, .nil, (by decide), (by rfl), List.Pairwise.nil, by
    show _ ∨ (!w.params.followText "set-order") = true
    cases w.params.followText "set-order"
    · exact .inr rfl
    · exact .inl rfl⟩
end
theorem metFold_ge : ∀ (l acc : List Str), acc.length ≤ (l.foldl metAdd acc).length
  | [], _ => Nat.le_refl _
  | z :: l, acc => by
    have h := metFold_ge l (metAdd acc z)
    have h2 := metAdd_len acc z
    rw [List.foldl_cons]
    split at h2 <;> omega
theorem metOf_take (xs : List Str) (i : Nat) : (metOf (xs.take i)).length ≤ (metOf xs).length := by
  have e : metOf xs = (xs.drop i).foldl metAdd (metOf (xs.take i)) := by
    unfold metOf
    rw [← List.foldl_append, List.take_append_drop]
  rw [e]
  exact metFold_ge _ _
theorem metFold_nd : ∀ (l acc : List Str), acc.Nodup → (l.foldl metAdd acc).Nodup
  | [], _, h => h
  | z :: l, acc, h => by
    rw [List.foldl_cons]
    refine metFold_nd l _ ?_
    unfold metAdd
    split
    · exact h
    · rename_i c
      exact (List.perm_append_singleton z acc).nodup_iff.mpr (List.nodup_cons.mpr ⟨c, h⟩)
section
variable {P : Program} {w : World} {A : Around} {R : Result → Shared → Prop} {J : Addr} {fp wr : List Addr} {n : Nat} {Y : Nat → Value → Prop} {St : Nat → Heap → Prop}
theorem setS_loop (W : Walks P w A.in1 J fp wr n Y St) (S : Addr) (hS : S ∉ fp) (xs : List Str) (hn : xs.length = n) (hy : ∀ i v, Y i v → ∃ x t, xs[i]? = some x ∧ v = .str x t) (hb : (metOf xs).length + 1 < scanBound) :
    ∀ (k i : Nat) (s : Shared), n - i = k → i ≤ n → St i s.heap → SetS P w s.heap S (metOf (xs.take i)) →
      (∀ h' tk, (∀ b o, b ∉ S :: wr → s.heap.get? b = some o → h'.get? b = some o) → SetS P w h' S (metOf xs) → R (.ok (.ret .none)) { s with heap := h', toks := tk }) →
      codeAny (model P w) A (.builtin "set.update.loop" ⟨[.ref S, .ref J], []⟩) R s := by
  have hw : S ∉ wr := fun h => hS (W.sub _ h)
  intro k
  induction k with
  | zero =>
    intro i s hk hi st hset q
    have e : i = n := by omega
    subst e
    refine codeAny_builtin PyProof.Rows.F.entry_set_update_loop ?_
    rw [Around.under_plainId PyProof.Rows.F.plain_set_update_loop _]
    show wpAny _ A.in1 (pyNext (.ref J) >>= _) _ _ s
    refine wpAny_bind (W.done s _ _ st fun h' tk kp => ?_)
    show wpAny _ A.in1 (ret Value.none) _ _ _
    refine wpAny_pure (q h' tk (fun b o nb eb => kp b o (fun z => nb (List.mem_cons_of_mem _ z)) eb) ?_)
    rw [List.take_of_length_le (by omega)] at hset
    exact hset.at fun o eo => kp S o hw eo
  | succ k ih =>
    intro i s hk hi st hset q
    have hlt : i < n := by omega
    refine codeAny_builtin PyProof.Rows.F.entry_set_update_loop ?_
    rw [Around.under_plainId PyProof.Rows.F.plain_set_update_loop _]
    show wpAny _ A.in1 (pyNext (.ref J) >>= _) _ _ s
    refine wpAny_bind (W.item i s _ _ hlt st fun v h1 tk hv st1 kp => ?_)
    obtain ⟨x, t, hx, rfl⟩ := hy i v hv
    have hset1 := hset.at (h' := h1) fun o eo => kp S o hw eo
    show wpAny _ A.in1 (holding [Value.str x t] (setAdd S (.str x t)) >>= _) _ _ _
    refine wpAny_bind (wpAny_holding ?_)
    unfold setAdd
    refine wpAny_holding (wpAny_bind ((PySem.strKind P w).pyHash (k := x) (strKind_is _ _ _ _) ?_))
    have hroom : (metOf (xs.take i)).length + 1 < scanBound := by
      have h2 := metOf_take xs i
      omega
    refine setS_add_hashed (s := { heap := h1, gens := s.gens, drawn := s.drawn, toks := tk + 1, os := s.os }) hset1 hroom fun h2 b2 sb hset2 => ?_
    have e1 : xs.take (i + 1) = xs.take i ++ [x] := by
      rw [List.take_add_one, hx]
      rfl
    have hset3 : SetS P w h2 S (metOf (xs.take (i + 1))) := by
      rw [e1, metOf_snoc]
      exact hset2
    refine wpAny_pure ⟨plainId_quiet PyProof.Rows.F.plain_set_update_loop _, ih (i + 1) _ (by omega) hlt (W.frame _ _ _ st1 fun b hb o eo => ?_) hset3 fun h3 tk3 kp3 hs3 => ?_⟩
    · rw [sb.2 b fun z => hS (z ▸ hb)]
      exact eo
    · refine q h3 tk3 (fun b o nb eb => kp3 b o nb ?_) hs3
      show h2.get? b = some o
      rw [sb.2 b fun z => nb (z ▸ List.mem_cons_self ..)]
      exact kp b o (fun z => nb (List.mem_cons_of_mem _ z)) eb
end
theorem strs_idx {us : List Value} {xs : List Str} (h : StrsAre us xs) : ∀ (i : Nat) (v : Value), us[i]? = some v → ∃ x t, xs[i]? = some x ∧ v = .str x t := by
  induction h with
  | nil =>
    intro i v e
    simp at e
  | cons x t r ih =>
    intro i v e
    cases i with
    | zero =>
      simp at e
      exact ⟨x, t, rfl, e.symm⟩
    | succ i => exact ih i v (by simpa using e)
abbrev ledSet (w : World) : Obj := { cls := .type "set", dict := none, data := .set #[] 0 (.fresh 0 0 (!w.params.followText "set-order")) }
section
variable {P : Program} {w : World} {A : Around} {E : Value → Shared → Prop} {s : Shared}
theorem setS_of_list {l : Addr} {items : Array Value} {xs : List Str} {Q : Value → Shared → Prop} (hh : A.handled = none) (hl : s.heap.IsList l items) (hi : StrsAre items.toList xs) (hb : (metOf xs).length + 1 < scanBound)
    (h : ∀ (h' : Heap) (tk : Nat), SetS P w h' s.heap.objs.size (metOf xs) → (∀ b o, b < s.heap.objs.size → s.heap.get? b = some o → h'.get? b = some o) → Q (.ref s.heap.objs.size) { s with heap := h', toks := tk }) :
    wpAny (model P w) A (call (.type "set") [.ref l]) Q E s := by
  obtain ⟨c, tl, hmro⟩ := PySem.F.called_set.mro
  have hmade := PySem.F.called_set.made
  have hsub := PySem.F.called_set.sub
  refine wpAny_call (codeAny_of_tree ?_)
  show wpAny _ _ (callAny (.type "set") _) _ _ _
  refine wpAny_pure ⟨Code.quiet_builtin _ (by decide +kernel), codeAny_builtin PySem.F.entry_type_call ?_⟩
  rw [Around.under_plain (weight_type_call_type "set" [.ref l] []) rfl]
  have h1 := PySem.F.called_set.notType
  have h2 := PySem.F.called_set.canCreate
  have hct := PySem.F.typeCall_set_1 (.ref l)
  repeat (any_goals (first | assumption | wp_step))
  refine codeAny_mono (code_set_led1 (.ref l) (E := E) (Q₁ := fun obj s1 => obj = .ref s.heap.objs.size ∧ s1 = { s with heap := s.heap.push (ledSet w) }) ⟨rfl, rfl⟩) fun r s1 hr => ?_
  cases r with
  | error e => exact hr
  | ok fl =>
    cases fl with
    | ret obj =>
      obtain ⟨rfl, rfl⟩ := hr
      have hS : (s.heap.push (ledSet w)).get? s.heap.objs.size = some (ledSet w) := Heap.get?_push_size _ rfl
      have hT : Shared.TypeIs { s with heap := s.heap.push (ledSet w) } (.ref s.heap.objs.size) "set" := ⟨_, hS, rfl⟩
      have hli := PySem.F.called_set.init.lookup
      have hbi := PySem.F.called_set.init.bind (.ref s.heap.objs.size)
      repeat (any_goals (first | assumption | wp_step))
      refine codeAny_mono (codeAny_call_builtin (R := wants (fun r s2 => r = .none ∧ ∃ h' tk, s2 = { s with heap := h', toks := tk } ∧ SetS P w h' s.heap.objs.size (metOf xs) ∧
          (∀ b o, b < s.heap.objs.size → s.heap.get? b = some o → h'.get? b = some o)) E) PySem.F.called_set.init.plain PySem.F.entry_set_init (check_set_init_1 hT ?_)) fun r2 s2 hr2 => ?_
      · obtain ⟨ol, hol, hcl, nl, hdl⟩ := hl
        obtain ⟨ocls, odict, odata, oslots⟩ := ol
        simp only at hcl hdl
        subst hcl; subst hdl
        have hol' : (s.heap.push (ledSet w)).get? l = some { cls := .type "list", dict := odict, data := .seq items nl, slots := oslots } := Heap.get?_push_of_some _ hol
        have hsls := PySem.F.sub_list_set
        have hslf := PySem.F.sub_list_frozenset
        have hne : (Value.type "list" == Value.type "dict") = false := by decide
        have hl1 : (s.heap.push (ledSet w)).IsList l items := ⟨_, hol', rfl, nl, rfl⟩
        unfold Builtin.«set.__init__» noKeywords Builtin.Frozenset.updateFrom
        generalize hPI : pyIter = PI
        wp_walk
        subst hPI
        refine wpAny_pyIter_list hl1 ?_
        refine wpAny_bind (wpAny_runValue ?_)
        have hlS : l < s.heap.objs.size := Heap.lt_size hol
        have hh3 : A.in1.in1.in1.handled = none := by simp [hh]
        have hneI : l ≠ (s.heap.push (ledSet w)).objs.size := by
          rw [Heap.size_push]; exact Nat.ne_of_lt (Nat.lt_succ_of_lt hlS)
        have hSf : s.heap.objs.size ∉ [(s.heap.push (ledSet w)).objs.size, l] := by
          rw [Heap.size_push]; simp only [List.mem_cons, List.mem_singleton, List.not_mem_nil, or_false, not_or]
          exact ⟨Nat.ne_of_lt (Nat.lt_succ_self _), Nat.ne_of_gt hlS⟩
        have hsz : xs.length = items.size := by rw [← StrsAre.len_eq hi, Array.length_toList]
        refine setS_loop (Walks.list hh3 _ l hneI items) s.heap.objs.size hSf xs hsz (fun i v hv => ?_) hb _ 0 _ rfl (Nat.zero_le _) ⟨⟨_, Heap.get?_push_size _ rfl, rfl, rfl⟩, (hl1.push _)⟩ ?_ fun h' tk kp hs => ?_
        · have hv : items[i]? = some v := hv
          exact strs_idx hi i v (by rw [Array.getElem?_toList]; exact hv)
        · exact (setS_fresh (P := P) (w := w) (h := s.heap)).at fun o eo => Heap.get?_push_of_some _ eo
        · refine wpAny_pure ?_
          show wpAny _ _ (ret Value.none) _ _ _
          refine wpAny_pure ⟨rfl, h', tk, rfl, hs, fun a o ha eo => kp a o ?_ (Heap.get?_push_of_some _ (Heap.get?_push_of_some _ eo))⟩
          have : a ≠ s.heap.objs.size ∧ a ≠ (s.heap.push (ledSet w)).objs.size := ⟨Nat.ne_of_lt ha, by
            rw [Heap.size_push]
            exact Nat.ne_of_lt (Nat.lt_succ_of_lt ha)⟩
          simp only [List.mem_cons, List.not_mem_nil, or_false, not_or]
          exact this
      · cases r2 with
        | error e => exact hr2
        | ok fl2 =>
          cases fl2 with
          | ret r =>
            obtain ⟨rfl, h', tk, rfl, hs', hk'⟩ := hr2
            repeat (any_goals (first | assumption | wp_step))
            exact h _ _ hs' hk'
          | _ => exact hr2.elim
    | _ => exact hr.elim
end
/-! ### sorted(set), and the layer -/
theorem sorted_setS {P : Program} {w : World} {A : Around} {E : Value → Shared → Prop} {s : Shared} {a : Addr} {l : List (List Nat)} {Q : Value → Shared → Prop} (R : SetS P w s.heap a (l.map tx)) (hh : A.handled = none)
    (hQ : ∀ s' p (out : Array Value) (c : Nat) (ls : List (List Nat)), (∀ b o, s.heap.get? b = some o → s'.heap.get? b = some o) → s'.gens = s.gens → s'.os = s.os → s.heap.objs.size ≤ p →
      s'.heap.get? p = some (seqObj "list" out c) → StrsAre out.toList (ls.map tx) → ls.Perm l → ls.Pairwise (fun a b => ¬ b < a) → Q (.ref p) s') :
    wpAny (model P w) A (call (.builtin "sorted") [.ref a]) Q E s := by
  obtain ⟨o, es, ep, t, ho, hex, hd, g, pl, nd, hb, hf, hr, hl⟩ := R
  refine Calls.call_function_entry kind_sorted plain_sorted entry_sorted (args_sorted1 _) ?_
  unfold Builtin.«sorted»
  refine wpAny_bind (m := checkCount "sorted" 1 1 _) (wpAny_pure ?_)
  refine wpAny_bind (collect_set (A := A.in1) hh ⟨o, ho, hex.1, hd⟩ hf hb hr hl fun s1 vs k1 hz g1 o1 pm => ?_)
  have hvl : vs.length = l.length := by
    have := pl.length_eq
    rw [List.length_map, List.length_map] at this
    rw [pm.length_eq, List.length_map]
    exact this
  have hlb : l.length < scanBound := by
    have := pl.length_eq
    rw [List.length_map, List.length_map, Array.length_toList] at this
    omega
  have hvz : vs.length ≤ sizeLine := by
    rw [hvl, sizeLine_eq]
    unfold scanBound at hlb
    omega
  have all : ∀ v ∈ vs, ∃ x t, v = Value.str x t := fun v hv => by
    obtain ⟨e, he, q⟩ := List.mem_map.mp (pm.mem_iff.mp hv)
    obtain ⟨k, tk, h1, _⟩ := g e he
    exact ⟨k, tk, by rw [← q]; exact h1⟩
  have hI : StrsAre vs ((vs.map sv).map tx) := str_sv all
  have pk : (vs.map sv).Perm l := by
    have q := pm.map sv
    rw [List.map_map] at q
    have e1 : es.toList.map (sv ∘ fun x => x.2) = (es.toList.map strK).map fun x => x.cps.toList := by
      rw [List.map_map]
      refine List.map_congr_left fun e he => ?_
      obtain ⟨k, tk, h1, _⟩ := g e he
      show sv e.2 = (strK e).cps.toList
      unfold strK
      rw [h1]
      rfl
    have q2 := pl.map fun x : Str => x.cps.toList
    have e2 : (l.map tx).map (fun x : Str => x.cps.toList) = l := by
      rw [List.map_map]
      have : ((fun x : Str => x.cps.toList) ∘ tx) = id := funext fun l => rfl
      rw [this, List.map_id]
    rw [e2] at q2
    exact (q.trans (by rw [e1])).trans q2
  refine wpAny_bind (wpAny_newList ?_ hvz)
  have hoL : (s1.heap.push (seqObj "list" vs.toArray 0)).get? s1.heap.objs.size = some (seqObj "list" vs.toArray 0) := Heap.get?_push_size _ rfl
  refine wpAny_bind (wpAny_holding (wpAny_call_entry slot_list_sort ⟨_, hoL, rfl⟩ entry_list_sort (list_sort_ord swo_str hoL hvz (fun h2 => str_sortable hI h2) fun out h1 h2 => ⟨_, rfl, ?_⟩) (args_list_sort _)))
  obtain ⟨c, hc⟩ := sortedHeap_at (vs := vs) (out := out.toArray) hoL
  have all2 : ∀ v ∈ out, ∃ x t, v = Value.str x t := fun v hv => all v (h2.perm.mem_iff.mp hv)
  have k2 : (out.map sv).Perm l := (h2.perm.map sv).trans pk
  have k3 : (out.map sv).Pairwise (fun a b => ¬ b < a) := List.pairwise_map.mpr (h1.imp fun {x y} h => of_decide_eq_false (p := sv y < sv x) h)
  refine wpAny_pure ⟨_, rfl, hQ _ s1.heap.objs.size out.toArray c (out.map sv) (fun b u e => ?_) g1 o1 hz hc (str_sv all2) k2 k3⟩
  have q := k1 b u e
  have hlt := Heap.lt_size q
  show (sortedHeap (s1.heap.push (seqObj "list" vs.toArray 0)) s1.heap.objs.size vs out.toArray).get? b = some u
  rw [sortedHeap_old (Nat.ne_of_lt hlt) (by rw [size_push']; exact Nat.lt_succ_of_lt hlt)]
  exact Heap.get?_push_of_some _ q
theorem nodup_le {α : Type} [DecidableEq α] : ∀ {a b : List α}, a.Nodup → (∀ x ∈ a, x ∈ b) → a.length ≤ b.length
  | [], _, _, _ => Nat.zero_le _
  | x :: a, b, nd, h => by
    obtain ⟨n1, n2⟩ := List.nodup_cons.mp nd
    have hx := h x (List.mem_cons_self ..)
    have := nodup_le (b := b.erase x) n2 fun y hy => (List.mem_erase_of_ne fun e : y = x => n1 (e ▸ hy)).mpr (h y (List.mem_cons_of_mem _ hy))
    rw [List.length_erase_of_mem hx] at this
    have := List.length_pos_of_mem hx
    rw [List.length_cons]
    omega
theorem nodup_of_map {α β : Type} {f : α → β} {l : List α} (h : (l.map f).Nodup) : l.Nodup := List.Pairwise.of_map f (fun _ _ hne e => hne (congrArg f e)) h
/-- the set of texts at a, that can be walked -/
def SetW (P : Program) (w : World) (a : Addr) (l : List Str) : HO := .ext fun h => SetS P w h a l
theorem setW_new {P : Program} {w : World} {H : Hp} {h : Heap} {a : Addr} {l : List Str} (R : SetS P w h a l) : ObjOk P w H h a (SetW P w a l) := by
  have ⟨o, _, _, _, ho, _⟩ := R
  exact ⟨R, ⟨o, ho⟩, fun h1 h2 q k => SetS.at q k⟩
def rSetOfS (K : PySem.W.Frag) (P : Program) (w : World) : List V → Hp → VK → Prop := fun xs H Q => ∃ (a : Addr) (ls D : List (List Nat)), xs = [.ref a] ∧ SqL K H a (ls.map fun l => V.str (tx l)) ∧ (∀ l ∈ ls, l ∈ D) ∧ D.length ≤ 1000 ∧ ∀ (p : Addr) (ms : List (List Nat)), H p = none → ms.Nodup → (∀ m, m ∈ ms ↔ m ∈ ls) → Q (.ref p) (upd H p (SetW P w p (ms.map tx)))
def rSortedW (P : Program) (w : World) : List V → Hp → VK → Prop := fun xs H Q => ∃ (a : Addr) (l : List (List Nat)), xs = [.ref a] ∧ H a = some (SetW P w a (l.map tx)) ∧ ∀ (p : Addr) (ls : List (List Nat)), ls.Perm l → ls.Pairwise (fun a b => ¬ b < a) → H p = none → Q (.ref p) (upd H p (.lst (ls.map fun l => V.str (tx l))))
section
variable {X : Cx}
theorem c_setOfS {K : PySem.W.Frag} (hK : X.K = K) (hc : X.calm = true) : CallR X (.type "set") (rSetOfS K X.prog X.w) := by
  subst hK
  intro pins s σ H xs us Q I r h
  obtain ⟨a, ls, D, rfl, hs, hD, hl, q⟩ := h
  rw [map_tx] at hs
  obtain ⟨its, rv, hla, hz⟩ := I.list hs
  rw [Vals.ref1 r]
  have hi := rv.strs
  have nd1 : (metOf (ls.map tx)).Nodup := metFold_nd _ _ .nil
  have back : ∀ x : Str, tx x.cps.toList = x := fun x => tx_eq.symm
  obtain ⟨ms, e1, e2, e3⟩ : ∃ ms : List (List Nat), metOf (ls.map tx) = ms.map tx ∧ ms.Nodup ∧ ∀ m, m ∈ ms ↔ m ∈ ls := by
    have e : ((metOf (ls.map tx)).map fun x => x.cps.toList).map tx = metOf (ls.map tx) := by
      rw [List.map_map]
      have : (tx ∘ fun x : Str => x.cps.toList) = id := funext back
      rw [this, List.map_id]
    refine ⟨(metOf (ls.map tx)).map fun x => x.cps.toList, e.symm, ?_, fun m => ?_⟩
    · rw [← e] at nd1
      exact nodup_of_map nd1
    · rw [List.mem_map]
      constructor
      · rintro ⟨x, hx, rfl⟩
        obtain ⟨y, hy, e⟩ := List.mem_map.mp (metOf_mem.mp hx)
        rw [← e]
        exact hy
      · intro hm
        exact ⟨tx m, metOf_mem.mpr (List.mem_map.mpr ⟨m, hm, rfl⟩), rfl⟩
  have lm : ms.length ≤ D.length := nodup_le e2 fun m hm => hD m ((e3 m).mp hm)
  refine setS_of_list (I.ok.hd hc) hla.isList hi (by rw [e1, List.length_map]; unfold scanBound; omega) fun h' tk hS hk => ?_
  have hp : H s.heap.objs.size = none := I.hok.fresh (Nat.le_refl _)
  rw [e1] at hS
  exact ⟨.ref s.heap.objs.size, upd H s.heap.objs.size (SetW X.prog X.w s.heap.objs.size (ms.map tx)), I.laid (h' := h') (t' := tk) (fun b o e => hk b o (Heap.lt_size e) e) (Nat.le_refl _) (setW_new hS), rfl, q _ ms hp e2 e3⟩
theorem c_sortedW (hc : X.calm = true) : CallR X (.builtin "sorted") (rSortedW X.prog X.w) := by
  intro pins s σ H vs us Q I r h
  obtain ⟨a, l, rfl, ha, q⟩ := h
  have R : SetS X.prog X.w s.heap a (l.map tx) := (I.hok a _ ha).1
  have lsz : l.length < scanBound := by
    obtain ⟨o, es, ep, t, _, _, _, _, pl, _, hb, _⟩ := R
    have := pl.length_eq
    rw [List.length_map, List.length_map, Array.length_toList] at this
    omega
  rw [Vals.ref1 r]
  refine sorted_setS R (I.ok.hd hc) fun s' p out c ls k g o hp hg hi pm pw => ?_
  have hlen : ((ls.map tx).map V.str).length ≤ sizeLine := by
    rw [List.length_map, List.length_map, pm.length_eq, sizeLine_eq]
    unfold scanBound at lsz
    omega
  have hn : H p = none := I.hok.fresh hp
  have J : Inv X pins σ (upd H p (.lst ((ls.map tx).map V.str))) { s with heap := s'.heap, gens := s'.gens, drawn := s'.drawn, toks := s'.toks } :=
    I.call (ch := []) (Un.laid k hp hn) (I.hok.laid k hp ⟨hlen, out.toList, c, vals_of_strs hi, hg⟩) (by rw [g]; exact I.bare) (fun _ z => nomatch z)
  have e : s' = { s with heap := s'.heap, gens := s'.gens, drawn := s'.drawn, toks := s'.toks } := by
    cases s'
    cases s
    cases o
    rfl
  rw [e]
  have q := q p ls pm pw hn
  rw [map_tx] at q
  exact ⟨.ref p, _, J, rfl, q⟩
end
end Cw
set_option Elab.async false
set_option linter.all false
set_option maxRecDepth 100000
set_option maxHeartbeats 4000000
/-! all ways that become one another by exchanges, listed -/
namespace Cw
open PySem PySem.Spec L2
local macro_rules | `(tactic| walk_at "side") => `(tactic| first | omega | assumption | (dsimp only; omega) | (unfold CMul; omega) | exact ⟨by decide, by decide, by decide⟩ | exact wdiv (by first | assumption | decide | omega) (by first | assumption | decide | omega) | (simp only [List.length_cons, List.length_nil]; omega) | rfl)
local macro_rules | `(tactic| walk_at "hl") => `(tactic| first | assumption | exact upd_same | ((refine Cw.Same.at (by assumption) ?_); walk_at "hl") | ((refine Cw.Keep.at (by assumption) ?_ (by assumption)); walk_at "hl"))
local macro_rules | `(tactic| walk_at "st") => `(tactic| first
  | (with_reducible refine s_seq ?_) | (with_reducible refine g_nm ?_) | (with_reducible refine s_next ?_) | (with_reducible refine s_set ?_) | (with_reducible refine s_drop ?_) | (with_reducible refine s_ret ?_) | (with_reducible refine s_if ?_)
  | ((with_reducible refine e_varG ?_); refine ⟨_, (by with_unfolding_all rfl), ?_⟩) | (with_reducible refine e_c ?_) | (with_reducible refine e_op ?_) | (with_reducible refine e_un ?_)
  | (with_reducible refine e_cons ?_) | (with_reducible refine e_nil ?_) | (with_reducible refine e_cb ?_) | (with_reducible refine e_call ?_) | (with_reducible refine e_md ?_)
  | (with_reducible refine t_test ?_) | (with_reducible refine t_B ?_) | (with_reducible refine t_and ?_) | (with_reducible refine t_or ?_) | (with_reducible refine t_not ?_)
  | (with_reducible refine e_andV ?_) | (with_reducible refine e_orV ?_) | (with_reducible refine e_notV ?_) | (with_reducible refine e_if ?_)
  | (with_reducible refine v_I0 ?_) | ((with_reducible refine v_I ?c ?_); try (case c => walk_at "side")) | (with_reducible refine v_bl ?_)
  | ((with_reducible refine v_eq ?c ?_); (case c => with_unfolding_all rfl)) | ((with_reducible refine v_ne ?c ?_); (case c => with_unfolding_all rfl))
  | (with_reducible refine v_inti ?_) | (with_reducible refine v_intb ?_) | ((with_reducible refine v_lenG ?_); refine ⟨_, (by walk_at "hl"), ?_⟩)
  | ((with_reducible refine v_lenS ?c ?_); try (case c => walk_at "side"))
  | (with_reducible refine e_dnew ?_) | (with_reducible refine e_dget ?_) | (with_reducible refine s_dput ?_) | (with_reducible refine e_lst ?_) | (with_reducible refine e_tup ?_)
  | ((with_reducible refine v_lst ?c ?_); (case c => walk_at "side")) | ((with_reducible refine v_tup ?c ?_); (case c => walk_at "side"))
  | ((with_reducible refine v_dgetG ?_); refine ⟨_, (by assumption), ?_⟩)
  | (with_reducible refine e_sl ?_) | (with_reducible refine e_nopart ?_) | (with_reducible refine e_part ?_) | (with_reducible refine e_m1 ?_) | (with_reducible refine v_isS ?_) | (with_reducible refine v_int ?_)
  | (with_reducible refine e_lc ?_) | (with_reducible refine e_iStr ?_) | (with_reducible refine e_iEnumS ?_) | (with_reducible refine v_iEnumS ?_) | (with_reducible refine v_str ?_) | (with_reducible refine e_yes ?_) | (with_reducible refine e_fld ?_) | (with_reducible refine e_sfld ?_)
  | ((with_reducible refine v_addS ?c ?_); try (case c => walk_at "side")) | (with_reducible refine v_inS ?_) | (with_reducible refine v_notInS ?_) | (with_reducible refine v_ltS ?_)
  | ((with_reducible refine v_inLG ?_); refine ⟨_, (by walk_at "hl"), ?_⟩) | (with_reducible refine v_isiS ?_) | (with_reducible refine e_revS ?_) | ((with_reducible refine v_revS ?c ?_); try (case c => walk_at "side"))
  | ((with_reducible refine v_lenSetG ?_); refine ⟨_, (by walk_at "hl"), ?_⟩)
  | (with_reducible refine e_bm ?_) | (with_reducible refine e_bm0 ?_) | ((with_reducible refine v_tyLG ?_); refine ⟨_, (by walk_at "hl"), ?_⟩)
  | (with_reducible refine iteNT ?_) | (with_reducible refine iteNF ?_) | (with_reducible refine e_for ?_)
  | (with_reducible refine e_iL ?_) | (with_reducible refine e_iT ?_) | ((with_reducible refine v_iLG ?_); refine ⟨_, (by walk_at "hl"), ?_⟩) | (with_reducible refine e_iR1 ?_) | ((with_reducible refine v_iR1 ?c1 ?c2 ?_); try (case c1 => walk_at "side"); try (case c2 => walk_at "side"))
  | (with_reducible refine e_iR2 ?_) | ((with_reducible refine v_iR2 ?c1 ?_); try (case c1 => walk_at "side"))
  | (with_reducible refine e_pr0 ?_) | (with_reducible refine e_pr ?_) | (with_reducible refine e_disp ?_) | (with_reducible refine s_asgT ?_) | (with_reducible refine e_tryA ?_) | (with_reducible refine e_callS ?_) | (with_reducible refine e_mdS ?_) | (with_reducible refine e_par ?_) | (with_reducible refine v_par ?_) | (with_reducible refine e_par3 ?_) | (with_reducible refine v_par3 ?_) | (with_reducible refine e_iK ?_) | (with_reducible refine e_dnotin ?_)
  | (with_reducible refine iteT ?_) | (with_reducible refine iteF ?_))
local macro_rules | `(tactic| walk_at "go") => `(tactic| repeat walk_at "st")
theorem pe_pop0K {X : Cx} {K : PySem.W.Frag} {o : Expr} {to : TE} {apos cpos : PySem.Pos} (h : X.K = K) (ho : PE X o to) (hbase : attributeBase o "pop" X.env (eval o X.env) = eval o X.env := by rfl) (hline : (apos.endLine == cpos.line) = true := by rfl) :
    PE X (.Call (.Attribute o "pop" apos) [] [] cpos) (tBM0 K "list" rPop to) := h ▸ pe_bm0 PySem.F.plainAttrs_list PySem.F.slot_list_pop PySem.F.type_list_pop mt_pop ho hbase hline
theorem v_pop0 {H : Hp} {Q : VK} {p : Addr} {xs : List V} {y : V} (h : H p = some (.lst (xs ++ [y]))) (q : ∀ H', Keep p H H' → H' p = some (.lst xs) → Q y H') : rPop (.ref p) [] H Q := by
  refine ⟨p, xs ++ [y], y, rfl, rfl, h, ?_, ?_⟩
  · rw [List.length_append, List.length_singleton, Nat.add_sub_cancel, List.getElem?_append_right (Nat.le_refl _), Nat.sub_self]
    rfl
  · rw [List.dropLast_concat]
    exact q _ Keep.put upd_same
def spShorter : Sp := fun vs H Q _ => ∃ (w : List Nat), vs = [.str (tx w)] ∧ w.length ≤ 1000 ∧ Q (.str (tx (shorten w))) H
/-- the class of a way, listed -/
def ClassOf (f : Nat → List Nat) (w : List Nat) (E : List (List Nat)) : Prop := E.Nodup ∧ (∀ v, v ∈ E ↔ Ex f w v) ∧ E.length ≤ 300000
def spExchanged : Sp := fun vs H Q _ => ∃ (d : Addr) (ls : List Nat) (fn : Nat → List Nat) (w : List Nat), vs = [.ref d, .str (tx w)] ∧ H d = some (.dK (tabKV ls fn)) ∧ Fl ls fn ∧ ls.length ≤ 6 ∧ (∀ c ∈ w, c ∈ ls) ∧ w.length ≤ 7 ∧ ∀ p E H', H p = none → Same H H' → ClassOf fn w E → H' p = some (.lst (strsG E)) → Q (.ref p) H'
theorem v_neNilG {K : PySem.W.Frag} {H : Hp} {Q : VK} {p q : Addr} {W : List (List Nat)} (h : H p = some (.lst (strsG W))) (ok : ∀ l ∈ W, ∀ c ∈ l, c < 1000) (hq : H q = some (.lst [])) (k : Q (.bl (!W.isEmpty)) H) : rNeD K (.ref p) (.ref q) H Q := by
  have h' : H p = some (.lst ((W.map tx).map V.str)) := by
    rw [h, List.map_map]
    rfl
  exact v_neNilS h' (ok_strs ok) hq (by rw [List.isEmpty_map]; exact k)
def wordsKV (E : List (List Nat)) : List (Key × V) := E.map fun v => ((Sum.inr (tx v) : Key), V.bl true)
theorem words_none {v : List Nat} : ∀ {E : List (List Nat)}, ¬ v ∈ E → valV (wordsKV E) (Sum.inr (tx v)) = none
  | [], _ => rfl
  | c :: r, h => by
    show valV (((Sum.inr (tx c) : Key), V.bl true) :: wordsKV r) _ = _
    rw [valV_neg, words_none fun z => h (List.mem_cons_of_mem _ z)]
    intro e
    exact h (key_tx.mp e ▸ List.mem_cons_self ..)
theorem words_some {v : List Nat} : ∀ {E : List (List Nat)}, v ∈ E → valV (wordsKV E) (Sum.inr (tx v)) = some (V.bl true)
  | [], h => by cases h
  | c :: r, h => by
    show valV (((Sum.inr (tx c) : Key), V.bl true) :: wordsKV r) _ = _
    by_cases e : c = v
    · subst e
      rw [valV_pos rfl]
    · rw [valV_neg, words_some ((List.mem_cons.mp h).resolve_left fun z => e z.symm)]
      exact fun z => e (key_tx.mp z)
theorem words_get {H : Hp} {d : Addr} {E : List (List Nat)} {v : List Nat} (h : H d = some (.dK (wordsKV E))) : DGet H d (.str (tx v)) (if v ∈ E then some (V.bl true) else none) := by
  have e := DGet.k (k := Sum.inr (tx v)) h
  by_cases c : v ∈ E
  · rw [if_pos c]
    rw [words_some c] at e
    exact e
  · rw [if_neg c]
    rw [words_none c] at e
    exact e
theorem words_put {H : Hp} {d : Addr} {E : List (List Nat)} {v : List Nat} (h : H d = some (.dK (wordsKV E))) (hv : ¬ v ∈ E) (hl : E.length < 1000000) : DPut H d (.str (tx v)) (.bl true) (upd H d (.dK (wordsKV (E ++ [v])))) := by
  have e := DPut.cross (l := v) (v := V.bl true) h (words_none hv) (by unfold wordsKV; rw [List.length_map]; exact hl)
  have e2 : wordsKV (E ++ [v]) = wordsKV E ++ [((Sum.inr (tx v) : Key), V.bl true)] := by
    unfold wordsKV
    rw [List.map_append]
    rfl
  rw [e2]
  exact e
theorem words_keys (E : List (List Nat)) : ((wordsKV E).map fun kv => kV kv.1) = strsG E := by
  unfold wordsKV strsG
  rw [List.map_map]
  rfl
/-- all words of a length -/
def wordsN (ls : List Nat) : Nat → List (List Nat)
  | 0 => [[]]
  | n + 1 => ls.flatMap fun c => (wordsN ls n).map fun v => c :: v
theorem wordsN_len (ls : List Nat) : ∀ n, (wordsN ls n).length = ls.length ^ n
  | 0 => rfl
  | n + 1 => by
    have key : ∀ (l : List Nat) (X : List (List Nat)), (l.flatMap fun c => X.map fun v => c :: v).length = l.length * X.length := by
      intro l X
      induction l with
      | nil => simp
      | cons c l ih => rw [List.flatMap_cons, List.length_append, ih, List.length_map, List.length_cons, Nat.succ_mul]; omega
    show (ls.flatMap fun c => (wordsN ls n).map fun v => c :: v).length = _
    rw [key, wordsN_len ls n, Nat.pow_succ, Nat.mul_comm]
theorem wordsN_mem {ls : List Nat} : ∀ {v : List Nat}, (∀ c ∈ v, c ∈ ls) → v ∈ wordsN ls v.length
  | [], _ => List.mem_singleton_self _
  | c :: v, h => List.mem_flatMap.mpr ⟨c, h c (List.mem_cons_self ..), List.mem_map.mpr ⟨v, wordsN_mem fun d hd => h d (List.mem_cons_of_mem _ hd), rfl⟩⟩
theorem class_small {f : Nat → List Nat} {ls w : List Nat} {E : List (List Nat)} (h6 : ls.length ≤ 6) (l7 : w.length ≤ 7) (hw : ∀ c ∈ w, c ∈ ls) (nd : E.Nodup) (hE : ∀ v ∈ E, Ex f w v) : E.length ≤ 300000 := by
  have h1 := nodup_le nd fun v hv => (by
    have p := (hE v hv).perm
    have m := wordsN_mem (ls := ls) (v := v) fun c hc => hw c (p.mem_iff.mp hc)
    rw [p.length_eq] at m
    exact m : v ∈ wordsN ls w.length)
  rw [wordsN_len] at h1
  have h2 : ls.length ^ w.length ≤ 6 ^ w.length := Nat.pow_le_pow_left h6 _
  have h3 : 6 ^ w.length ≤ 6 ^ 7 := Nat.pow_le_pow_right (by decide) l7
  have h4 : 6 ^ 7 = 279936 := by decide
  omega
/-- what holds of what was found and what waits -/
structure Found (f : Nat → List Nat) (w : List Nat) (E W : List (List Nat)) (here : Option (List Nat)) : Prop where
  nd : E.Nodup
  has : w ∈ E
  ex : ∀ v ∈ E, Ex f w v
  sub : ∀ v ∈ W, v ∈ E
  done : ∀ v ∈ E, ¬ v ∈ W → some v ≠ here → ∀ u, Sw f v u → u ∈ E
theorem Found.all {f : Nat → List Nat} {w : List Nat} {E : List (List Nat)} (h : Found f w E [] none) : ∀ v, v ∈ E ↔ Ex f w v := fun v => ⟨h.ex v, fun e => by
  induction e with
  | refl => exact h.has
  | step _ s ih => exact h.done _ ih (fun z => nomatch z) (fun z => nomatch z) _ s⟩
theorem Found.pop {f : Nat → List Nat} {w v : List Nat} {E W : List (List Nat)} (h : Found f w E (W ++ [v]) none) : Found f w E W (some v) where
  nd := h.nd
  has := h.has
  ex := h.ex
  sub u hu := h.sub u (List.mem_append_left _ hu)
  done u hu nu ne := h.done u hu (fun z => by
    rcases List.mem_append.mp z with z | z
    · exact nu z
    · exact ne (by rw [List.mem_singleton.mp z])) (fun z => nomatch z)
theorem Found.add {f : Nat → List Nat} {w v u : List Nat} {E W : List (List Nat)} (h : Found f w E W (some v)) (hv : v ∈ E) (s : Sw f v u) (hu : ¬ u ∈ E) : Found f w (E ++ [u]) (W ++ [u]) (some v) where
  nd := (List.perm_append_singleton u E).nodup_iff.mpr (List.nodup_cons.mpr ⟨hu, h.nd⟩)
  has := List.mem_append_left _ h.has
  ex x hx := by
    rcases List.mem_append.mp hx with z | z
    · exact h.ex x z
    · rw [List.mem_singleton.mp z]
      exact (h.ex v hv).step s
  sub x hx := by
    rcases List.mem_append.mp hx with z | z
    · exact List.mem_append_left _ (h.sub x z)
    · exact List.mem_append_right _ z
  done x hx nx ne y hy := by
    rcases List.mem_append.mp hx with z | z
    · exact List.mem_append_left _ (h.done x z (fun q => nx (List.mem_append_left _ q)) ne y hy)
    · exact absurd (List.mem_append_right _ z) nx
theorem Found.close {f : Nat → List Nat} {w v : List Nat} {E W : List (List Nat)} (h : Found f w E W (some v)) (hv : ∀ u, Sw f v u → u ∈ E) : Found f w E W none where
  nd := h.nd
  has := h.has
  ex := h.ex
  sub := h.sub
  done x hx nx _ y hy := by
    by_cases e : x = v
    · subst e
      exact hv y hy
    · exact h.done x hx nx (fun z => e (Option.some.inj z)) y hy
theorem walk_strsL {K : PySem.W.Frag} {a : Addr} {Gs : List (List Nat)} : Walk (Itl K a) Gs.length (fun H => SqL K H a (strsG Gs)) (fun k H x H' => H' = H ∧ x = V.str (tx (Gs.getD k []))) := by
  have w := walk_list (K := K) (a := a) (xs := strsG Gs)
  unfold strsG at w ⊢
  rw [List.length_map] at w
  refine w.mono (fun _ z => z) fun i H x H' hi _ y => ?_
  obtain ⟨rfl, e⟩ := y
  refine ⟨rfl, ?_⟩
  rw [List.getElem?_map, List.getElem?_eq_getElem hi] at e
  injection e with e
  rw [List.getD_eq_getElem?_getD, List.getElem?_eq_getElem hi]
  exact e.symm
theorem range_filtG {α : Type} (Gs : List (List Nat)) (b : List Nat → Bool) (g : List Nat → α) : ((List.range Gs.length).filter fun k => b (Gs.getD k [])).map (fun k => g (Gs.getD k [])) = (Gs.filter b).map g := by
  have e : Gs = (List.range Gs.length).map fun k => Gs.getD k [] := by
    apply List.ext_getElem
    · simp
    · intro j h1 h2
      simp [List.getD, h1]
  conv => rhs; rw [e, List.filter_map, List.map_map]
  rfl
/-- [f(v) for v in a list of texts if b(v)] -/
theorem vals_someG {σ : L2.St} {H : Hp} {i : Nat} {tt : TT} {te : TE} {P : Addr → Hp → Prop} {J : It} {G : Hp → Prop} {Gs : List (List Nat)} {f : List Nat → V} {b : List Nat → Bool} (w : Walk J Gs.length G (fun k H x H' => H' = H ∧ x = V.str (tx (Gs.getD k [])))) (hG : ∀ H', Same H H' → G H') (hn : Gs.length ≤ 1000000)
    (ht : ∀ v ∈ Gs, ∀ H1, Same H H1 → ∀ R : Bool → Hp → Prop, (∀ H2, Same H1 H2 → R (b v) H2) → tt ((wipe σ [i]).set i (some (.str (tx v)))) H1 R)
    (he : ∀ v ∈ Gs, b v = true → ∀ H1, Same H H1 → ∀ R : VK, (∀ H2, Same H1 H2 → R (f v) H2) → te ((wipe σ [i]).set i (some (.str (tx v)))) H1 R)
    (q : ∀ D H', H D = none → Same H H' → H' D = some (.lst ((Gs.filter b).map f)) → P D H') :
    ∀ D, H D = none → ∃ W : Nat → Nat → Hp → Prop, (∃ m, W 0 m (upd H D (.lst []))) ∧ ∀ k m H, W k m H →
      (J.stop k H ∧ P D H) ∨ (J.go k H ∧ ∃ Nx : Hp → Prop, (∀ H', Nx H' → ∃ m', m' < m ∧ W (k + 1) m' H') ∧ ∀ x H', J.yld k H x H' → (gName i) x (wipe σ [i]) H' fun s2 H2 => wipe s2 [i] = wipe σ [i] ∧ tt s2 H2 fun c H3 =>
        if c = true then te s2 H3 fun y H4 => ∃ acc, H4 D = some (.lst acc) ∧ acc.length < sizeLine ∧ Nx (upd H4 D (.lst (acc ++ [y]))) else Nx H3) := by
  have mem : ∀ k, k < Gs.length → Gs.getD k [] ∈ Gs := fun k hk => by
    rw [List.getD_eq_getElem?_getD, List.getElem?_eq_getElem hk]
    exact List.getElem_mem hk
  refine lc_gen (it := fun k => V.str (tx (Gs.getD k []))) (b := fun k => b (Gs.getD k [])) (f := fun k => f (Gs.getD k [])) w hG hn (fun k hk H1 s1 R r => ht _ (mem k hk) H1 s1 R r) (fun k hk c H1 s1 R r => he _ (mem k hk) c H1 s1 R r) (fun D H' hD s' e => q D H' hD s' ?_)
  rw [e, range_filtG Gs b f]
def spShortest : Sp := fun vs H Q _ => ∃ (d : Addr) (ls : List Nat) (fn : Nat → List Nat) (w : List Nat), vs = [.ref d, .str (tx w)] ∧ H d = some (.dK (tabKV ls fn)) ∧ Fl ls fn ∧ ls.length ≤ 6 ∧ (∀ c ∈ w, c ∈ ls) ∧ w.length ≤ 7 ∧ ∀ p E H' u, Same H H' → Clean fn u → (∀ c ∈ u, c ∈ ls) → u.length ≤ 7 → nameOf fn u = nameOf fn w → ClassOf fn u E → H' p = some (.lst (strsG E)) → Q (.ref p) H'
section
variable {P : Program} {w : World} {K : PySem.W.Frag} {mg : Str → Option Value} {base : Heap} {C R O : Addr}
abbrev stshorter : Stmt := (top 42)
abbrev Nshorter : List Str := ["_law_walk", "_law_at"]
theorem scshorter : FnScope Nshorter ["_law_walk"] (defScope stshorter) := ⟨rfl, rfl, rfl, by decide +kernel, rfl, by decide +kernel, by decide +kernel⟩

theorem ok_shorter (F : FnAt K mg "_law_shorter" stshorter) (T : TxtH K mg) : Def P w K mg base CX0 1 "_law_shorter" ["_law_walk"] spShorter := by
  refine F.ok scshorter (fun _ _ _ _ _ _ us hl => match us, hl with | [_], _ => rfl) (fun vs H Q E h => ?_) (fun f cdv A outer s H vs Q E hr h => ?_)
  · obtain ⟨w, rfl, _⟩ := h
    rfl
  obtain ⟨w, rfl, lw, q⟩ := h
  have hu := hu_of hr
  have nd := scshorter.nd
  refine ⟨_, (pss_cons (ps_for PassesOwn.never rfl (pi_range1 (by rfl) T.range (pa_cons (pe_op op_sub (pe_callB c_lenS (by rfl) T.len PySem.boot_len (pa_cons (pv 0) pa_nil)) pe_int) pa_nil)) (pg_name (i := 1) nd rfl (Or.inl rfl))
      (pss_one (ps_if (pt_cmpR op_eq (pe_ix ix_str (pv 0) (pv 1) (fun _ _ => rfl)) (pe_ix ix_str (pv 0) (pe_op op_add (pv 1) pe_int) (fun _ _ => rfl)) (nomark _))
        (pss_one (ps_ret (pe_op op_addS (pe_slice sl_S (pv 0) po_none (po_some (pv 1))) (pe_slice sl_S (pv 0) (po_some (pe_op op_add (pv 1) pe_int)) po_none))))
        pss_nil)))
      (pss_one (ps_ret (pv 0)))), ?_⟩
  refine s_start [some _, none] rfl ?_
  walk_at "go"
  refine for_it (walk_rI (fun i => ((i : Nat) : Int)) (fun k => Int.zero_add _)) (fun i σ H' => ∃ x1, σ = [some (.str (tx w)), x1] ∧ H' = H ∧ shorten w = w.take i ++ shorten (w.drop i)) ⟨_, rfl, rfl, rfl⟩ (fun _ _ _ _ _ => trivial) ?_ ?_
  · rintro i v σ H2 H3 hi ⟨x1, rfl, rfl, es⟩ ⟨rfl, rfl⟩
    have hi' : i + 1 < w.length := by omega
    have d1 : w.drop i = w.getD i 0 :: w.drop (i + 1) := by
      rw [List.drop_eq_getElem_cons (by omega), List.getD_eq_getElem?_getD, List.getElem?_eq_getElem (by omega)]
      rfl
    have d2 : w.drop (i + 1) = w.getD (i + 1) 0 :: w.drop (i + 2) := by
      rw [List.drop_eq_getElem_cons (by omega), List.getD_eq_getElem?_getD, List.getElem?_eq_getElem (by omega)]
      rfl
    walk_at "go"
    refine v_ixS (by omega) (at_getD (i := i) (by omega)) ?_
    walk_at "go"
    refine v_ixS (by omega) (at_getD (i := i + 1) (by omega)) ?_
    walk_at "go"
    rw [dec_tx]
    refine if_dec (fun c => ?_) (fun c => ?_)
    · injection c with c _
      walk_at "go"
      refine v_slTo (by omega) (by omega) ?_
      walk_at "go"
      refine v_slFrom (by omega) (by omega) ?_
      have e1 : ((i : Nat) : Int).toNat = i := Int.toNat_natCast i
      have e2 : (((i : Nat) : Int) + 2).toNat = i + 2 := by omega
      rw [e1, e2]
      have l1 : (w.take i).length + (w.drop (i + 2)).length ≤ 1000000 := by
        rw [List.length_take, List.length_drop]
        omega
      walk_at "go"
      have e3 : shorten w = w.take i ++ w.drop (i + 2) := by
        rw [es, d1, d2, ← c]
        congr 1
        exact if_pos rfl
      rw [← e3]
      exact q
    · have c : w.getD i 0 ≠ w.getD (i + 1) 0 := fun z => c (by rw [z])
      walk_at "go"
      refine ⟨_, rfl, rfl, ?_⟩
      have e4 : w.take (i + 1) = w.take i ++ [w.getD i 0] := take_getD (by omega)
      have e5 : shorten (w.drop i) = w.getD i 0 :: shorten (w.drop (i + 1)) := by
        rw [d1, d2]
        exact if_neg c
      rw [es, e4, e5, List.append_assoc]
      rfl
  · rintro σ H2 ⟨x1, rfl, rfl, es⟩
    walk_at "go"
    have e3 : shorten w = w := by
      rw [es]
      have : shorten (w.drop (((w.length : Int) - 1).toNat)) = w.drop (((w.length : Int) - 1).toNat) := by
        have l : (w.drop (((w.length : Int) - 1).toNat)).length ≤ 1 := by
          rw [List.length_drop]
          omega
        generalize w.drop (((w.length : Int) - 1).toNat) = z at l
        match z, l with
        | [], _ => rfl
        | [_], _ => rfl
      rw [this, List.take_append_drop]
    rw [e3] at q
    exact q
abbrev stexchanged : Stmt := (top 43)
abbrev Nexchanged : List Str := ["_law_table", "_law_walk", "_law_found", "_law_waiting", "_law_here", "_law_at", "_law_other"]
theorem scexchanged : FnScope Nexchanged ["_law_table", "_law_walk"] (defScope stexchanged) := ⟨rfl, rfl, rfl, by decide +kernel, rfl, by decide +kernel, by decide +kernel⟩

theorem ok_exchanged (F : FnAt K mg "_law_exchanged" stexchanged) (T : TxtH K mg) : Def P w K mg base CX0 1 "_law_exchanged" ["_law_table", "_law_walk"] spExchanged := by
  refine F.ok scexchanged (fun _ _ _ _ _ _ us hl => match us, hl with | [_, _], _ => rfl) (fun vs H Q E h => ?_) (fun f cdv A outer s H vs Q E hr h => ?_)
  · obtain ⟨d, ls, fn, w, rfl, _⟩ := h
    rfl
  obtain ⟨d, ls, fn, w, rfl, hd, fl, h6, hw, l7, q⟩ := h
  have hu := hu_of hr
  have nd := scexchanged.nd
  have ok := fl.ok
  have lt1 : ∀ c ∈ ls, c < 1000 := fun c hc => let_lt' c (fl.tab.lt c hc)
  refine ⟨_, (pss_cons (ps_par (i := 2) (j := 3) (by rfl) nd rfl rfl (by decide) rfl rfl (pa_cons (pe_disp (pps_cons (pv 1) pe_bl pps_nil) (by rfl) (by rfl) (fun z => by cases z) (by decide)) (pa_cons (pe_lst (pa_cons (pv 1) pa_nil)) pa_nil)) (by rfl))
      (pss_cutS (ps_while PassesOwn.never (pt_cmpR (op_neDK (K := K) rfl hr.units) (pv 3) (pe_lst pa_nil) (nomark _))
      (pss_cons (ps_set (i := 4) nd rfl (Or.inl rfl) (pe_pop0K (K := K) rfl (pv 3)))
        (pss_one (ps_for PassesOwn.never rfl (pi_range1 (by rfl) T.range (pa_cons (pe_op op_sub (pe_callB c_lenS (by rfl) T.len PySem.boot_len (pa_cons (pv 4) pa_nil)) pe_int) pa_nil)) (pg_name (i := 5) nd rfl (Or.inl rfl))
        (pss_one (ps_if (pt_cmpR op_inS (pe_ix ix_str (pv 4) (pe_op op_add (pv 5) pe_int) (fun _ _ => rfl)) (pe_dget hu (pv 0) (pe_ix ix_str (pv 4) (pv 5) (fun _ _ => rfl)) (fun _ _ => rfl)) (by rfl))
          (pss_cons (ps_set (i := 6) nd rfl (Or.inl rfl) (pe_op op_addS (pe_op op_addS (pe_op op_addS (pe_slice sl_S (pv 4) po_none (po_some (pv 5))) (pe_ix ix_str (pv 4) (pe_op op_add (pv 5) pe_int) (fun _ _ => rfl))) (pe_ix ix_str (pv 4) (pv 5) (fun _ _ => rfl))) (pe_slice sl_S (pv 4) (po_some (pe_op op_add (pv 5) pe_int)) po_none)))
            (pss_one (ps_if (pt_cmp (pc_dnotin hu (pv 6) (pv 2)))
            (pss_cons (ps_dput hu (pv 2) (pv 6) pe_bl rfl)
              (pss_one (ps_expr (pe_appK (K := K) rfl (pv 3) (pv 6)))))
            pss_nil)))
          pss_nil))))))
      (pss_one (ps_ret (pe_callTy (call_list_dK rfl) (by rfl) T.list (by decide +kernel) (pa_cons (pv 2) pa_nil)))))), ?_⟩
  refine s_start [some _, some _, none, none, none, none, none] rfl ?_
  walk_at "go"
  intro fo hfo
  walk_at "go"
  refine ⟨upd_same, [((Sum.inr (tx w) : Key), V.bl true)], rfl, (show 1 ≤ 15 by decide), ?_⟩
  rw [merge_new (fun _ _ => rfl) (List.pairwise_singleton _ _), List.nil_append]
  have s1 : Same H (upd (upd H fo (.dK [])) fo (.dK [((Sum.inr (tx w) : Key), V.bl true)])) := fun b o hb => by
    rw [upd_ne (ne_of_none hb hfo), upd_ne (ne_of_none hb hfo)]
    exact hb
  have e1 : upd (upd H fo (.dK [])) fo (.dK [((Sum.inr (tx w) : Key), V.bl true)]) fo = some (.dK (wordsKV [w])) := upd_same
  generalize upd (upd H fo (.dK [])) fo (.dK [((Sum.inr (tx w) : Key), V.bl true)]) = H1 at s1 e1 ⊢
  walk_at "go"
  intro wa H2 hwa s2 e2
  have e2 : H2 wa = some (.lst (strsG [w])) := e2
  have hwaH : H wa = none := L2.Same.free s1 hwa
  have nfw : fo ≠ wa := ne_of_none e1 hwa
  walk_at "go"
  have f0 : Found fn w [w] [w] none := ⟨by simp, List.mem_singleton_self _, fun v hv => by rw [List.mem_singleton.mp hv]; exact .refl, fun v hv => hv, fun v hv nv => absurd hv nv⟩
  refine s_cut (fun σ H' => ∃ E x4 x5 x6, σ = [some (.ref d), some (.str (tx w)), some (.ref fo), some (.ref wa), x4, x5, x6] ∧ Same H H' ∧ H' fo = some (.dK (wordsKV E)) ∧ ClassOf fn w E) ?_ ?_
  · refine s_while (fun m σ H' => ∃ E W x4 x5 x6, m = 2 * (300000 - E.length) + W.length ∧ σ = [some (.ref d), some (.str (tx w)), some (.ref fo), some (.ref wa), x4, x5, x6] ∧ Same H H' ∧ H' fo = some (.dK (wordsKV E)) ∧ H' wa = some (.lst (strsG W)) ∧ Found fn w E W none ∧ W.length ≤ E.length) (2 * 299999 + 1) ⟨[w], [w], _, _, _, rfl, rfl, s1.trans s2, s2 _ _ e1, e2, f0, Nat.le_refl _⟩ ?_
    rintro m σ H3 ⟨E, W, x4, x5, x6, rfl, rfl, s3, e3, e3w, fd, lWE⟩
    have mE : ∀ v ∈ E, ∀ c ∈ v, c ∈ ls := fun v hv c hc => hw c ((fd.ex v hv).perm.mem_iff.mp hc)
    have lE := class_small h6 l7 hw fd.nd fd.ex
    walk_at "go"
    intro q4 H4 hq4 s4 e4
    refine v_neNilG (s4 _ _ e3w) (fun v hv c hc => lt1 c (mE v (fd.sub v hv) c hc)) e4 ?_
    rcases List.eq_nil_or_concat W with rfl | ⟨W0, v, rfl⟩
    · walk_at "go"
      exact ⟨E, _, _, _, rfl, s3.trans s4, s4 _ _ e3, fd.nd, fd.all, lE⟩
    have hv : v ∈ E := fd.sub v (by simp)
    have lv : v.length ≤ 7 := by rw [(fd.ex v hv).len]; exact l7
    have mv := mE v hv
    rw [show (!(W0.concat v).isEmpty) = true by simp]
    walk_at "go"
    refine v_turn ?_
    have e4w : H4 wa = some (.lst (strsG W0 ++ [.str (tx v)])) := by
      rw [s4 _ _ e3w, List.concat_eq_append]
      unfold strsG
      rw [List.map_append]
      rfl
    walk_at "go"
    refine v_pop0 e4w fun H5 k5 e5 => ?_
    have s5 : Same H H5 := fun b o hb => k5 _ _ (s4 _ _ (s3 _ _ hb)) (ne_of_none hb hwaH)
    have e5f := k5 _ _ (s4 _ _ e3) nfw
    have fd5 : Found fn w E W0 (some v) := by
      rw [List.concat_eq_append] at fd
      exact fd.pop
    have lW : W0.length + 1 = (W0.concat v).length := by simp
    walk_at "go"
    refine for_it (walk_rI (fun i => ((i : Nat) : Int)) (fun k => Int.zero_add _)) (fun i σ H' => ∃ E' W' x5 x6, σ = [some (.ref d), some (.str (tx w)), some (.ref fo), some (.ref wa), some (.str (tx v)), x5, x6] ∧ 2 * (300000 - E'.length) + W'.length ≤ 2 * (300000 - E.length) + W0.length ∧ W'.length ≤ E'.length ∧ Same H H' ∧ H' fo = some (.dK (wordsKV E')) ∧ H' wa = some (.lst (strsG W')) ∧ Found fn w E' W' (some v) ∧ v ∈ E' ∧ ∀ a x y b, v = a ++ x :: y :: b → a.length < i → y ∈ fn x → a ++ y :: x :: b ∈ E') ⟨E, W0, _, _, rfl, Nat.le_refl _, by omega, s5, e5f, e5, fd5, hv, fun _ _ _ _ _ z => by omega⟩ (fun _ _ _ _ _ => trivial) ?_ ?_
    · rintro i u σ H6 H7 hi ⟨E', W', x5, x6, rfl, lm, lWE', s6, e6, e6w, fd6, hv6, pr⟩ ⟨rfl, rfl⟩
      have hi' : i + 1 < v.length := by omega
      have lE' := class_small h6 l7 hw fd6.nd fd6.ex
      have c0 : v.getD i 0 ∈ ls := mv _ (getD_mem (by omega))
      have d1 : v.drop i = v.getD i 0 :: v.drop (i + 1) := by
        rw [List.drop_eq_getElem_cons (by omega), List.getD_eq_getElem?_getD, List.getElem?_eq_getElem (by omega)]
        rfl
      have d2 : v.drop (i + 1) = v.getD (i + 1) 0 :: v.drop (i + 2) := by
        rw [List.drop_eq_getElem_cons (by omega), List.getD_eq_getElem?_getD, List.getElem?_eq_getElem (by omega)]
        rfl
      have ev : v = v.take i ++ v.getD i 0 :: v.getD (i + 1) 0 :: v.drop (i + 2) := by
        rw [← d2, ← d1, List.take_append_drop]
      have parts : ∀ a x y b, v = a ++ x :: y :: b → a.length < i + 1 → y ∈ fn x → a.length < i ∨ (x = v.getD i 0 ∧ y = v.getD (i + 1) 0 ∧ a ++ y :: x :: b = v.take i ++ v.getD (i + 1) 0 :: v.getD i 0 :: v.drop (i + 2)) := fun a x y b e l _ => by
        rcases Nat.lt_or_ge a.length i with l2 | l2
        · exact .inl l2
        · have la : a.length = (v.take i).length := by rw [List.length_take]; omega
          obtain ⟨q1, q2⟩ := List.append_inj (e.symm.trans ev) la
          injection q2 with q2 q3
          injection q3 with q3 q4
          exact .inr ⟨q2, q3, by rw [q1, q2, q3, q4]⟩
      walk_at "go"
      refine v_ixS (by omega) (at_getD (i := i + 1) (by omega)) ?_
      walk_at "go"
      refine v_ixS (by omega) (at_getD (i := i) (by omega)) ?_
      walk_at "go"
      refine v_dget (tab_get (s6 _ _ hd) c0) ?_
      walk_at "go"
      refine if_dec (fun cr => ?_) (fun cr => ?_)
      · walk_at "go"
        refine v_slTo (by omega) (by omega) ?_
        walk_at "go"
        refine v_ixS (by omega) (at_getD (i := i + 1) (by omega)) ?_
        have t1 : (((i : Nat) : Int)).toNat = i := Int.toNat_natCast i
        have t2 : (((i : Nat) : Int) + 2).toNat = i + 2 := by omega
        rw [t1]
        have l1 : (v.take i).length + [v.getD (i + 1) 0].length ≤ 1000000 := by
          rw [List.length_take, List.length_singleton]
          omega
        have l2 : (v.take i ++ [v.getD (i + 1) 0]).length + [v.getD i 0].length ≤ 1000000 := by
          rw [List.length_append, List.length_take, List.length_singleton, List.length_singleton]
          omega
        walk_at "go"
        refine v_ixS (by omega) (at_getD (i := i) (by omega)) ?_
        walk_at "go"
        refine v_slFrom (by omega) (by omega) ?_
        rw [t2]
        have l3 : (v.take i ++ [v.getD (i + 1) 0] ++ [v.getD i 0]).length + (v.drop (i + 2)).length ≤ 1000000 := by
          rw [List.length_append, List.length_append, List.length_take, List.length_singleton, List.length_singleton, List.length_drop]
          omega
        walk_at "go"
        have eu : v.take i ++ [v.getD (i + 1) 0] ++ [v.getD i 0] ++ v.drop (i + 2) = v.take i ++ v.getD (i + 1) 0 :: v.getD i 0 :: v.drop (i + 2) := by simp
        rw [eu]
        have su : Sw fn v (v.take i ++ v.getD (i + 1) 0 :: v.getD i 0 :: v.drop (i + 2)) := by
          conv => arg 2; rw [ev]
          exact .mk _ _ _ _ cr
        generalize hun : v.take i ++ v.getD (i + 1) 0 :: v.getD i 0 :: v.drop (i + 2) = un at su parts ⊢
        refine v_dnotin (words_get e6) ?_
        by_cases hu : un ∈ E'
        · rw [if_pos hu]
          walk_at "go"
          refine ⟨E', W', _, _, rfl, lm, lWE', s6, e6, e6w, fd6, hv6, fun a x y b e l h => ?_⟩
          rcases parts a x y b e l h with l2 | ⟨_, _, q3⟩
          · exact pr a x y b e l2 h
          · rw [q3]
            exact hu
        · rw [if_neg hu]
          walk_at "go"
          rw [if_pos (show (!(none : Option V).isSome) = true from rfl)]
          walk_at "go"
          have fd8 := fd6.add hv6 su hu
          have lE8 := class_small h6 l7 hw fd8.nd fd8.ex
          rw [List.length_append, List.length_singleton] at lE8
          refine v_put (words_put e6 hu (by omega)) fun H8 k8 e8 => ?_
          have e8w := k8 _ _ e6w nfw.symm
          walk_at "go"
          refine v_app e8w (by unfold strsG; rw [List.length_map]; omega) fun H9 k9 e9 => ?_
          refine ⟨E' ++ [un], W' ++ [un], _, _, rfl, ?_, ?_, fun b o hb => k9 _ _ (k8 _ _ (s6 _ _ hb) (ne_of_none hb hfo)) (ne_of_none hb hwaH), k9 _ _ e8 nfw, ?_, fd8, List.mem_append_left _ hv6, fun a x y b e l h => ?_⟩
          · rw [List.length_append, List.length_append, List.length_singleton]
            omega
          · rw [List.length_append, List.length_append, List.length_singleton]
            omega
          · rw [e9]
            unfold strsG
            rw [List.map_append]
            rfl
          · rcases parts a x y b e l h with l2 | ⟨_, _, q3⟩
            · exact List.mem_append_left _ (pr a x y b e l2 h)
            · rw [q3]
              exact List.mem_append_right _ (List.mem_singleton_self _)
      · walk_at "go"
        refine ⟨E', W', _, _, rfl, lm, lWE', s6, e6, e6w, fd6, hv6, fun a x y b e l h => ?_⟩
        rcases parts a x y b e l h with l2 | ⟨q1, q2, _⟩
        · exact pr a x y b e l2 h
        · rw [q1, q2] at h
          exact absurd h cr
    rintro σ H6 ⟨E', W', x5, x6, rfl, lm, lWE', s6, e6, e6w, fd6, hv6, pr⟩
    refine ⟨_, ?_, E', W', _, _, _, rfl, rfl, s6, e6, e6w, fd6.close fun u s => ?_, lWE'⟩
    · omega
    · cases s with
      | mk a b x y h => exact pr a x y b rfl (by rw [List.length_append, List.length_cons, List.length_cons]; omega) h
  rintro σ H3 ⟨E, x4, x5, x6, rfl, s3, e3, cE⟩
  walk_at "go"
  refine v_listD e3 fun p H4 hp s4 e4 => ?_
  rw [words_keys] at e4
  exact q p E H4 (L2.Same.free s3 hp) (s3.trans s4) cE e4
abbrev stshortest_ones : Stmt := (top 44)
abbrev Nshortest_ones : List Str := ["_law_table", "_law_walk", "_law_found", "_law_paired", "_law_other"]
theorem scshortest_ones : FnScope Nshortest_ones ["_law_table", "_law_walk"] (defScope stshortest_ones) := ⟨rfl, rfl, rfl, by decide +kernel, rfl, by decide +kernel, by decide +kernel⟩

theorem ok_shortest_ones (F : FnAt K mg "_law_shortest_ones" stshortest_ones) (D_exchanged : Def P w K mg base CX0 1 "_law_exchanged" ["_law_table", "_law_walk"] spExchanged) (D_shorter : Def P w K mg base CX0 1 "_law_shorter" ["_law_walk"] spShorter) : Def P w K mg base CX0 2 "_law_shortest_ones" ["_law_table", "_law_walk"] spShortest := by
  refine F.ok scshortest_ones (fun _ _ _ _ _ _ us hl => match us, hl with | [_, _], _ => rfl) (fun vs H Q E h => ?_) (fun f cdv A outer s H vs Q E hr h => ?_)
  · obtain ⟨d, ls, fn, w, rfl, _⟩ := h
    rfl
  obtain ⟨d, ls, fn, w, rfl, hd, fl, h6, hw, l7, q⟩ := h
  have hu := hu_of hr
  have nd := scshortest_ones.nd
  have ok := fl.ok
  have lt1 : ∀ c ∈ ls, c < 1000 := fun c hc => let_lt' c (fl.tab.lt c hc)
  refine ⟨_, (pss_cons (ps_set (i := 2) nd rfl (Or.inl rfl) (pe_cd D_exchanged hr pass0 (pa_cons (pv 0) (pa_cons (pv 1) pa_nil))))
      (pss_cons (ps_setLc (i := 3) (own := [("_law_other", 4)]) (g := gName 4) (by rfl) nd rfl rfl (sw_true rfl rfl rfl (by decide +kernel)) (pi_listK (K := K) rfl (pv 2)) (blkOk_by (own := [("_law_other", 4)]) (N := Nshortest_ones) (sc := defScope stshortest_ones) (by decide +kernel)) (fun _ _ _ _ _ => (pg_name (i := 4) nd rfl (Or.inl rfl))) (fun _ _ _ _ _ => (pts_one (pt_cmpR op_ne (pe_cd D_shorter hr pass0 (pa_cons (pv 4) pa_nil)) (pv 4) (nomark _)))) (fun _ _ _ _ _ => (pv 4)))
      (pss_cutS (ps_while PassesOwn.never (pt_cmpR (op_neDK (K := K) rfl hr.units) (pv 3) (pe_lst pa_nil) (nomark _))
      (pss_cons (ps_set (i := 2) nd rfl (Or.inl rfl) (pe_cd D_exchanged hr pass0 (pa_cons (pv 0) (pa_cons (pe_cd D_shorter hr pass0 (pa_cons (pe_ix (ix_LK (K := K) rfl) (pv 3) pe_int (fun _ _ => rfl)) pa_nil)) pa_nil))))
        (pss_one (ps_setLc (i := 3) (own := [("_law_other", 4)]) (g := gName 4) (by rfl) nd rfl rfl (sw_true rfl rfl rfl (by decide +kernel)) (pi_listK (K := K) rfl (pv 2)) (blkOk_by (own := [("_law_other", 4)]) (N := Nshortest_ones) (sc := defScope stshortest_ones) (by decide +kernel)) (fun _ _ _ _ _ => (pg_name (i := 4) nd rfl (Or.inl rfl))) (fun _ _ _ _ _ => (pts_one (pt_cmpR op_ne (pe_cd D_shorter hr pass0 (pa_cons (pv 4) pa_nil)) (pv 4) (nomark _)))) (fun _ _ _ _ _ => (pv 4))))))
      (pss_one (ps_ret (pv 2)))))), ?_⟩
  refine s_start [some _, some _, none, none, none] rfl ?_
  walk_at "go"
  refine ⟨d, ls, fn, w, rfl, hd, fl, h6, hw, l7, fun fo E H1 hfo s1 cE e1 => ?_⟩
  walk_at "go"
  refine vals_someG (Gs := E) (b := fun v => !decide (shorten v = v)) (f := fun v => V.str (tx v)) (walk_strsL (Gs := E)) (fun H' s' => SqL.of (s' _ _ e1)) (by have := cE.2.2; omega) (fun v hv H8 s8 Rk r' => ?_) (fun v hv hb H8 s8 Rk r' => ?_) (fun pa H2 hpa s2 e2 => ?_)
  · have lv : v.length ≤ 7 := by rw [((cE.2.1 v).mp hv).len]; exact l7
    walk_at "go"
    refine ⟨v, rfl, by omega, ?_⟩
    walk_at "go"
    rw [dec_tx]
    exact r' H8 (Same.refl _)
  · walk_at "go"
    exact r' H8 (Same.refl _)
  refine s_cut (fun σ H' => ∃ fo pa u E x4, σ = [some (.ref d), some (.str (tx w)), some (.ref fo), pa, x4] ∧ Same H H' ∧ Clean fn u ∧ (∀ c ∈ u, c ∈ ls) ∧ u.length ≤ 7 ∧ nameOf fn u = nameOf fn w ∧ ClassOf fn u E ∧ H' fo = some (.lst (strsG E))) ?_ ?_
  · refine s_while (fun m σ H' => ∃ fo pa u E x4, m = u.length ∧ σ = [some (.ref d), some (.str (tx w)), some (.ref fo), some (.ref pa), x4] ∧ Same H H' ∧ (∀ c ∈ u, c ∈ ls) ∧ u.length ≤ 7 ∧ nameOf fn u = nameOf fn w ∧ ClassOf fn u E ∧ H' fo = some (.lst (strsG E)) ∧ H' pa = some (.lst (strsG (E.filter fun v => !decide (shorten v = v))))) w.length ⟨fo, pa, w, E, _, rfl, rfl, s1.trans s2, hw, l7, rfl, cE, s2 _ _ e1, e2⟩ ?_
    rintro m σ H3 ⟨fo, pa, u, E, x4, rfl, rfl, s3, mu, lu, nu, cE, e3, e3p⟩
    have mE : ∀ v ∈ E, ∀ c ∈ v, c ∈ ls := fun v hv c hc => mu c (((cE.2.1 v).mp hv).perm.mem_iff.mp hc)
    walk_at "go"
    intro q4 H4 hq4 s4 e4
    refine v_neNilG (s4 _ _ e3p) (fun v hv c hc => lt1 c (mE v (List.mem_filter.mp hv).1 c hc)) e4 ?_
    cases hF : E.filter fun v => !decide (shorten v = v) with
    | nil =>
      walk_at "go"
      refine ⟨fo, _, u, E, _, rfl, s3.trans s4, fun v hv db => ?_, mu, lu, nu, cE, s4 _ _ e3⟩
      have hvE := (cE.2.1 v).mpr hv
      have := List.filter_eq_nil_iff.mp hF v hvE
      have es : shorten v = v := by simpa using this
      rcases shorten_cases v with ⟨_, n⟩ | ⟨a, x, b, h1, h2⟩
      · exact n db
      · have := congrArg List.length (es.symm.trans h2)
        rw [h1] at this
        simp at this
        omega
    | cons v r =>
      rw [hF] at e3p
      have hv : v ∈ E ∧ (!decide (shorten v = v)) = true := List.mem_filter.mp (by rw [hF]; exact List.mem_cons_self ..)
      have hve : shorten v ≠ v := by simpa using hv.2
      have exv := (cE.2.1 v).mp hv.1
      have lv : v.length = u.length := exv.len
      have sl := shorten_len hve
      walk_at "go"
      refine v_turn ?_
      walk_at "go"
      refine v_ixL (s4 _ _ e3p) (atI_nat (j := 0) rfl) ?_
      walk_at "go"
      refine ⟨v, rfl, by omega, ?_⟩
      walk_at "go"
      have s04 := s3.trans s4
      have mS : ∀ c ∈ shorten v, c ∈ ls := fun c hc => mE v hv.1 c (shorten_mem hc)
      refine ⟨d, ls, fn, shorten v, rfl, s04 _ _ hd, fl, h6, mS, by omega, fun fo2 E2 H5 hfo2 s5 cE2 e5 => ?_⟩
      walk_at "go"
      refine vals_someG (Gs := E2) (b := fun v => !decide (shorten v = v)) (f := fun v => V.str (tx v)) (walk_strsL (Gs := E2)) (fun H' s' => SqL.of (s' _ _ e5)) (by have := cE2.2.2; omega) (fun v2 hv2 H8 s8 Rk r' => ?_) (fun v2 hv2 hb H8 s8 Rk r' => ?_) (fun pa2 H6 hpa2 s6 e6 => ?_)
      · have lv2 : v2.length ≤ 7 := by rw [((cE2.2.1 v2).mp hv2).len]; omega
        walk_at "go"
        refine ⟨v2, rfl, by omega, ?_⟩
        walk_at "go"
        rw [dec_tx]
        exact r' H8 (Same.refl _)
      · walk_at "go"
        exact r' H8 (Same.refl _)
      refine ⟨(shorten v).length, by omega, fo2, pa2, shorten v, E2, _, rfl, rfl, (s04.trans s5).trans s6, mS, by omega, ?_, cE2, s6 _ _ e5, e6⟩
      rw [shorten_name ok, exv.name ok, nu]
  rintro σ H3 ⟨fo, pa, u, E, x4, rfl, s3, cl, mu, lu, nu, cE, e3⟩
  walk_at "go"
  exact q fo E H3 u s3 cl mu lu nu cE e3
end
end Cw
set_option Elab.async false
set_option linter.all false
set_option maxRecDepth 100000
set_option maxHeartbeats 4000000
/-! ''.join(d): the keys of a dict, one behind another -/
namespace PySem
open Builtin Builtin.Str
theorem keyit_len : typeLookup (.type "dict_keyiterator") "__len__" = pure none := by rw [typeLookup_type, builtinLookup_eq_fast]; kernel_rfl
section
variable {prog : Program} {w : World} {A : Around} {E : Value → Shared → Prop} {s : Shared} {J : Addr} {fp wr : List Addr} {G : Array GenState → Array GenState → Prop} {m : Nat} {P : Nat → Value → Prop} {Z : Nat → Shared → Prop}
theorem collect_keyit {Q : List Value → Shared → Prop} (W : WalksS prog w A.in1 J fp wr G m P Z) (ty : ∀ i s, Z i s → s.TypeIs (.ref J) "dict_keyiterator") (z0 : Z 0 s) (lt : ∀ b ∈ fp, b < s.heap.objs.size) (mem : J ∈ fp) (sz : m ≤ sizeLine)
    (hQ : ∀ s' acc, Moved wr G s s' → ItemsOf P acc m → Q acc.toList s') : wpAny (model prog w) A (collect (.ref J)) Q E s := by
  have out : s.heap.objs.size ∉ fp := fun z => absurd (lt _ z) (Nat.lt_irrefl _)
  have ne : s.heap.objs.size ≠ J := fun z => out (z.symm ▸ mem)
  let L : Obj := { cls := .type "list", data := .seq ([] : List Value).toArray }
  have z1 := W.frame 0 s (s.heap.push L) s.toks z0 (Nat.le_refl _) fun _ _ _ e => Heap.get?_push_of_some _ e
  have at1 : (s.heap.push L).get? s.heap.objs.size = some L := Heap.get?_push_size _ rfl
  have t1 := ty 0 _ z1
  have d1 : Builtin.List.listSameRef (.ref s.heap.objs.size) (.ref J) = false := by simp [Builtin.List.listSameRef, ne]
  unfold collect
  apply wpAny_bind
  apply wpAny_runValue
  apply codeAny_builtin F.entry_proto_collect
  rw [show A.under (.builtin "proto.collect" ⟨[.ref J], []⟩) = A.in1 from Around.under_plainId F.plain_proto_collect _]
  show wpAny (model prog w) A.in1 (newList [] >>= fun l => again (.builtin "list.__iadd__" ⟨[l, Value.ref J], []⟩)) _ _ s
  refine wpAny_bind (wpAny_newObj_type (wpAny_pure ⟨plainId_quiet F.plain_list_iadd _, (?_ : codeAny _ _ _ _ _)⟩))
  apply codeAny_builtin F.entry_list_iadd
  rw [show A.under (.builtin "list.__iadd__" ⟨[.ref s.heap.objs.size, .ref J], []⟩) = A.in1 from Around.under_plainId F.plain_list_iadd _]
  show wpAny (model prog w) A.in1 (Builtin.List.listExtendWith (.ref s.heap.objs.size) (.ref J) (.ref s.heap.objs.size)) _ _ { s with heap := s.heap.push L }
  unfold Builtin.List.listExtendWith
  apply wpAny_bind
  refine wpAny_typeOf t1 ?_
  rw [if_neg (show ¬ _ by rw [d1]; decide)]
  apply wpAny_bind
  refine W.self 0 _ _ _ z1 ?_
  apply wpAny_bind
  apply wpAny_holding
  unfold Builtin.List.listLengthHint
  apply wpAny_bind
  refine wpAny_specialOf t1 keyit_len ?_
  show wpAny (model prog w) A.in1 (specialOf (Value.ref J) (Str.ofString "__length_hint__") >>= fun _ => _) _ _ _
  apply wpAny_bind
  refine wpAny_specialOf t1 F.slot_dict_keyiterator_length_hint.lookup ?_
  generalize hj : ("dict_keyiterator.__length_hint__" : String) = jd
  wp_delta
  rw [show splitId jd = some ("dict_keyiterator", "__length_hint__") by subst hj; decide +kernel]
  subst hj
  apply wpAny_bind
  refine wpAny_isInstance (b := true) t1 (by rw [isSubtype_type]; kernel_rfl) ?_
  apply wpAny_pure
  rw [if_neg (by decide)]
  apply wpAny_pure
  refine ⟨plainId_quiet F.plain_extend_loop _, codeAny_extend_loopS W sz _ out _ m 0 _ _ _ rfl (Nat.zero_le _) z1 at1 (ItemsOf.nil P) fun s2 acc c mv at2 items => ?_⟩
  apply wpAny_bind
  refine wpAny_load at2 ?_
  apply wpAny_pure
  exact hQ s2 acc (Moved.drop_new (o := L) (tk := s.toks) mv (Nat.le_refl _)) items
end
section
variable {prog : Program} {w : World} {A : Around} {E : Value → Shared → Prop} {s : Shared} {sep : Str} {t : Tok} {Q : Value → Shared → Prop}
theorem join_keys {K : Type} [DecidableEq K] {knd : KeyKind prog w K} {d : Addr} {kvs : List (K × Value)} {ep : Nat} (nf : A.handled = none) (lo : (d == sysModules) = false) (hm : s.heap.DictAt knd d kvs ep) (sz : kvs.length ≤ sizeLine)
    (str : ∀ (i : Nat) (k : K) (x v : Value), kvs[i]? = some (k, x) → knd.is k v = true → ∃ y u, v = Value.str y u)
    (hq : ∀ h' (l : List (Str × Tok)), (∀ b o, s.heap.get? b = some o → h'.get? b = some o) → ItemsOf (fun (i : Nat) v => ∃ k x, kvs[i]? = some (k, x) ∧ knd.is k v = true) (strValues l).toArray kvs.length → JoinOk sep (l.map (·.1)) = true ∧ ∀ t' k, Q (.str (Txt.join sep (l.map (·.1))) t') { s with heap := h', toks := k }) :
    wpAny (model prog w) A (call (.builtin "str.join") [.str sep t, .ref d]) Q E s := by
  apply wpAny_call
  refine codeAny_call_builtin F.slot_str_join.plain F.entry_str_join (F.slot_str_join.check _ _ _ _ _ _ _ _ (typeIs_str _ _ _) (F.args_str_join_2 _ _) ?_)
  rw [join_tree_other]
  apply wpAny_bind
  refine wpAny_typeOf hm.dictOf.typeIs ?_
  show wpAny (model prog w) A.in1 ((pyIter (.ref d)).tryCatch _ >>= fun it => collect it >>= fun xs => joinTail sep xs) _ _ s
  apply wpAny_bind
  apply wpAny_tryCatch
  refine wpAny_pyIter_dict lo hm ?_
  have ne : d ≠ s.heap.objs.size := Nat.ne_of_lt hm.lt_size
  have W := (Walks.dictKeys (knd := knd) (A := A.in1.in1) nf s.heap.objs.size d ne kvs ep).toS
  apply wpAny_bind
  refine collect_keyit W (fun _ _ st => st.1.typeIs) ⟨⟨_, Heap.get?_push_size _ rfl, rfl, rfl⟩, hm.push _⟩ (fun b hb => ?_) (by simp) sz fun s2 acc mv items => ?_
  · rcases List.mem_cons.mp hb with rfl | hb
    · exact Heap.lt_size (Heap.get?_push_size _ rfl)
    · rw [List.mem_singleton.mp hb]
      exact (hm.push _).lt_size
  obtain ⟨l, hl⟩ := exists_strValues acc.toList fun v hv => by
    obtain ⟨j, hj, rfl⟩ := Array.mem_iff_getElem.mp (Array.mem_toList_iff.mp hv)
    obtain ⟨k, x, e1, e2⟩ := items.2 j _ (Array.getElem?_eq_getElem hj)
    exact str j k x _ e1 e2
  have items : ItemsOf (fun (i : Nat) v => ∃ k x, kvs[i]? = some (k, x) ∧ knd.is k v = true) (strValues l).toArray kvs.length := by
    rw [hl]
    simpa using items
  rw [← hl]
  have same : ∀ k, ({ s2 with toks := k } : Shared) = { s with heap := s2.heap, toks := k } := by
    intro k
    obtain ⟨g1, g2, g3⟩ : s2.gens = s.gens ∧ s2.drawn = s.drawn ∧ s2.os = s.os := ⟨mv.gens, mv.drawn, mv.os⟩
    obtain ⟨hp, g, d, tk, os⟩ := s2
    obtain ⟨hp0, g0, d0, tk0, os0⟩ := s
    simp only at g1 g2 g3
    subst g1; subst g2; subst g3
    rfl
  obtain ⟨jk, post⟩ := hq s2.heap l (fun b o e => mv.heap b o (fun z => absurd (Heap.lt_size e) (by rw [List.mem_singleton.mp z]; exact Nat.lt_irrefl _)) (Heap.get?_push_of_some _ e)) items
  have jk' := jk
  unfold JoinOk at jk'
  rw [Bool.not_eq_true'] at jk'
  have g1 : Gives (joinTail sep (strValues l)) (joinMade sep l) := by
    clear post items hl
    have z := gives_joinTail sep l jk'
    rcases l with _ | ⟨a, _ | ⟨b, r⟩⟩
    · exact z
    · exact z
    · exact z
  exact g1 prog w A (wants Q E) s2 (post_join l ⟨joinFit_length jk', fun t' k => by rw [same k]; exact post t' k⟩)
end
end PySem

namespace Cw
open PySem PySem.Spec L2 PyProof.Rows
section
variable {X : Cx} {K : PySem.W.Frag}
/-- the letters that are the keys of a dict -/
def rJoinD : V → List V → Hp → VK → Prop := fun x xs H Q => ∃ (p : Addr) (ls : List Nat) (g : Nat → V), x = .str (tx []) ∧ xs = [.ref p] ∧ H p = some (.dK (ls.map fun c => ((Sum.inr (tx [c]) : Key), g c))) ∧ ls.length ≤ 1000 ∧ Q (.str (tx ls)) H
theorem mt_joinD (hc : X.calm = true) : MtR X "str.join" rJoinD := by
  intro pins s σ H x xs v us Q I rx rs h
  obtain ⟨p, ls, g, rfl, rfl, hp, hl, h⟩ := h
  obtain ⟨t, rfl⟩ := rx
  cases rs with
  | cons r1 rs =>
    cases rs
    cases r1
    obtain ⟨z, lo, vs, rk, hd⟩ := (show ObjOk X.prog X.w H s.heap p (.dK _) from I.hok p _ hp)
    obtain ⟨ep, hat⟩ := hd.dictAt
    have len : vs.length = ls.length := by
      have := Paired.length rk
      rw [List.length_map] at this
      exact this.symm
    have key : ∀ (i : Nat) (k : Key) (y : Value), vs[i]? = some (k, y) → ∃ c, ls[i]? = some c ∧ k = Sum.inr (tx [c]) := by
      intro i k y e
      have e1 := KV.keys rk
      have e2 : (vs.map (·.1))[i]? = some k := by rw [List.getElem?_map, e]; rfl
      rw [← e1, List.map_map, List.getElem?_map] at e2
      cases hc : ls[i]? with
      | none => rw [hc] at e2; cases e2
      | some c =>
        rw [hc] at e2
        injection e2 with e2
        exact ⟨c, rfl, e2.symm⟩
    refine join_keys (knd := mixKind X.prog X.w) (I.ok.hd hc) lo hat (by rw [len]; exact szl (by omega)) (fun i k y u e1 e2 => ?_) (fun h' l hk items => ?_)
    · obtain ⟨c, _, rfl⟩ := key i k y e1
      have e2 : keyIs (Sum.inr (tx [c])) u = true := e2
      rcases keyIs_shape e2 with ⟨j, t, e, _⟩ | ⟨x, t, _, e⟩
      · cases e
      · exact ⟨x, t, e⟩
    · have l1 : l.length = ls.length := by
        have := items.1
        rw [len] at this
        simpa [strValues] using this
      have e : l.map (·.1) = (ls.map fun c => [c]).map tx := by
        apply List.ext_getElem?
        intro j
        rw [List.map_map, List.getElem?_map, List.getElem?_map]
        cases hj : l[j]? with
        | none =>
          have := List.getElem?_eq_none_iff.mp hj
          rw [List.getElem?_eq_none (by omega)]
          rfl
        | some q =>
          obtain ⟨k, y, e1, e2⟩ := items.2 j (.str q.1 q.2) (by simp [strValues, hj])
          obtain ⟨c, hc, rfl⟩ := key j k y e1
          rw [hc]
          have e2 : keyIs (Sum.inr (tx [c])) (.str q.1 q.2) = true := e2
          rcases keyIs_shape e2 with ⟨_, _, e, _⟩ | ⟨x, t, ex, e⟩
          · cases e
          · injection ex with ex
            injection e with e _
            show some q.1 = some (tx [c])
            rw [e, ← ex]
      have fl : (ls.map fun c => [c]).flatten = ls := by
        clear e l1 items key len hd lo z hp h hl rk
        induction ls with
        | nil => rfl
        | cons c r ih => rw [List.map_cons, List.flatten_cons, ih]; rfl
      rw [e, join_empty, fl]
      refine ⟨?_, fun t' k => ⟨.str (tx ls), H, I.kept hk, ⟨t', rfl⟩, h⟩⟩
      refine joinOk_of ?_
      rw [List.map_map, List.map_map]
      have s1 : (ls.map (Str.length ∘ tx ∘ fun c => [c])).sum = ls.length := by
        clear e l1 items key len hd lo z hp h hl rk fl
        induction ls with
        | nil => rfl
        | cons c r ih =>
          rw [List.map_cons, List.sum_cons, ih, List.length_cons]
          show (tx [c]).length + r.length = _
          rw [tx_len, List.length_singleton]
          omega
      have s2 : (tx []).length = 0 := by rw [tx_len]; rfl
      rw [s2, Nat.mul_zero, Nat.add_zero]
      exact Nat.le_trans (Nat.le_of_eq s1) (by omega)
theorem pe_joinD {o e : Expr} {to te : TE} {apos pos : PySem.Pos} (hc : X.calm = true) (ho : PE X o to) (he : PE X e te) (hs : starEach [e] X.env = [(false, eval e X.env)] := by rfl) (hbase : attributeBase o "join" X.env (eval o X.env) = eval o X.env := by rfl) (hline : (apos.endLine == pos.line) = true := by rfl) :
    PE X (.Call (.Attribute o "join" apos) [e] [] pos) (tM1 rJoinD to te) := pe_m1 PySem.F.slot_str_join PySem.F.type_str_join (mt_joinD hc) ho he hs hbase hline
theorem v_joinD {H : Hp} {Q : VK} {p : Addr} {ls : List Nat} {g : Nat → V} (h : H p = some (.dK (ls.map fun c => ((Sum.inr (tx [c]) : Key), g c)))) (l : ls.length ≤ 1000) (q : Q (.str (tx ls)) H) : rJoinD (.str (tx [])) [.ref p] H Q := ⟨p, ls, g, rfl, rfl, h, l, q⟩
end
/-- a, b, .. = a list -/
theorem pg_lstK {X : Cx} {K : PySem.W.Frag} {es : List Expr} {k : Nat} {t : TGs} {n : Nat} {pos : PySem.Pos} (h : X.K = K) (hc : X.calm = true) (g : PGs X es t) (hn : (assignEach es X.env).length = n := by rfl) (hst : (assignEach es X.env).findIdx? (·.1) = none := by rfl) : PG X (.Tuple es k pos) (gLst K n t) := h ▸ pg_lst hc g hn hst
theorem v_gLst3 {K : PySem.W.Frag} {n i j l : Nat} {σ : L2.St} {H : Hp} {Q : L2.St → Hp → Prop} {p : Addr} {a b c : V} (hn : n = 3) (h : H p = some (.lst [a, b, c])) (q : Q (((σ.set i (some a)).set j (some b)).set l (some c)) H) : gLst K n (gCons (gName i) (gCons (gName j) (gCons (gName l) gNil))) (.ref p) σ H Q :=
  ⟨p, _, rfl, SqL.of h, hn.symm, a, [b, c], rfl, b, [c], rfl, c, [], rfl, rfl, q⟩
/-- [e for x in ..]: e makes new objects; Rel tells of each item what it is -/
theorem lc_mapA {σ : L2.St} {H : Hp} {i : Nat} {tt : TT} {te : TE} {P : Addr → Hp → Prop} {J : It} {n : Nat} {G : Hp → Prop} {it : Nat → V} (Rel : Nat → V → Hp → Prop) (w : Walk J n G (fun k H x H' => H' = H ∧ x = it k)) (hG : ∀ H', Same H H' → G H') (hn : n ≤ 1000000)
    (m1 : ∀ k v H1 H2, Rel k v H1 → Same H1 H2 → Rel k v H2) (m2 : ∀ k v H1 H2 D l, Rel k v H1 → H1 D = some (.lst l) → Keep D H1 H2 → Rel k v H2)
    (ht : ∀ k, k < n → ∀ H1, Same H H1 → ∀ R : Bool → Hp → Prop, (∀ H2, Same H1 H2 → R true H2) → tt ((wipe σ [i]).set i (some (it k))) H1 R)
    (he : ∀ k, k < n → ∀ H1, Same H H1 → ∀ R : VK, (∀ v H2, Same H1 H2 → Rel k v H2 → R v H2) → te ((wipe σ [i]).set i (some (it k))) H1 R)
    (q : ∀ D H' vs, H D = none → Same H H' → H' D = some (.lst vs) → vs.length = n → (∀ k v, vs[k]? = some v → Rel k v H') → P D H') :
    ∀ D, H D = none → ∃ W : Nat → Nat → Hp → Prop, (∃ m, W 0 m (upd H D (.lst []))) ∧ ∀ k m H, W k m H →
      (J.stop k H ∧ P D H) ∨ (J.go k H ∧ ∃ Nx : Hp → Prop, (∀ H', Nx H' → ∃ m', m' < m ∧ W (k + 1) m' H') ∧ ∀ x H', J.yld k H x H' → (gName i) x (wipe σ [i]) H' fun s2 H2 => wipe s2 [i] = wipe σ [i] ∧ tt s2 H2 fun c H3 =>
        if c = true then te s2 H3 fun y H4 => ∃ acc, H4 D = some (.lst acc) ∧ acc.length < sizeLine ∧ Nx (upd H4 D (.lst (acc ++ [y]))) else Nx H3) := by
  intro D hD
  refine lc_it w (vs := [i]) (σ := σ) (g := gName i) (tt := tt) (te := te) (Qd := fun H' => P D H') (fun k H' => Same H H' ∧ ∃ vs, H' D = some (.lst vs) ∧ vs.length = k ∧ ∀ j v, vs[j]? = some v → Rel j v H')
    ⟨Same.new hD, [], upd_same, rfl, fun j v z => by simp at z⟩ (fun k H' _ p => hG H' p.1) (fun k x H1 H2 hk p y => ?_) (fun H' p => ?_)
  · obtain ⟨p1, vs, p2, p3, p4⟩ := p
    obtain ⟨rfl, rfl⟩ := y
    refine ⟨wipe1, ht k hk _ p1 _ fun H3 s3 => ?_⟩
    rw [if_pos rfl]
    refine he k hk _ (p1.trans s3) _ fun v H4 s4 r4 => ?_
    have e4 := s4 _ _ (s3 _ _ p2)
    refine ⟨vs, e4, szlt (by omega), fun a o ha => ?_, vs ++ [v], upd_same, by rw [List.length_append, p3]; rfl, fun j u hj => ?_⟩
    · rw [upd_ne (ne_of_none ha hD)]
      exact s4 _ _ (s3 _ _ (p1 _ _ ha))
    · by_cases c : j < vs.length
      · rw [List.getElem?_append_left c] at hj
        exact m2 _ _ _ _ D vs (m1 _ _ _ _ (p4 j u hj) (s3.trans s4)) e4 Keep.put
      · have e : j = vs.length := by
          have := (List.getElem?_eq_some_iff.mp hj).1
          rw [List.length_append, List.length_singleton] at this
          omega
        rw [e, List.getElem?_append_right (Nat.le_refl _), Nat.sub_self] at hj
        injection hj with hj
        rw [e, ← hj, p3]
        exact m2 _ _ _ _ D vs r4 e4 Keep.put
  · obtain ⟨p1, vs, p2, p3, p4⟩ := p
    exact q D H' vs hD p1 p2 p3 p4
section
variable {σ : L2.St} {H : Hp} {Q : VK} {te ta : TE} {D : Ends} {K : PySem.W.Frag} {n : Nat} {t : TGs}
theorem s_asgL (q : te σ H fun v H1 => gLst K n t v σ H1 fun σ2 H2 => D.nx σ2 H2) : tAsg te (gLst K n t) D σ H := q
theorem e_MN {C : Addr} {m : Str} {sp : Sp} {n l : Nat} {ss : List Src} {dvs : List V} {E : XK} {t tk : TA} (q : ta σ H fun x H1 => ∃ a dx fs, x = .ref a ∧ H1 a = some (.ins C dx fs) ∧ fs.lookup m = none ∧ t σ H1 fun vs H2 => tk σ H2 fun zs H3 => vs.length = n ∧ zs.length = l ∧ sp (x :: gS ss vs dvs zs) H3 Q E) : tMN C m sp n l ss dvs E ta t tk σ H Q := q
end
end Cw
set_option Elab.async false
set_option linter.all false
set_option maxRecDepth 100000
set_option maxHeartbeats 4000000
/-! comprehensions that draw; dicts of pairs -/
namespace Cw
open PySem PySem.Spec L2
/-- [e for x in ..]: e draws and makes new objects; Rel tells of each item what it is -/
theorem lc_mapP {σ : L2.St} {H : Hp} {i : Nat} {tt : TT} {te : TE} {P : Addr → Hp → Prop} {J : It} {n : Nat} {G : Hp → Prop} {it : Nat → V} {g : Pen} {n0 a : Nat} (Rel : Nat → V → Hp → Prop) (w : Walk J n G (fun k H x H' => H' = H ∧ x = it k)) (hG : ∀ H', Keep g.p H H' → G H') (hn : n ≤ 1000000)
    (m1 : ∀ k v H1 H2, Rel k v H1 → Keep g.p H1 H2 → Rel k v H2) (m2 : ∀ k v H1 H2 D l, Rel k v H1 → H1 D = some (.lst l) → Keep D H1 H2 → Rel k v H2) (p0 : PenAt g H n0)
    (ht : ∀ k, k < n → ∀ H1, Keep g.p H H1 → PenAt g H1 (n0 + a * k) → ∀ R : Bool → Hp → Prop, (∀ H2, Same H1 H2 → R true H2) → tt ((wipe σ [i]).set i (some (it k))) H1 R)
    (he : ∀ k, k < n → ∀ H1, Keep g.p H H1 → PenAt g H1 (n0 + a * k) → ∀ R : VK, (∀ v H2, Keep g.p H1 H2 → PenAt g H2 (n0 + a * k + a) → Rel k v H2 → R v H2) → te ((wipe σ [i]).set i (some (it k))) H1 R)
    (q : ∀ D H' vs, H D = none → Keep g.p H H' → PenAt g H' (n0 + a * n) → H' D = some (.lst vs) → vs.length = n → (∀ k v, vs[k]? = some v → Rel k v H') → P D H') :
    ∀ D, H D = none → ∃ W : Nat → Nat → Hp → Prop, (∃ m, W 0 m (upd H D (.lst []))) ∧ ∀ k m H, W k m H →
      (J.stop k H ∧ P D H) ∨ (J.go k H ∧ ∃ Nx : Hp → Prop, (∀ H', Nx H' → ∃ m', m' < m ∧ W (k + 1) m' H') ∧ ∀ x H', J.yld k H x H' → (gName i) x (wipe σ [i]) H' fun s2 H2 => wipe s2 [i] = wipe σ [i] ∧ tt s2 H2 fun c H3 =>
        if c = true then te s2 H3 fun y H4 => ∃ acc, H4 D = some (.lst acc) ∧ acc.length < sizeLine ∧ Nx (upd H4 D (.lst (acc ++ [y]))) else Nx H3) := by
  intro D hD
  have nD := p0.p_ne hD
  have nC := p0.cl_ne hD
  refine lc_it w (vs := [i]) (σ := σ) (g := gName i) (tt := tt) (te := te) (Qd := fun H' => P D H') (fun k H' => Keep g.p H H' ∧ PenAt g H' (n0 + a * k) ∧ ∃ vs, H' D = some (.lst vs) ∧ vs.length = k ∧ ∀ j v, vs[j]? = some v → Rel j v H')
    ⟨Keep.of (Same.new hD), p0.same (Same.new hD), [], upd_same, rfl, fun j v z => by simp at z⟩ (fun k H' _ p => hG H' p.1) (fun k x H1 H2 hk p y => ?_) (fun H' p => ?_)
  · obtain ⟨p1, pp, vs, p2, p3, p4⟩ := p
    obtain ⟨rfl, rfl⟩ := y
    refine ⟨wipe1, ht k hk _ p1 pp _ fun H3 s3 => ?_⟩
    rw [if_pos rfl]
    refine he k hk _ (p1.trans (Keep.of s3)) (pp.same s3) _ fun v H4 k4 pp4 r4 => ?_
    have e4 := k4 _ _ (s3 _ _ p2) nD.symm
    refine ⟨vs, e4, szlt (by omega), fun b o hb nb => ?_, ?_, vs ++ [v], upd_same, by rw [List.length_append, p3]; rfl, fun j u hj => ?_⟩
    · rw [upd_ne (ne_of_none hb hD)]
      exact k4 _ _ (s3 _ _ (p1 _ _ hb nb)) nb
    · rw [Nat.mul_succ]
      exact (pp4.keep Keep.put nD nC).mono (by omega)
    · by_cases c : j < vs.length
      · rw [List.getElem?_append_left c] at hj
        exact m2 _ _ _ _ D vs (m1 _ _ _ _ (p4 j u hj) ((Keep.of s3).trans k4)) e4 Keep.put
      · have e : j = vs.length := by
          have := (List.getElem?_eq_some_iff.mp hj).1
          rw [List.length_append, List.length_singleton] at this
          omega
        subst e
        rw [List.getElem?_append_right (Nat.le_refl _), Nat.sub_self] at hj
        injection hj with hj
        rw [← hj, p3]
        exact m2 _ _ _ _ D vs r4 e4 Keep.put
  · obtain ⟨p1, pp, vs, p2, p3, p4⟩ := p
    exact q D H' vs hD p1 pp p2 p3 p4
/-- dict(a list of pairs), the keys letters -/
theorem v_dictV {K : PySem.W.Frag} {H : Hp} {Q : VK} {D : Addr} {vs : List V} {ls : List Nat} {val : Nat → V} (e : H D = some (.lst vs)) (hl : vs.length = ls.length) (rel : ∀ k v, vs[k]? = some v → ∃ t, v = .ref t ∧ H t = some (.tup [.str (tx [ls.getD k 0]), val (ls.getD k 0)])) (nd : ls.Nodup) (q : ∀ p H', H p = none → Same H H' → H' p = some (.dK (ls.map fun c => ((Sum.inr (tx [c]) : Key), val c))) → Q (.ref p) H') : rDictP K [.ref D] H Q := by
  have key : ∀ {vs : List V} {ls : List Nat}, vs.length = ls.length → (∀ k v, vs[k]? = some v → ∃ t, v = .ref t ∧ H t = some (.tup [.str (tx [ls.getD k 0]), val (ls.getD k 0)])) → ∃ ps : List Addr, vs = ps.map V.ref ∧ Paired (fun p kv => SqT K H p [kV kv.1, kv.2]) ps (ls.map fun c => ((Sum.inr (tx [c]) : Key), val c)) := by
    intro vs
    induction vs with
    | nil =>
      intro ls hl _
      cases ls with
      | nil => exact ⟨[], rfl, .nil⟩
      | cons _ _ => simp at hl
    | cons v vs ih =>
      intro ls hl rel
      cases ls with
      | nil => simp at hl
      | cons c ls =>
        obtain ⟨t, rfl, ht⟩ := rel 0 v rfl
        obtain ⟨ps, e, p⟩ := ih (ls := ls) (by simpa using hl) fun k u hk => rel (k + 1) u hk
        exact ⟨t :: ps, by rw [e]; rfl, .cons (SqT.of ht) p⟩
  obtain ⟨ps, e1, p⟩ := key hl rel
  refine ⟨D, ps, _, rfl, SqL.of (by rw [e, e1]), p, fun p hp => ?_⟩
  rw [merge_new (fun _ _ => rfl) (let_pw nd), List.nil_append]
  exact q p _ hp (Same.new hp) upd_same
theorem v_dictE {K : PySem.W.Frag} {H : Hp} {Q : VK} {D : Addr} {vs : List V} {ls : List Nat} {p : V → Prop} (z0 : V) (e : H D = some (.lst vs)) (hl : vs.length = ls.length) (rel : ∀ k v, vs[k]? = some v → ∃ t z, v = .ref t ∧ H t = some (.tup [.str (tx [ls.getD k 0]), z]) ∧ p z) (nd : ls.Nodup) (q : ∀ d H' (val : Nat → V), (∀ c ∈ ls, p (val c)) → H d = none → Same H H' → H' d = some (.dK (ls.map fun c => ((Sum.inr (tx [c]) : Key), val c))) → Q (.ref d) H') : rDictP K [.ref D] H Q := by
  have key : ∀ c, ∃ z : V, ∀ k v, ls.getD k 0 = c → vs[k]? = some v → ∃ t, v = .ref t ∧ H t = some (.tup [.str (tx [c]), z]) ∧ p z := by
    intro c
    by_cases hc : c ∈ ls
    · obtain ⟨k0, h0, e0⟩ := mem_getD hc
      obtain ⟨t, z, e1, e2, e3⟩ := rel k0 (vs[k0]'(by omega)) (List.getElem?_eq_getElem _)
      refine ⟨z, fun k v ek hv => ?_⟩
      have hk : k < ls.length := by
        have := (List.getElem?_eq_some_iff.mp hv).1
        omega
      have : k = k0 := getD_inj nd hk h0 (ek.trans e0.symm)
      subst this
      rw [List.getElem?_eq_getElem (by omega)] at hv
      injection hv with hv
      rw [e0] at e2
      exact ⟨t, hv ▸ e1, e2, e3⟩
    · refine ⟨z0, fun k v ek hv => absurd ?_ hc⟩
      rw [← ek]
      refine getD_mem ?_
      have := (List.getElem?_eq_some_iff.mp hv).1
      omega
  obtain ⟨val, hval⟩ := Classical.axiomOfChoice key
  refine v_dictV (val := val) e hl (fun k v hk => ?_) nd fun d H' h1 h2 h3 => q d H' val (fun c hc => ?_) h1 h2 h3
  · obtain ⟨t, e1, e2, _⟩ := hval _ k v rfl hk
    exact ⟨t, e1, e2⟩
  · obtain ⟨k0, h0, e0⟩ := mem_getD hc
    obtain ⟨t, _, _, h⟩ := hval c k0 (vs[k0]'(by omega)) e0 (List.getElem?_eq_getElem _)
    exact h
end Cw
set_option Elab.async false
set_option linter.all false
set_option maxRecDepth 100000
set_option maxHeartbeats 4000000
namespace Cw
open PySem PySem.Spec L2
local macro_rules | `(tactic| walk_at "side") => `(tactic| first | omega | assumption | (dsimp only; omega) | (unfold CMul; omega) | exact ⟨by decide, by decide, by decide⟩ | exact wdiv (by first | assumption | decide | omega) (by first | assumption | decide | omega) | (simp only [List.length_cons, List.length_nil]; omega) | rfl)
local macro_rules | `(tactic| walk_at "hl") => `(tactic| first | assumption | exact upd_same | ((refine Cw.Same.at (by assumption) ?_); walk_at "hl") | ((refine Cw.Keep.at (by assumption) ?_ (by assumption)); walk_at "hl"))
local macro_rules | `(tactic| walk_at "st") => `(tactic| first
  | (with_reducible refine s_seq ?_) | (with_reducible refine g_nm ?_) | (with_reducible refine s_next ?_) | (with_reducible refine s_set ?_) | (with_reducible refine s_drop ?_) | (with_reducible refine s_ret ?_) | (with_reducible refine s_if ?_)
  | ((with_reducible refine e_varG ?_); refine ⟨_, (by with_unfolding_all rfl), ?_⟩) | (with_reducible refine e_c ?_) | (with_reducible refine e_op ?_) | (with_reducible refine e_un ?_)
  | (with_reducible refine e_cons ?_) | (with_reducible refine e_nil ?_) | (with_reducible refine e_cb ?_) | (with_reducible refine e_call ?_) | (with_reducible refine e_md ?_)
  | (with_reducible refine t_test ?_) | (with_reducible refine t_B ?_) | (with_reducible refine t_and ?_) | (with_reducible refine t_or ?_) | (with_reducible refine t_not ?_)
  | (with_reducible refine e_andV ?_) | (with_reducible refine e_orV ?_) | (with_reducible refine e_notV ?_) | (with_reducible refine e_if ?_)
  | (with_reducible refine v_I0 ?_) | ((with_reducible refine v_I ?c ?_); try (case c => walk_at "side")) | (with_reducible refine v_bl ?_)
  | ((with_reducible refine v_eq ?c ?_); (case c => with_unfolding_all rfl)) | ((with_reducible refine v_ne ?c ?_); (case c => with_unfolding_all rfl))
  | (with_reducible refine v_inti ?_) | (with_reducible refine v_intb ?_) | ((with_reducible refine v_lenG ?_); refine ⟨_, (by walk_at "hl"), ?_⟩)
  | ((with_reducible refine v_lenS ?c ?_); try (case c => walk_at "side"))
  | (with_reducible refine e_dnew ?_) | (with_reducible refine e_dget ?_) | (with_reducible refine s_dput ?_) | (with_reducible refine e_lst ?_) | (with_reducible refine e_tup ?_)
  | ((with_reducible refine v_lst ?c ?_); (case c => walk_at "side")) | ((with_reducible refine v_tup ?c ?_); (case c => walk_at "side"))
  | ((with_reducible refine v_dgetG ?_); refine ⟨_, (by assumption), ?_⟩)
  | (with_reducible refine e_sl ?_) | (with_reducible refine e_nopart ?_) | (with_reducible refine e_part ?_) | (with_reducible refine e_m1 ?_) | (with_reducible refine v_isS ?_) | (with_reducible refine v_int ?_)
  | (with_reducible refine e_lc ?_) | (with_reducible refine e_iStr ?_) | (with_reducible refine e_iEnumS ?_) | (with_reducible refine v_iEnumS ?_) | (with_reducible refine v_str ?_) | (with_reducible refine e_yes ?_) | (with_reducible refine e_fld ?_) | (with_reducible refine e_sfld ?_)
  | ((with_reducible refine v_addS ?c ?_); try (case c => walk_at "side")) | (with_reducible refine v_inS ?_) | (with_reducible refine v_notInS ?_) | (with_reducible refine v_ltS ?_)
  | ((with_reducible refine v_inLG ?_); refine ⟨_, (by walk_at "hl"), ?_⟩) | (with_reducible refine v_isiS ?_) | (with_reducible refine e_revS ?_) | ((with_reducible refine v_revS ?c ?_); try (case c => walk_at "side"))
  | ((with_reducible refine v_lenSetG ?_); refine ⟨_, (by walk_at "hl"), ?_⟩)
  | (with_reducible refine e_bm ?_) | (with_reducible refine e_bm0 ?_) | ((with_reducible refine v_tyLG ?_); refine ⟨_, (by walk_at "hl"), ?_⟩)
  | (with_reducible refine iteNT ?_) | (with_reducible refine iteNF ?_) | (with_reducible refine e_for ?_)
  | (with_reducible refine e_iL ?_) | (with_reducible refine e_iT ?_) | ((with_reducible refine v_iLG ?_); refine ⟨_, (by walk_at "hl"), ?_⟩) | (with_reducible refine e_iR1 ?_) | ((with_reducible refine v_iR1 ?c1 ?c2 ?_); try (case c1 => walk_at "side"); try (case c2 => walk_at "side"))
  | (with_reducible refine e_iR2 ?_) | ((with_reducible refine v_iR2 ?c1 ?_); try (case c1 => walk_at "side"))
  | (with_reducible refine e_pr0 ?_) | (with_reducible refine e_pr ?_) | (with_reducible refine e_disp ?_) | (with_reducible refine s_asgT ?_) | (with_reducible refine e_tryA ?_) | (with_reducible refine e_callS ?_) | (with_reducible refine e_mdS ?_) | (with_reducible refine e_par ?_) | (with_reducible refine v_par ?_) | (with_reducible refine e_par3 ?_) | (with_reducible refine v_par3 ?_) | (with_reducible refine e_iK ?_) | (with_reducible refine e_dnotin ?_)
  | (with_reducible refine iteT ?_) | (with_reducible refine iteF ?_))
local macro_rules | `(tactic| walk_at "go") => `(tactic| repeat walk_at "st")
def spMade (C : Addr) : Sp := fun vs H Q _ => ∃ (g : Pen) (n : Nat) (d : Addr) (ls : List Nat) (f : Nat → List Nat), vs = [.ref g.p, .ref d] ∧ PenAt g H n ∧ n < 900000 ∧ d ≠ g.p ∧ H d = some (.dK (tabKV ls f)) ∧ Tab ls f ∧
  ∀ x H', H x = none → Keep g.p H H' → PenAt g H' (n + 100) → PlanAt C H' x (ascOf ls) (tabPairs ls f) → PlanOff C H' x d → Q (.ref x) H'
theorem Keep.free {p x : Addr} {H H' : Hp} (k : Keep p H H') (h : H' x = none) (n : x ≠ p) : H x = none := by
  cases z : H x with
  | none => rfl
  | some o =>
    have := k _ _ z n
    rw [h] at this
    cases this
section
variable {P : Program} {w : World} {K : PySem.W.Frag} {mg : Str → Option Value} {base : Heap} {C R O : Addr}
abbrev stmade : Stmt := (top 41)
abbrev Nmade : List Str := ["_law_pen_here", "_law_table", "_law_pairs", "_law_item", "_law_peer"]
theorem scmade : FnScope Nmade ["_law_pen_here", "_law_table"] (defScope stmade) := ⟨rfl, rfl, rfl, by decide +kernel, rfl, by decide +kernel, by decide +kernel⟩

theorem ok_made (F : FnAt K mg "_law_made" stmade) (T : TxtR K mg C R O) (D_draw : Def P w K mg base CX0 1 "_law_draw" ["_law_pen_here", "_law_number"] spDraw) (D_shuffled : Def P w K mg base CX0 2 "_law_shuffled" ["_law_pen_here", "_law_items"] spShuffled) (C_Plan : CDef P w K mg base CX0 3 "Plan" C (spPlan K C)) : Def P w K mg base CX0 5 "_law_made" ["_law_pen_here", "_law_table"] (spMade C) := by
  refine F.ok scmade (fun _ _ _ _ _ _ us hl => match us, hl with | [_, _], _ => rfl) (fun vs H Q E h => ?_) (fun f cdv A outer s H vs Q E hr h => ?_)
  · obtain ⟨g, n, d, ls, f, rfl, _⟩ := h
    rfl
  obtain ⟨g, n, d, ls, fn, rfl, hp, hn, hdp, hd, tab, k⟩ := h
  have hu := hu_of hr
  have nd := scmade.nd
  replace D_draw := D_draw.mono (show 1 ≤ 4 by decide)
  replace D_shuffled := D_shuffled.mono (show 2 ≤ 4 by decide)
  have tl := tab.len
  refine ⟨_, (pss_cons (ps_set (i := 2) nd rfl (Or.inl rfl) (pe_lst pa_nil))
      (pss_cons (ps_lock (ps_for PassesOwn.never rfl (pi_keys (pv 1)) (pg_name (i := 3) nd rfl (Or.inl rfl))
      (pss_one (ps_for PassesOwn.never rfl (pi_str (pe_dget hu (pv 1) (pv 3) (fun _ _ => rfl))) (pg_name (i := 4) nd rfl (Or.inl rfl))
        (pss_one (ps_if (PW.pt (pw_or (pt_cmpR op_ltS (pv 3) (pv 4) (nomark _)) (pw_or1 (pt_cmpR op_gt (pe_cd D_draw hr pass0 (pa_cons (pv 0) (pa_cons pe_int pa_nil))) pe_int (nomark _)))))
          (pss_one (ps_expr (pe_appK (K := K) rfl (pv 2) (pe_op op_addS (pv 3) (pv 4)))))
          pss_nil))))))
      (pss_one (ps_ret (pe_mk C_Plan hr pass0 (pa_cons (pe_joinK (K := K) rfl (pe_tx [] (by decide +kernel)) (pe_cd D_shuffled hr pass0 (pa_cons (pv 0) (pa_cons (pe_callTy (call_list_dK rfl) (by rfl) T.list (by decide +kernel) (pa_cons (pv 1) pa_nil)) pa_nil)))) (pa_cons (pv 2) pa_nil))))))), ?_⟩
  refine s_start [some _, some _, none, none, none] rfl ?_
  walk_at "go"
  intro q H1 hq s1 e1
  walk_at "go"
  have hd1 := s1 _ _ hd
  have ndc : g.cl ≠ d := by
    obtain ⟨a, r, h1, h2, _⟩ := hp.ex
    exact ne_of h2 hd (by intro z; cases z)
  have nqd : q ≠ d := (ne_of_none hd hq).symm
  have nqp := hp.p_ne hq
  have nqc := hp.cl_ne hq
  refine e_lock hd1 trivial fun od => ?_
  have fz : ∀ b o, b ≠ d → H1 b = some o → upd H1 d (.frz od (.dK (tabKV ls fn))) b = some o := fun b o nb hb => by
    rw [upd_ne nb]
    exact hb
  walk_at "go"
  refine ⟨d, od, rfl, .inl ⟨_, upd_same, ?_⟩⟩
  have p1 : PenAt g (upd H1 d (.frz od (.dK (tabKV ls fn)))) n := by
    obtain ⟨a, r, h1, h2, h3⟩ := (hp.same s1).ex
    exact ⟨a, r, fz _ _ hdp.symm h1, fz _ _ ndc h2, h3⟩
  refine for_it walk_keys (fun i σ H' => ∃ x1 x2 ps, σ = [some (.ref g.p), some (.ref d), some (.ref q), x1, x2] ∧ PenAt g H' (n + 8 * i) ∧ (∀ b o, H b = some o → b ≠ g.p → b ≠ d → H' b = some o) ∧ H' d = some (.frz od (.dK (tabKV ls fn))) ∧ H' q = some (.lst (strsV ps)) ∧ ps.length ≤ 8 * i ∧
    (∀ p ∈ ps, ∃ a b, p = [a, b] ∧ a ∈ ls ∧ b ∈ fn a) ∧ ∀ a ∈ ls.take i, ∀ b ∈ fn a, a < b → [a, b] ∈ ps) ⟨_, _, [], rfl, p1, fun b o hb n1 n2 => fz _ _ n2 (s1 _ _ hb), upd_same, fz _ _ nqd e1, by simp, by simp, by simp⟩ (fun i σ H' _ z => ?_) ?_ ?_
  · obtain ⟨x1, x2, ps, _, _, _, h, _⟩ := z
    exact h
  · rintro i v σ H2 H3 hi ⟨x1, x2, ps, rfl, p2, k2, d2, q2, l2, h2, g2⟩ ⟨rfl, kk, vv, hkv, rfl⟩
    have hi' : i < ls.length := by
      unfold tabKV at hi
      rw [List.length_map] at hi
      exact hi
    obtain ⟨rfl, rfl⟩ : kk = Sum.inr (tx [ls.getD i 0]) ∧ vv = V.str (tx (fn (ls.getD i 0))) := by
      unfold tabKV at hkv
      rw [List.getElem?_map, List.getElem?_eq_getElem hi'] at hkv
      have e : ls.getD i 0 = ls[i] := by rw [List.getD_eq_getElem?_getD, List.getElem?_eq_getElem hi']; rfl
      rw [e]
      injection hkv with hkv
      injection hkv with a b
      exact ⟨a.symm, b.symm⟩
    have hx : ls.getD i 0 ∈ ls := getD_mem hi'
    have hgl := tab.gl _ hx
    show tFor _ _ _ _ _ _
    walk_at "go"
    refine v_dget (tab_getF d2 hx) ?_
    walk_at "go"
    refine for_it (walk_tx (fn (ls.getD i 0))) (fun j σ H' => ∃ x2 ps, σ = [some (.ref g.p), some (.ref d), some (.ref q), some (.str (tx [ls.getD i 0])), x2] ∧ PenAt g H' (n + 8 * i + j) ∧ (∀ b o, H b = some o → b ≠ g.p → b ≠ d → H' b = some o) ∧ H' d = some (.frz od (.dK (tabKV ls fn))) ∧ H' q = some (.lst (strsV ps)) ∧ ps.length ≤ 8 * i + j ∧
      (∀ p ∈ ps, ∃ a b, p = [a, b] ∧ a ∈ ls ∧ b ∈ fn a) ∧ (∀ a ∈ ls.take i, ∀ b ∈ fn a, a < b → [a, b] ∈ ps) ∧ ∀ b ∈ (fn (ls.getD i 0)).take j, ls.getD i 0 < b → [ls.getD i 0, b] ∈ ps) ⟨_, ps, rfl, p2, k2, d2, q2, l2, h2, g2, by simp⟩ (fun _ _ _ _ _ => trivial) ?_ ?_
    · rintro j v σ H4 H5 hj ⟨x2, ps, rfl, p4, k4, d4, q4, l4, h4, g4, t4⟩ ⟨rfl, rfl⟩
      have hy : (fn (ls.getD i 0)).getD j 0 ∈ fn (ls.getD i 0) := getD_mem hj
      generalize hyy : (fn (ls.getD i 0)).getD j 0 = y at hy ⊢
      generalize hxx : ls.getD i 0 = x at *
      have l3 : [x].length + [y].length ≤ 1000000 := by simp
      have app : ∀ (H6 H7 : Hp), PenAt g H6 (n + 8 * i + j + 1) → Keep g.p H5 H6 → Keep q H6 H7 → H7 q = some (.lst (strsV ps ++ [V.str (tx ([x] ++ [y]))])) → ∃ x2 ps, [some (V.ref g.p), some (V.ref d), some (V.ref q), some (V.str (tx [x])), some (V.str (tx [y]))] = [some (.ref g.p), some (.ref d), some (.ref q), some (.str (tx [x])), x2] ∧ PenAt g H7 (n + 8 * i + (j + 1)) ∧ (∀ b o, H b = some o → b ≠ g.p → b ≠ d → H7 b = some o) ∧ H7 d = some (.frz od (.dK (tabKV ls fn))) ∧ H7 q = some (.lst (strsV ps)) ∧ ps.length ≤ 8 * i + (j + 1) ∧
          (∀ p ∈ ps, ∃ a b, p = [a, b] ∧ a ∈ ls ∧ b ∈ fn a) ∧ (∀ a ∈ ls.take i, ∀ b ∈ fn a, a < b → [a, b] ∈ ps) ∧ ∀ b ∈ (fn x).take (j + 1), x < b → [x, b] ∈ ps := by
        intro H6 H7 p6 k6 k7 e7
        refine ⟨_, ps ++ [[x, y]], rfl, p6.keep k7 nqp nqc, fun b o hb n1 n2 => k7 _ _ (k6 _ _ (k4 _ _ hb n1 n2) n1) (ne_of_none hb hq), k7 _ _ (k6 _ _ d4 hdp) nqd.symm, ?_, ?_, ?_, ?_, ?_⟩
        · rw [e7]
          unfold strsV
          rw [List.map_append]
          rfl
        · rw [List.length_append, List.length_singleton]
          omega
        · intro p hp
          rcases List.mem_append.mp hp with z | z
          · exact h4 p z
          · exact ⟨x, y, List.mem_singleton.mp z, hx, hy⟩
        · intro a ha b hb hab
          exact List.mem_append_left _ (g4 a ha b hb hab)
        · intro b hb hab
          rw [take_getD hj, List.mem_append, List.mem_singleton] at hb
          rcases hb with z | z
          · exact List.mem_append_left _ (t4 b z hab)
          · rw [z, hyy]
            exact List.mem_append_right _ (List.mem_singleton.mpr rfl)
      walk_at "go"
      rw [lt_one]
      refine if_dec (fun c => ?_) (fun c => ?_)
      · walk_at "go"
        refine v_app q4 (by rw [List.length_map]; omega) fun H6 k6 e6 => ?_
        exact app H5 H6 (p4.mono (by omega)) (Keep.refl _ _) k6 e6
      · walk_at "go"
        refine ⟨g, 3, _, rfl, by omega, by omega, p4, by omega, fun z H6 _ _ p6 k6 => ?_⟩
        walk_at "go"
        refine if_dec (fun c2 => ?_) (fun c2 => ?_)
        · have q6 := k6 _ _ q4 nqp.symm
          walk_at "go"
          refine v_app q6 (by rw [List.length_map]; omega) fun H7 k7 e7 => ?_
          exact app H6 H7 p6 k6 k7 e7
        · walk_at "go"
          refine ⟨_, ps, rfl, p6, fun b o hb n1 n2 => k6 _ _ (k4 _ _ hb n1 n2) n1, k6 _ _ d4 hdp, k6 _ _ q4 nqp.symm, by omega, h4, g4, ?_⟩
          intro b hb hab
          rw [take_getD hj, List.mem_append, List.mem_singleton] at hb
          rcases hb with z | z
          · exact t4 b z hab
          · rw [z, hyy] at hab
            exact absurd hab c
    · rintro σ H4 ⟨x2, ps, rfl, p4, k4, d4, q4, l4, h4, g4, t4⟩
      rw [List.take_of_length_le (Nat.le_refl _)] at t4
      refine ⟨_, _, ps, rfl, p4.mono (by omega), k4, d4, q4, by omega, h4, ?_⟩
      intro a ha b hb hab
      rw [take_getD hi', List.mem_append, List.mem_singleton] at ha
      rcases ha with z | z
      · exact g4 a z b hb hab
      · subst z
        exact t4 b hb hab
  rintro σ H2 ⟨x1, x2, ps, rfl, p2, k2, d2, q2, l2, h2, g2⟩
  have tk : (tabKV ls fn).length = ls.length := by unfold tabKV; rw [List.length_map]
  rw [tk] at p2 l2 g2
  rw [List.take_of_length_le (Nat.le_refl _)] at g2
  refine ⟨d2, ?_⟩
  have p3 : PenAt g (upd H2 d (.dK (tabKV ls fn))) (n + 64) := by
    obtain ⟨a, r, h1, h3, h4, h5, h6, h7⟩ := p2.ex
    exact ⟨a, r, by rw [upd_ne hdp.symm]; exact h1, by rw [upd_ne ndc]; exact h3, h4, h5, by omega, h7⟩
  have k3 : Keep g.p H (upd H2 d (.dK (tabKV ls fn))) := fun b o hb nb => by
    by_cases e : b = d
    · subst e
      rw [upd_same, ← hb, hd]
    · rw [upd_ne e]
      exact k2 _ _ hb nb e
  have d3 : upd H2 d (.dK (tabKV ls fn)) d = some (.dK (tabKV ls fn)) := upd_same
  have q3 : upd H2 d (.dK (tabKV ls fn)) q = some (.lst (strsV ps)) := by rw [upd_ne nqd]; exact q2
  generalize upd H2 d (.dK (tabKV ls fn)) = H3 at p3 k3 d3 q3 ⊢
  walk_at "go"
  refine v_listD d3 fun l H4 hl s4 e4 => ?_
  rw [tab_keys] at e4
  walk_at "go"
  refine ⟨g, n + 64, l, ls, rfl, e4, by omega, fun c hc => by have := LET_lt (tab.lt c hc); omega, p3.same s4, by omega, fun y ys H5 hy pm e5 p5 k5 => ?_⟩
  walk_at "go"
  rw [strs_ones] at e5
  have ylen := pm.length_eq
  refine v_join e5 (by rw [flat_ones]; omega) ?_
  rw [flat_ones]
  walk_at "go"
  have nqp' := nqp.symm
  refine ⟨ys, q, ps, rfl, ⟨.inl (k5 _ _ (s4 _ _ q3) nqp'), by omega, ?_, fun c hc => tab.lt c (pm.subset hc), pm.nodup_iff.mpr tab.nd, by omega⟩, fun x H6 hx s6 pl off => ?_⟩
  · intro p hp
    obtain ⟨a, b, rfl, ha, hb⟩ := h2 p hp
    obtain ⟨b1, b2, b3⟩ := tab.sub a ha b hb
    exact ⟨a, b, rfl, b2.symm, pm.mem_iff.mpr ha, pm.mem_iff.mpr b1⟩
  have kA : Keep g.p H H6 := fun b o hb nb => s6 _ _ (k5 _ _ (s4 _ _ (k3 _ _ hb nb)) nb)
  rw [show kindsOf ys = ascOf ls from ascOf_congr fun c => pm.mem_iff, show prsOf ps = tabPairs ls fn from tabPairs_eq tab h2 g2] at pl
  have kB : Keep g.p H H5 := fun b o hb nb => k5 _ _ (s4 _ _ (k3 _ _ hb nb)) nb
  refine k x H6 (kB.free hx (p5.p_ne hx).symm) kA ((p5.same s6).mono (by omega)) pl (off d _ (k5 _ _ (s4 _ _ d3) hdp))
end
end Cw
set_option Elab.async false
set_option linter.all false
set_option maxRecDepth 100000
set_option maxHeartbeats 4000000
/-! sorted(xs, key=len) of texts, any number of them: stable -/
namespace Cw
open PySem PySem.Spec PyProof.Rows Srt SrtO
def ltLen (v u : Value) : Bool := decide ((sv v).length < (sv u).length)
section
variable {prog : Program} {w : World} {A : Around} {E : Value → Shared → Prop} {s : Shared} {a kS : Addr} {vs : List Value} {keys : Array Value} {e e1 : Nat} {R : PySem.Fin → Shared → Prop}
/-- the end of a sort by keys: the keys go, the items are laid -/
theorem len_tail {st : SortSt} (hk : s.heap.get? kS = some (seqObj "list" keys e)) (ha : s.heap.get? a = some (seqObj "list" #[] e1)) (ne : kS ≠ a) (zk : keys.size ≤ sizeLine) (zs : (arrOf st).size ≤ sizeLine) (hf : failedOf st = none)
    (q : ∀ h', (∀ b o, b ≠ a → b ≠ kS → s.heap.get? b = some o → h'.get? b = some o) → (∃ c, h'.get? a = some (seqObj "list" ((arrOf st).map (·.2)) c)) → R (.done (.ret .none)) { s with heap := h' }) :
    wpAny (model prog w) A (ksk_tail a false e1 (.ref kS) st) R E s := by
  have b1 := Heap.SameBut.update s.heap kS (Obj.mapSeq fun _ => (#[] : Array Value))
  have a1 := (b1.2 a ne.symm).trans ha
  have b2 := Heap.SameBut.update (s.heap.update kS (Obj.mapSeq fun _ => (#[] : Array Value))) a (Obj.mapSeq fun _ => (arrOf st).map (·.2))
  have a2 := get?_update_seq a1 fun _ => (arrOf st).map (·.2)
  unfold ksk_tail
  dsimp only
  refine wpAny_bind (listUpdate_at hk rfl ?_ zk (Nat.zero_le _))
  refine wpAny_bind (wpAny_letGo ?_)
  refine wpAny_bind (seqEpoch_at a1 rfl ?_)
  refine wpAny_bind (listUpdate_at a1 rfl ?_ (Nat.zero_le _) (by
    show ((arrOf st).map (·.2)).size ≤ sizeLine + 1
    rw [Array.size_map]
    omega))
  rw [hf]
  simp only [bne_self_eq_false, Bool.false_eq_true, if_false]
  exact wpAny_pure (q _ (fun b o n1 n2 z => (b2.2 b n1).trans ((b1.2 b n2).trans z)) ⟨_, a2⟩)
theorem zip_keys (ks : Array Value) (xs : List Value) : (ks.zip xs.toArray).toList = ks.toList.zip xs := by simp
/-- what the pairs of lengths and texts come to -/
theorem len_out {xs ks : List Value} (hS : ∀ v ∈ xs, ∃ x t, v = Value.str x t) (hk : ks.map iv = xs.map fun v => ((sv v).length : Int)) {l : List Keyed} (h1 : Srtd (lt2 ltIv) l) (h2 : Stb (lt2 ltIv) l (ks.zip xs)) : Srtd ltLen (l.map (·.2)) ∧ Stb ltLen (l.map (·.2)) xs := by
  have hl : ks.length = xs.length := by
    have := congrArg List.length hk
    rw [List.length_map, List.length_map] at this
    exact this
  have pair : ∀ p ∈ ks.zip xs, iv p.1 = ((sv p.2).length : Int) := by
    intro p hp
    obtain ⟨i, hi, rfl⟩ := List.mem_iff_getElem.mp hp
    rw [List.length_zip] at hi
    have := congrArg (·[i]?) hk
    simp only [List.getElem?_map] at this
    rw [List.getElem?_eq_getElem (by omega), List.getElem?_eq_getElem (by omega)] at this
    rw [List.getElem_zip]
    injection this
  have pl : ∀ p ∈ l, iv p.1 = ((sv p.2).length : Int) := fun p hp => pair p (h2.perm.mem_iff.mp hp)
  have lt_eq : ∀ p q : Keyed, iv p.1 = ((sv p.2).length : Int) → iv q.1 = ((sv q.2).length : Int) → lt2 ltIv p q = ltLen p.2 q.2 := by
    intro p q e1 e2
    show decide (iv p.1 < iv q.1) = decide _
    rw [e1, e2]
    exact decide_eq_decide.mpr (by omega)
  refine ⟨?_, ?_, fun v => ?_⟩
  · show (l.map (·.2)).Pairwise _
    rw [List.pairwise_map]
    refine List.Pairwise.imp_of_mem (fun {p q} hp hq h => ?_) h1
    rw [← lt_eq q p (pl q hq) (pl p hp)]
    exact h
  · have := h2.perm.map (·.2)
    rw [List.map_snd_zip (by omega)] at this
    exact this
  · have c := congrArg (List.map (·.2)) (h2.cls ((.int ((sv v).length : Int) 0, v) : Keyed))
    have key : ∀ m : List Keyed, (∀ p ∈ m, iv p.1 = ((sv p.2).length : Int)) → (m.filter (eqv (lt2 ltIv) ((.int ((sv v).length : Int) 0, v) : Keyed))).map (·.2) = (m.map (·.2)).filter (eqv ltLen v) := by
      intro m hm
      rw [List.filter_map]
      congr 1
      refine List.filter_congr fun p hp => ?_
      show eqv (lt2 ltIv) _ p = eqv ltLen v p.2
      unfold eqv
      rw [lt_eq _ p rfl (hm p hp), lt_eq p _ (hm p hp) rfl]
    rw [key l pl, key _ pair, List.map_snd_zip (by omega)] at c
    exact c
theorem len_end {ss : List Str} (hS : StrsAre vs ss) (hk : s.heap.get? kS = some (seqObj "list" keys e)) (ha : s.heap.get? a = some (seqObj "list" #[] e1)) (ne : kS ≠ a) (zv : vs.length ≤ sizeLine) (hi : IntsAre keys.toList (vs.map fun v => ((sv v).length : Int)))
    (q : ∀ h' (out : List Value), (∀ b o, b ≠ a → b ≠ kS → s.heap.get? b = some o → h'.get? b = some o) → (∃ c, h'.get? a = some (seqObj "list" out.toArray c)) → Srtd ltLen out → Stb ltLen out vs → R (.done (.ret .none)) { s with heap := h' }) :
    wpAny (model prog w) A (ksk_end a false vs.toArray e1 (.ref kS) keys) R E s := by
  have hl : keys.size = vs.length := by
    have := hi.length
    rw [Array.length_toList, List.length_map] at this
    exact this
  have hkz : (keys.zip vs.toArray).toList = keys.toList.zip vs := zip_keys _ _
  have zz : (keys.zip vs.toArray).size = vs.length := by rw [Array.size_zip, hl, List.size_toArray, Nat.min_self]
  have fin : ∀ st' : SortSt, Srtd (lt2 ltIv) (arrOf st').toList → Stb (lt2 ltIv) (arrOf st').toList (keys.zip vs.toArray).toList → failedOf st' = none → wpAny (model prog w) A (ksk_tail a false e1 (.ref kS) st') R E s := by
    intro st' h1 h2 h3
    have hz : (arrOf st').size = vs.length := by
      have := h2.perm.length_eq
      rw [Array.length_toList, Array.length_toList, zz] at this
      exact this
    rw [hkz] at h2
    obtain ⟨k1, k2⟩ := len_out (fun v hv => hS.all v hv) (iv_ints hi) h1 h2
    refine len_tail hk ha ne (by rw [hl]; exact zv) (by rw [hz]; exact zv) h3 fun h' kp ⟨c, hc⟩ => ?_
    refine q h' ((arrOf st').toList.map (·.2)) kp ⟨c, ?_⟩ k1 k2
    rw [hc]
    congr 2
    apply Array.ext'
    simp
  unfold ksk_end
  dsimp only
  rw [if_neg Bool.false_ne_true]
  by_cases h2 : vs.toArray.size < 2
  · rw [if_pos h2, if_pos h2]
    refine wpAny_bind (wpAny_pure ?_)
    rw [StateT.run_pure]
    refine wpAny_bind (wpAny_pure ?_)
    refine fin (SortSt.mk' general' (keys.zip vs.toArray) #[] 7 none) ?_ (Stb.refl _) rfl
    show Srtd (lt2 ltIv) (keys.zip vs.toArray).toList
    have hlen : (keys.zip vs.toArray).toList.length < 2 := by
      rw [Array.length_toList, zz]
      rw [List.size_toArray] at h2
      exact h2
    match (keys.zip vs.toArray).toList, hlen with
    | [], _ => exact List.Pairwise.nil
    | [v], _ => exact List.pairwise_singleton _ _
    | _ :: _ :: l, h => exact absurd h (by simp)
  · rw [if_neg h2, if_neg h2]
    rw [List.size_toArray] at h2
    rw [ksk_kind hi (by rw [hl]; omega)]
    refine wpAny_bind (wpAny_pure ?_)
    have all : AllL (fun p : Keyed => p.1 ∈ keys.toList) (keys.zip vs.toArray).toList := fun p hm => by
      rw [hkz] at hm
      obtain ⟨x, y⟩ := p
      exact (List.of_mem_zip hm).1
    refine wpAny_bind (wpAny_mono (wpS_sortO (st0 := SortSt.mk' oneType' (keys.zip vs.toArray) #[] 7 none)
      (Q := fun _ st' => Srtd (lt2 ltIv) (arrOf st').toList ∧ Stb (lt2 ltIv) (arrOf st').toList (keys.zip vs.toArray).toList ∧ failedOf st' = none) (swo2 swo_int) (int_cmp hi) rfl all rfl rfl fun st' c1 c2 c3 => ⟨c1, c2, c3⟩) ?_ fun _ _ z => z)
    rintro ⟨⟨⟩, st'⟩ s' ⟨rfl, c1, c2, c3⟩
    exact fin st' c1 c2 c3
theorem ints_app {n : Int} {t : Tok} : ∀ {xs : List Value} {ns : List Int}, IntsAre xs ns → IntsAre (xs ++ [.int n t]) (ns ++ [n])
  | _, _, .nil => .cons n t .nil
  | _, _, .cons m u r => .cons m u (ints_app r)
/-- the lengths are taken one by one -/
theorem len_rest {ss : List Str} (hS : StrsAre vs ss) (hz : ∀ v ∈ vs, (sv v).length ≤ 1000000) (hk : s.heap.get? kS = some (seqObj "list" #[] e)) (ha : s.heap.get? a = some (seqObj "list" #[] e1)) (ne : kS ≠ a) (zv : vs.length ≤ sizeLine)
    (q : ∀ h' tk (out : List Value), (∀ b o, b ≠ a → b ≠ kS → s.heap.get? b = some o → h'.get? b = some o) → (∃ c, h'.get? a = some (seqObj "list" out.toArray c)) → Srtd ltLen out → Stb ltLen out vs → R (.done (.ret .none)) { s with heap := h', toks := tk }) :
    wpAny (model prog w) A (ksk_rest a (.builtin "len") false vs.toArray e1 (.ref kS)) R E s := by
  unfold ksk_rest
  refine wpAny_bind (wpAny_rule ?_)
  rw [List.forIn_toArray]
  refine wpAny_bind (ksk_fold (fun i s' => ∃ h' tk kA c, s' = { s with heap := h', toks := tk } ∧ (∀ b o, b ≠ a → b ≠ kS → s.heap.get? b = some o → h'.get? b = some o) ∧ h'.get? kS = some (seqObj "list" kA c) ∧ h'.get? a = some (seqObj "list" #[] e1) ∧ IntsAre kA.toList ((vs.map fun v => ((sv v).length : Int)).take i)) vs 0 s
    ⟨s.heap, s.toks, #[], e, rfl, fun _ _ _ _ z => z, hk, ha, by simpa using IntsAre.nil⟩ ?step ?done)
  case step =>
    rintro j x s' hx ⟨h', tk, kA, c, rfl, kp, k1, a1, hi⟩
    simp only [Nat.zero_add] at hi ⊢
    have hj : j < vs.length := (List.getElem?_eq_some_iff.mp hx).1
    have hm : x ∈ vs := List.mem_of_getElem? hx
    obtain ⟨y, t, rfl⟩ := hS.all _ hm
    have ly : (y.length : Int) = ((sv (.str y t)).length : Int) := by
      show (y.cps.size : Int) = (y.cps.toList.length : Int)
      rw [Array.length_toList]
    have lz : y.length ≤ 1000000 := by
      have := hz _ hm
      omega
    have zk : kA.size ≤ vs.length := by
      have := hi.length
      rw [Array.length_toList, List.length_take, List.length_map] at this
      omega
    refine wpAny_bind (wpAny_attempt (PySem.P.len_str (by omega) ?_))
    dsimp only
    have b1 := Heap.SameBut.update h' kS (Obj.mapSeq (·.push (.int y.length (tk + 1))))
    have k2 := get?_update_seq k1 (·.push (Value.int y.length (tk + 1)))
    refine wpAny_bind (listUpdate_at k1 rfl ?_ (Nat.le_trans zk zv) (Nat.le_trans (Nat.le_of_eq (Array.size_push ..)) (Nat.succ_le_succ (Nat.le_trans zk zv))))
    refine wpAny_pure ⟨rfl, _, _, kA.push (.int y.length (tk + 1)), _, rfl, fun b o n1 n2 z => (b1.2 b n2).trans (kp b o n1 n2 z), k2, (b1.2 a ne.symm).trans a1, ?_⟩
    have ek : (vs.map fun v => ((sv v).length : Int)).take (j + 1) = (vs.map fun v => ((sv v).length : Int)).take j ++ [(y.length : Int)] := by
      rw [List.take_add_one, List.getElem?_map, hx, ly]
      rfl
    rw [ek, Array.toList_push]
    exact ints_app hi
  case done =>
    rintro s' ⟨h', tk, kA, c, rfl, kp, k1, a1, hi⟩
    have ek : (vs.map fun v => ((sv v).length : Int)).take (0 + vs.length) = vs.map fun v => ((sv v).length : Int) := List.take_of_length_le (by rw [List.length_map]; omega)
    rw [ek] at hi
    refine wpAny_bind (listItems_at k1 rfl ?_)
    exact len_end hS k1 a1 ne zv hi fun h2 out kp2 ho r1 r2 => q h2 tk out (fun b o n1 n2 z => kp2 b o n1 n2 (kp b o n1 n2 z)) ho r1 r2
theorem len_sort {ss : List Str} {n : Nat} (hS : StrsAre vs ss) (hz : ∀ v ∈ vs, (sv v).length ≤ 1000000) (ho : s.heap.get? a = some (seqObj "list" vs.toArray n)) (zv : vs.length ≤ sizeLine)
    (q : ∀ h' tk (out : List Value), (∀ b o, b ≠ a → s.heap.get? b = some o → h'.get? b = some o) → (∃ c, h'.get? a = some (seqObj "list" out.toArray c)) → Srtd ltLen out → Stb ltLen out vs → R (.done (.ret .none)) { s with heap := h', toks := tk }) :
    wpAny (model prog w) A (ksk_tree a (.builtin "len") false) R E s := by
  have la : a < s.heap.objs.size := Heap.lt_size ho
  have b1 := Heap.SameBut.update s.heap a (Obj.mapSeq fun _ => (#[] : Array Value))
  have a1 := get?_update_seq ho fun _ => (#[] : Array Value)
  have hk : ((s.heap.update a (Obj.mapSeq fun _ => (#[] : Array Value))).push (seqObj "tuple" vs.toArray 0)).objs.size = s.heap.objs.size + 1 := by rw [size_push', Heap.size_update]
  unfold ksk_tree
  refine wpAny_bind (listItems_at ho rfl ?_)
  refine wpAny_bind (listUpdate_at ho rfl ?_ (by rw [List.size_toArray]; exact zv) (Nat.zero_le _))
  refine wpAny_bind (seqEpoch_at a1 rfl ?_)
  refine wpAny_bind (wpAny_newTuple ?_ (by show vs.length ≤ _; exact zv))
  refine wpAny_bind (wpAny_newList ?_ (Nat.zero_le _))
  refine wpAny_holding ?_
  have more : ∀ b o, b ≠ a → s.heap.get? b = some o → (((s.heap.update a (Obj.mapSeq fun _ => (#[] : Array Value))).push (seqObj "tuple" vs.toArray 0)).push (seqObj "list" #[] 0)).get? b = some o := fun b o nb z => Heap.get?_push_of_some _ (Heap.get?_push_of_some _ ((b1.2 b nb).trans z))
  refine len_rest (s := { s with heap := ((s.heap.update a (Obj.mapSeq fun _ => (#[] : Array Value))).push (seqObj "tuple" vs.toArray 0)).push (seqObj "list" #[] 0) }) (kS := ((s.heap.update a (Obj.mapSeq fun _ => (#[] : Array Value))).push (seqObj "tuple" vs.toArray 0)).objs.size) (e := 0) hS hz
    (Heap.get?_push_size _ rfl) (Heap.get?_push_of_some _ (Heap.get?_push_of_some _ a1)) (by rw [hk]; exact Nat.ne_of_gt (Nat.lt_succ_of_lt la)) zv fun h' tk out kp ho' r1 r2 => ?_
  refine q h' tk out (fun b o nb z => ?_) ho' r1 r2
  have lb : b < s.heap.objs.size := Heap.lt_size z
  exact kp b o nb (by rw [hk]; exact Nat.ne_of_lt (Nat.lt_succ_of_lt lb)) (more b o nb z)
/-- sorted(l, key=len) -/
theorem len_sorted {ss : List Str} {l : Addr} {Q : Value → Shared → Prop} (hS : StrsAre vs ss) (hz : ∀ v ∈ vs, (sv v).length ≤ 1000000) (hl : s.heap.IsList l vs.toArray) (zv : vs.length ≤ sizeLine)
    (q : ∀ h' tk (out : List Value), (∀ b o, s.heap.get? b = some o → h'.get? b = some o) → (∃ c, h'.get? (s.heap.objs.size + 1) = some (seqObj "list" out.toArray c)) → Srtd ltLen out → Stb ltLen out vs → Q (.ref (s.heap.objs.size + 1)) { s with heap := h', toks := tk }) :
    wpAny (model prog w) A (call (.builtin "sorted") [.ref l] [(Str.ofString "key", .builtin "len")]) Q E s := by
  refine call_function_entry_kw kind_sorted plain_sorted entry_sorted (ksk_s1 _ _) ?_
  unfold Builtin.«sorted»
  refine wpAny_bind (m := checkCount "sorted" 1 1 _) (wpAny_pure ?_)
  refine wpAny_bind (collect_list hl ?_ zv)
  refine wpAny_bind (wpAny_newList ?_ zv)
  have zs : ((s.heap.push (seqObj "list" #[] 0)).update s.heap.objs.size (Obj.mapSeq (· ++ vs.toArray))).objs.size = s.heap.objs.size + 1 := by rw [Heap.size_update, size_push']
  have hL : (((s.heap.push (seqObj "list" #[] 0)).update s.heap.objs.size (Obj.mapSeq (· ++ vs.toArray))).push (seqObj "list" vs.toArray 0)).get? (s.heap.objs.size + 1) = some (seqObj "list" vs.toArray 0) := by
    rw [← zs]
    exact Heap.get?_push_size _ rfl
  have kp : ∀ b o, s.heap.get? b = some o → b ≠ s.heap.objs.size + 1 ∧ (((s.heap.push (seqObj "list" #[] 0)).update s.heap.objs.size (Obj.mapSeq (· ++ vs.toArray))).push (seqObj "list" vs.toArray 0)).get? b = some o := fun b o z => by
    have lb : b < s.heap.objs.size := Heap.lt_size z
    refine ⟨Nat.ne_of_lt (Nat.lt_succ_of_lt lb), Heap.get?_push_of_some _ ?_⟩
    rw [Heap.get?_update_ne _ _ _ _ (Nat.ne_of_lt lb)]
    exact Heap.get?_push_of_some _ z
  show wpAny _ _ _ _ _ { s with heap := ((s.heap.push (seqObj "list" #[] 0)).update s.heap.objs.size (Obj.mapSeq (· ++ vs.toArray))).push (seqObj "list" vs.toArray 0) }
  rw [zs]
  refine wpAny_bind (wpAny_holding (wpAny_call_entry_kw slot_list_sort ⟨_, hL, rfl⟩ entry_list_sort ?body (ksk_l1 _ _)))
  case body =>
    show wpAny (model prog w) A.in1.in1 (Builtin.«list.sort» ⟨[.ref (s.heap.objs.size + 1)], [(Str.ofString "key", .builtin "len")]⟩) _ _ _
    rw [ksk_t4]
    refine len_sort (s := { s with heap := ((s.heap.push (seqObj "list" #[] 0)).update s.heap.objs.size (Obj.mapSeq (· ++ vs.toArray))).push (seqObj "list" vs.toArray 0) }) hS hz hL zv fun h' tk out kp2 ho r1 r2 => ⟨_, rfl, ?_⟩
    exact wpAny_pure ⟨_, rfl, q h' tk out (fun b o z => kp2 b o (kp b o z).1 (kp b o z).2) ho r1 r2⟩
end
end Cw
set_option Elab.async false
set_option linter.all false
set_option maxRecDepth 100000
set_option maxHeartbeats 4000000
/-! the expression sorted(xs, key=len) -/
namespace Cw
open PySem PySem.Spec L2
def rSortedL (K : PySem.W.Frag) : List V → Hp → VK → Prop := fun vs H Q => ∃ (a : Addr) (ls : List (List Nat)), vs = [V.ref a] ∧ SqL K H a (ls.map fun l => V.str (tx l)) ∧ (∀ l ∈ ls, l.length ≤ 1000000) ∧
  ∀ (ls' : List (List Nat)) (p : Addr), ls'.Perm ls → ls'.Pairwise (fun a b => a.length ≤ b.length) → (∀ n, (ls'.filter fun l => decide (l.length = n)) = ls.filter fun l => decide (l.length = n)) → H p = none → Q (.ref p) (upd H p (.lst (ls'.map fun l => V.str (tx l))))
def tSortL (K : PySem.W.Frag) (t : TA) : TE := fun σ H Q => t σ H fun vs H1 => rSortedL K vs H1 Q
theorem e_sortL {K : PySem.W.Frag} {t : TA} {σ : St} {H : Hp} {Q : VK} (q : t σ H fun vs H1 => rSortedL K vs H1 Q) : tSortL K t σ H Q := q
theorem pe_sortL {X : Cx} {K : PySem.W.Frag} {p pos p2 kp : PySem.Pos} {e : Expr} {t : TA} (h : X.K = K) (hg : Gl X "sorted") (hm : X.mg "sorted" = none) (hgl : Gl X "len") (hml : X.mg "len" = none) (ha : PA X [e] t)
    (he : backTo pos (starEach [e] X.env) = (false, eval e X.env) :: backTo pos (starEach [] X.env) := by rfl) (hpl : (backTo pos (starEach [e] X.env)).any (·.1) = false := by rfl) :
    PE X (.Call (.Name "sorted" p) [e] [⟨some "key", .Name "len" p2, kp⟩] pos) (tSortL K t) := by
  subst h
  refine ⟨fun pins s σ H Q I hq => ?_⟩
  refine wpAny_Call_Name_kw (ld_blt I hg hm (u := .builtin "sorted") (by decide +kernel) ?_ (by decide) (by decide))
  refine PyProof.Rows.callWith_kw (thn (ha.run pos pins s σ H _ I hq) fun us s1 ⟨vs, H1, I1, r1, q1⟩ => ?_) he hpl rfl rfl
  show wpAny _ _ (evalAll ((do let v ← eval (.Name "len" p2) X.env; standAt pos; pure v) :: (backToKw pos (keywordEach [] X.env)).map (·.2))) _ _ s1
  refine PySem.wpAny_evalAll_cons (wpAny_bind (ld_blt I1 hgl hml (u := .builtin "len") (by decide +kernel) ?_ (by decide) (by decide)))
  refine wpAny_bind (wpAny_standAt (wpAny_pure ?_))
  refine PySem.wpAny_evalAll_nil ?_
  obtain ⟨a, ls, rfl, hs, lz, q⟩ := q1
  rw [map_tx] at hs
  obtain ⟨its, rv, hl, hz⟩ := I1.list hs
  obtain rfl := Vals.ref1 r1
  have hi := rv.strs
  have zi : its.length ≤ sizeLine := by
    rw [← rv.length]
    exact hz
  have svl : its.map sv = ls := sv_str hi
  show wpAny _ _ (call (.builtin "sorted") [.ref a] [(Str.ofString "key", .builtin "len")]) _ _ s1
  refine len_sorted hi (fun v hv => lz _ (by rw [← svl]; exact List.mem_map.mpr ⟨v, hv, rfl⟩)) hl.isList zi fun h' tk out kp ho r1 r2 => ?_
  have all := fun v hv => hi.all v (r2.perm.mem_iff.mp hv)
  have k1 : PyProof.Rows.StrsAre out ((out.map sv).map tx) := str_sv all
  have k2 : (out.map sv).Perm ls := by
    have := r2.perm.map sv
    rw [svl] at this
    exact this
  have k3 : (out.map sv).Pairwise (fun a b => a.length ≤ b.length) := List.pairwise_map.mpr (r1.imp fun {x y} h => by
    have := of_decide_eq_false (p := (sv y).length < (sv x).length) h
    omega)
  have k4 : ∀ n, ((out.map sv).filter fun l => decide (l.length = n)) = ls.filter fun l => decide (l.length = n) := by
    intro n
    have c := congrArg (List.map sv) (r2.cls (.str (tx (List.replicate n 0)) 0))
    have key : ∀ m : List Value, (m.filter (SrtO.eqv ltLen (.str (tx (List.replicate n 0)) 0))).map sv = (m.map sv).filter fun l => decide (l.length = n) := by
      intro m
      rw [List.filter_map]
      congr 1
      refine List.filter_congr fun v _ => ?_
      show SrtO.eqv ltLen _ v = decide ((sv v).length = n)
      unfold SrtO.eqv ltLen
      have e0 : (sv (.str (tx (List.replicate n 0)) 0)).length = n := by
        show (List.replicate n 0).length = n
        rw [List.length_replicate]
      rw [e0, Bool.eq_iff_iff]
      simp only [Bool.and_eq_true, Bool.not_eq_true', decide_eq_false_iff_not, decide_eq_true_eq]
      omega
    rw [key, key, svl] at c
    exact c
  obtain ⟨ep, he'⟩ := ho
  have hlen : (((out.map sv).map tx).map V.str).length ≤ sizeLine := by
    rw [List.length_map, List.length_map, k2.length_eq, ← svl, List.length_map]
    exact zi
  have q := q _ (s1.heap.objs.size + 1) k2 k3 k4 (I1.hok.fresh (Nat.le_succ _))
  rw [map_tx] at q
  exact ⟨.ref _, upd H1 (s1.heap.objs.size + 1) (.lst (((out.map sv).map tx).map V.str)), I1.laid (t' := tk) kp (Nat.le_succ _) ⟨hlen, out, ep, vals_of_strs k1, he'⟩, rfl, q⟩
def rStrS : List V → Hp → VK → Prop := fun xs H Q => ∃ a, xs = [.str a] ∧ Q (.str a) H
theorem c_strS {X : Cx} : CallR X (.type "str") rStrS := SkE.call_str_str
theorem v_strS {H : Hp} {Q : VK} {a : Str} (q : Q (.str a) H) : rStrS [.str a] H Q := ⟨a, rfl, q⟩
theorem cr_sortedTK {X : Cx} {K : PySem.W.Frag} (h : X.K = K) : CallR X (.builtin "sorted") (rSortedS K) := h ▸ cr_sortedT
/-- texts by length, then by the alphabet -/
def shortLe (a b : List Nat) : Prop := a.length < b.length ∨ (a.length = b.length ∧ ¬ b < a)
theorem sorted_twice {l m n : List (List Nat)} (h1 : m.Perm l) (h2 : m.Pairwise fun a b => ¬ b < a) (h3 : n.Perm m) (h4 : n.Pairwise fun a b => a.length ≤ b.length) (h5 : ∀ k, (n.filter fun l => decide (l.length = k)) = m.filter fun l => decide (l.length = k)) : n.Perm l ∧ n.Pairwise shortLe := by
  refine ⟨h3.trans h1, ?_⟩
  rw [List.pairwise_iff_getElem] at h4 ⊢
  intro i j hi hj hij
  have hl := h4 i j hi hj hij
  by_cases c : n[i].length = n[j].length
  · right
    refine ⟨c, ?_⟩
    have hp : (n.filter fun l => decide (l.length = n[j].length)).Pairwise fun a b => ¬ b < a := by
      rw [h5]
      exact h2.filter _
    have e : n = n.take i ++ (n[i] :: (n.drop (i + 1)).take (j - i - 1) ++ n[j] :: n.drop (j + 1)) := by
      have e1 : n.drop (i + 1) = (n.drop (i + 1)).take (j - i - 1) ++ n[j] :: n.drop (j + 1) := by
        have := List.take_append_drop (j - i - 1) (n.drop (i + 1))
        rw [List.drop_drop, show i + 1 + (j - i - 1) = j by omega] at this
        rw [← List.drop_eq_getElem_cons hj]
        exact this.symm
      rw [List.cons_append, ← e1, ← List.drop_eq_getElem_cons hi, List.take_append_drop]
    generalize hx : n[i] = x at *
    generalize hy : n[j] = y at *
    rw [e, List.filter_append, List.filter_append] at hp
    have hp := (List.pairwise_append.mp hp).2.1
    have px : decide (x.length = y.length) = true := decide_eq_true c
    have py : decide (y.length = y.length) = true := decide_eq_true rfl
    rw [List.filter_cons_of_pos (by simpa using c), List.filter_cons_of_pos (by simp)] at hp
    exact (List.pairwise_append.mp hp).2.2 x (List.mem_cons_self ..) y (List.mem_cons_self ..)
  · left
    omega
end Cw
set_option Elab.async false
set_option linter.all false
set_option maxRecDepth 100000
set_option maxHeartbeats 4000000
namespace Cw
open PySem PySem.Spec L2
local macro_rules | `(tactic| walk_at "side") => `(tactic| first | omega | assumption | (dsimp only; omega) | (unfold CMul; omega) | exact ⟨by decide, by decide, by decide⟩ | exact wdiv (by first | assumption | decide | omega) (by first | assumption | decide | omega) | (simp only [List.length_cons, List.length_nil]; omega) | rfl)
local macro_rules | `(tactic| walk_at "hl") => `(tactic| first | assumption | exact upd_same | ((refine Cw.Same.at (by assumption) ?_); walk_at "hl") | ((refine Cw.Keep.at (by assumption) ?_ (by assumption)); walk_at "hl"))
local macro_rules | `(tactic| walk_at "st") => `(tactic| first
  | (with_reducible refine s_seq ?_) | (with_reducible refine g_nm ?_) | (with_reducible refine s_next ?_) | (with_reducible refine s_set ?_) | (with_reducible refine s_drop ?_) | (with_reducible refine s_ret ?_) | (with_reducible refine s_if ?_)
  | ((with_reducible refine e_varG ?_); refine ⟨_, (by with_unfolding_all rfl), ?_⟩) | (with_reducible refine e_c ?_) | (with_reducible refine e_op ?_) | (with_reducible refine e_un ?_)
  | (with_reducible refine e_cons ?_) | (with_reducible refine e_nil ?_) | (with_reducible refine e_cb ?_) | (with_reducible refine e_call ?_) | (with_reducible refine e_md ?_)
  | (with_reducible refine t_test ?_) | (with_reducible refine t_B ?_) | (with_reducible refine t_and ?_) | (with_reducible refine t_or ?_) | (with_reducible refine t_not ?_)
  | (with_reducible refine e_andV ?_) | (with_reducible refine e_orV ?_) | (with_reducible refine e_notV ?_) | (with_reducible refine e_if ?_)
  | (with_reducible refine v_I0 ?_) | ((with_reducible refine v_I ?c ?_); try (case c => walk_at "side")) | (with_reducible refine v_bl ?_)
  | ((with_reducible refine v_eq ?c ?_); (case c => with_unfolding_all rfl)) | ((with_reducible refine v_ne ?c ?_); (case c => with_unfolding_all rfl))
  | (with_reducible refine v_inti ?_) | (with_reducible refine v_intb ?_) | ((with_reducible refine v_lenG ?_); refine ⟨_, (by walk_at "hl"), ?_⟩)
  | ((with_reducible refine v_lenS ?c ?_); try (case c => walk_at "side"))
  | (with_reducible refine e_dnew ?_) | (with_reducible refine e_dget ?_) | (with_reducible refine s_dput ?_) | (with_reducible refine e_lst ?_) | (with_reducible refine e_tup ?_)
  | ((with_reducible refine v_lst ?c ?_); (case c => walk_at "side")) | ((with_reducible refine v_tup ?c ?_); (case c => walk_at "side"))
  | ((with_reducible refine v_dgetG ?_); refine ⟨_, (by assumption), ?_⟩)
  | (with_reducible refine e_sl ?_) | (with_reducible refine e_nopart ?_) | (with_reducible refine e_part ?_) | (with_reducible refine e_m1 ?_) | (with_reducible refine v_isS ?_) | (with_reducible refine v_int ?_)
  | (with_reducible refine e_lc ?_) | (with_reducible refine e_iStr ?_) | (with_reducible refine e_iEnumS ?_) | (with_reducible refine v_iEnumS ?_) | (with_reducible refine v_str ?_) | (with_reducible refine e_yes ?_) | (with_reducible refine e_fld ?_) | (with_reducible refine e_sfld ?_)
  | ((with_reducible refine v_addS ?c ?_); try (case c => walk_at "side")) | (with_reducible refine v_inS ?_) | (with_reducible refine v_notInS ?_) | (with_reducible refine v_ltS ?_)
  | ((with_reducible refine v_inLG ?_); refine ⟨_, (by walk_at "hl"), ?_⟩) | (with_reducible refine v_isiS ?_) | (with_reducible refine e_revS ?_) | ((with_reducible refine v_revS ?c ?_); try (case c => walk_at "side"))
  | ((with_reducible refine v_lenSetG ?_); refine ⟨_, (by walk_at "hl"), ?_⟩)
  | (with_reducible refine e_bm ?_) | (with_reducible refine e_bm0 ?_) | ((with_reducible refine v_tyLG ?_); refine ⟨_, (by walk_at "hl"), ?_⟩)
  | (with_reducible refine iteNT ?_) | (with_reducible refine iteNF ?_) | (with_reducible refine e_for ?_)
  | (with_reducible refine e_iL ?_) | (with_reducible refine e_iT ?_) | ((with_reducible refine v_iLG ?_); refine ⟨_, (by walk_at "hl"), ?_⟩) | (with_reducible refine e_iR1 ?_) | ((with_reducible refine v_iR1 ?c1 ?c2 ?_); try (case c1 => walk_at "side"); try (case c2 => walk_at "side"))
  | (with_reducible refine e_iR2 ?_) | ((with_reducible refine v_iR2 ?c1 ?_); try (case c1 => walk_at "side"))
  | (with_reducible refine e_pr0 ?_) | (with_reducible refine e_pr ?_) | (with_reducible refine e_disp ?_) | (with_reducible refine s_asgT ?_) | (with_reducible refine e_tryA ?_) | (with_reducible refine e_callS ?_) | (with_reducible refine e_mdS ?_) | (with_reducible refine e_par ?_) | (with_reducible refine v_par ?_) | (with_reducible refine e_par3 ?_) | (with_reducible refine v_par3 ?_) | (with_reducible refine e_iK ?_) | (with_reducible refine e_dnotin ?_)
  | (with_reducible refine iteT ?_) | (with_reducible refine iteF ?_))
local macro_rules | `(tactic| walk_at "go") => `(tactic| repeat walk_at "st")
local macro_rules | `(tactic| walk_at "ro") => `(tactic| first | assumption | ((apply RoomAt.go (by assumption)); walk_at "ro"))
local macro_rules | `(tactic| walk_at "pl") => `(tactic| first | assumption | ((apply PlanAt.go (by assumption)); walk_at "pl"))
local macro_rules | `(tactic| walk_at "st2") => `(tactic| first
  | (walk_at "st")
  | ((with_reducible refine v_rnameG ?_); refine ⟨_, _, _, (by walk_at "ro"), (by assumption), (by assumption), ?_⟩)
  | ((with_reducible refine v_rplanG ?_); refine ⟨_, _, _, (by walk_at "ro"), (by assumption), (by assumption), ?_⟩)
  | ((with_reducible refine v_rlenG ?_); refine ⟨_, _, (by walk_at "ro"), (by omega), ?_⟩)
  | ((with_reducible refine v_reqG ?_); refine ⟨_, _, _, _, _, (by walk_at "ro"), (by walk_at "ro"), (by walk_at "pl"), (by assumption), (by omega), (by omega), ?_⟩)
  | ((with_reducible refine v_rneG ?_); refine ⟨_, _, _, _, _, (by walk_at "ro"), (by walk_at "ro"), (by walk_at "pl"), (by assumption), (by omega), (by omega), ?_⟩)
  | ((with_reducible refine v_reqTG ?_); refine ⟨_, _, (by walk_at "ro"), ?_⟩)
  | ((with_reducible refine v_peqG ?_); refine ⟨_, _, (by walk_at "pl"), (by assumption), ?_⟩)
  | (with_reducible refine if_nI rfl ?_)
  | (with_reducible refine if_I rfl ?_)
  | ((with_reducible refine v_mdRG ?_); refine ⟨_, _, (by walk_at "ro"), (by decide +kernel), ?_⟩)
  | (with_reducible refine s_asgL ?_) | (with_reducible refine e_MN ?_)
  | (with_reducible refine e_CN ?_) | (refine ⟨rfl, rfl, ?_⟩))
local macro_rules | `(tactic| walk_at "go2") => `(tactic| repeat walk_at "st2")
theorem c_setOfSP {X : Cx} {K : PySem.W.Frag} {P : Program} {w : World} (hK : X.K = K) (hP : X.prog = P) (hw : X.w = w) (hc : X.calm = true) : CallR X (.type "set") (rSetOfS K P w) := hP ▸ hw ▸ c_setOfS hK hc
theorem c_sortedWP {X : Cx} {P : Program} {w : World} (hP : X.prog = P) (hw : X.w = w) (hc : X.calm = true) : CallR X (.builtin "sorted") (rSortedW P w) := hP ▸ hw ▸ c_sortedW hc
theorem ones_of {ls : List Nat} : ∀ {vs : List V}, (∀ (k : Nat) (v : V), vs[k]? = some v → ∃ c ∈ ls, v = V.str (tx [c])) → ∃ l, vs = onesV l ∧ l.length = vs.length ∧ ∀ c ∈ l, c ∈ ls
  | [], _ => ⟨[], rfl, rfl, fun _ z => nomatch z⟩
  | v :: vs, h => by
    obtain ⟨c, hc, rfl⟩ := h 0 v rfl
    obtain ⟨l, e, e2, m⟩ := ones_of (vs := vs) fun k u hk => h (k + 1) u hk
    refine ⟨c :: l, by rw [e]; rfl, by rw [List.length_cons, List.length_cons, e2], fun d hd => ?_⟩
    rcases List.mem_cons.mp hd with rfl | hd
    · exact hc
    · exact m d hd
theorem cut_strs (E : List (List Nat)) (lo hi : Option Int) : ∃ F : List (List Nat), cutV (strsG E) lo hi = strsG F ∧ F.length ≤ E.length ∧ ∀ v ∈ F, v ∈ E := by
  unfold cutV strsG
  rw [← List.map_drop, ← List.map_take]
  refine ⟨_, rfl, ?_, fun v hv => List.mem_of_mem_drop (List.mem_of_mem_take hv)⟩
  rw [List.length_take, List.length_drop]
  omega
theorem sorted_ones {cs : List Nat} (asc : cs.Pairwise (· < ·)) {ls' : List (List Nat)} (p : ls'.Perm (cs.map fun c => [c])) (pw : ls'.Pairwise fun a b => ¬ b < a) : ls' = cs.map fun c => [c] := by
  refine p.eq_of_pairwise (le := fun a b => ¬ b < a) (fun a b ha hb h1 h2 => ?_) pw ?_
  · obtain ⟨x, _, rfl⟩ := List.mem_map.mp (p.subset ha)
    obtain ⟨y, _, rfl⟩ := List.mem_map.mp hb
    have e1 := @lt_one y x
    have e2 := @lt_one x y
    rw [decide_eq_decide] at e1 e2
    rw [e1] at h1
    rw [e2] at h2
    have : x = y := by omega
    rw [this]
  · rw [List.pairwise_map]
    refine List.Pairwise.imp (fun {a b} h z => ?_) asc
    have e1 := @lt_one b a
    rw [decide_eq_decide] at e1
    have := e1.mp z
    omega
theorem at_neg1 {α : Type} {xs : List α} {y : α} : atI (xs ++ [y]) (-1) = some y := by
  unfold atI ixN
  rw [if_neg (by omega), if_pos (by rw [List.length_append, List.length_singleton]; omega)]
  show (xs ++ [y])[((-1 : Int) + ((xs ++ [y]).length : Int)).toNat]? = some y
  rw [List.length_append, List.length_singleton, show ((-1 : Int) + ((xs.length + 1 : Nat) : Int)).toNat = xs.length by omega, List.getElem?_append_right (Nat.le_refl _), Nat.sub_self]
  rfl
theorem last_split {v : List Nat} (h : v ≠ []) : ∃ v0, v = v0 ++ [v.getLastD 0] := by
  rcases List.eq_nil_or_concat v with rfl | ⟨v0, c, rfl⟩
  · exact absurd rfl h
  · exact ⟨v0, by simp⟩
section
variable {H : Hp} {Q : VK} {C R : Addr} {ls : List Nat} {fn : Nat → List Nat} {E : XK}
theorem v_eqR {M N : List Nat} {r r' x y : Addr} (h1 : RoomAt R H r x M) (h2 : RoomAt R H r' y N) (p1 : PlanAt C H x (ascOf ls) (tabPairs ls fn)) (p2 : PlanAt C H y (ascOf ls) (tabPairs ls fn)) (l : M.length ≤ 2000) (l2 : N.length ≤ 2000) (q : Q (.bl (decide (M = N))) H) : rM2 R (spRoomEq C R) E (.ref r) (.ref r') H Q := by
  obtain ⟨d1, e1⟩ := h1.ex
  obtain ⟨d2, e2⟩ := h2.ex
  have ps := pairsOf_small (ls.flatMap fun a => (fn a).map fun b => ascOf [a, b])
  refine v_M2 e1 e2 ⟨_, _, _, _, _, _, true, rfl, ⟨h1, h2, ⟨_, _, _, _, p1, p2, ps, ps, (decide_eq_true ⟨rfl, rfl⟩).symm⟩, by omega, by omega⟩, ?_⟩
  rw [Bool.true_and]
  exact q
theorem v_sameR {M : List Nat} {r r' x y : Addr} (fl : Fl ls fn) (h1 : RoomAt R H r x M) (h2 : RoomAt R H r' y M) (p1 : PlanAt C H x (ascOf ls) (tabPairs ls fn)) (p2 : PlanAt C H y (ascOf ls) (tabPairs ls fn)) (l : M.length ≤ 2000) (q : Q (.bl true) H) : rM2 R (spRoomEq C R) E (.ref r) (.ref r') H Q := by
  obtain ⟨d1, e1⟩ := h1.ex
  obtain ⟨d2, e2⟩ := h2.ex
  have ps := pairsOf_small (ls.flatMap fun a => (fn a).map fun b => ascOf [a, b])
  refine v_M2 e1 e2 ⟨_, _, _, _, _, _, true, rfl, ⟨h1, h2, ⟨_, _, _, _, p1, p2, ps, ps, (decide_eq_true ⟨rfl, rfl⟩).symm⟩, by omega, by omega⟩, ?_⟩
  rw [Bool.true_and, decide_eq_true rfl]
  exact q
end
structure TxtL (K : PySem.W.Frag) (mg : Str → Option Value) (C R O : Addr) : Prop extends TxtR K mg C R O where
  range : mg "range" = none
  min : mg "min" = none
  sorted : mg "sorted" = none
section
variable {P : Program} {w : World} {K : PySem.W.Frag} {mg : Str → Option Value} {base : Heap} {C R O : Addr}
abbrev stlaw : Stmt := (top 45)
abbrev Nlaw : List Str := ["_law_script", "_law_pen_here", "_law_again", "_law_table", "_law_floor_here", "_law_letters", "_law_walk", "_law_every", "_law_told", "_law_item", "_law_ends", "_law_k"]
theorem sclaw : FnScope Nlaw ["_law_script"] (defScope stlaw) := ⟨rfl, rfl, rfl, by decide +kernel, rfl, by decide +kernel, by decide +kernel⟩

theorem ok_law {f : Addr} {fd : FuncData} (F : Fun K "law" "law" stlaw f fd) (T : TxtL K mg C R O) (D_pen : Def P w K mg base CX0 1 "_law_pen" ["_law_script"] (spPen K)) (D_draw : Def P w K mg base CX0 1 "_law_draw" ["_law_pen_here", "_law_number"] spDraw) (D_pick : Def P w K mg base CX0 2 "_law_pick" ["_law_pen_here", "_law_items"] spPick) (D_floor : Def P w K mg base CX0 3 "_law_floor" ["_law_pen_here", "_law_number"] spFloor) (D_made : Def P w K mg base CX0 5 "_law_made" ["_law_pen_here", "_law_table"] (spMade C)) (D_shortest_ones : Def P w K mg base CX0 2 "_law_shortest_ones" ["_law_table", "_law_walk"] spShortest)
    (C_Room : CDef P w K mg base CX0 3 "Room" R (spRoom C R)) (M_Room_eq : MDef P w K mg base CX0 2 R "__eq__" ["self", "other"] (spRoomEq C R)) (M_Room_nearer : MDef P w K mg base CX0 4 R "nearer" ["self"] (spNearer C R)) : FnOk P w K mg base CX0 8 f fd ["_law_script"] (spLaw K) := by
  refine F.ok sclaw (fun vs H Q E h => ?_) (fun cdv A outer s H vs Q E hr h => ?_)
  · obtain ⟨a, ns, rfl, _⟩ := h
    rfl
  obtain ⟨sc, ns, rfl, ha, hn, k⟩ := h
  have hu := hu_of hr
  have nd := sclaw.nd
  replace D_pen := D_pen.mono (show 1 ≤ 7 by decide)
  replace D_draw := D_draw.mono (show 1 ≤ 7 by decide)
  replace D_pick := D_pick.mono (show 2 ≤ 7 by decide)
  replace D_floor := D_floor.mono (show 3 ≤ 7 by decide)
  replace D_made := D_made.mono (show 5 ≤ 7 by decide)
  replace D_shortest_ones := D_shortest_ones.mono (show 2 ≤ 7 by decide)
  replace C_Room := C_Room.mono (show 3 ≤ 6 by decide)
  replace M_Room_eq := M_Room_eq.mono (show 2 ≤ 7 by decide)
  replace M_Room_nearer := M_Room_nearer.mono (show 4 ≤ 7 by decide)
  have clR := T.Room.cl
  have nNm := T.nNm
  have nPl := T.nPl
  refine ⟨_, (pss_cons (ps_set (i := 1) nd rfl (Or.inr rfl) (pe_cd D_pen hr pass0 (pa_cons (pv 0) pa_nil)))
      (pss_cons (ps_for PassesOwn.never rfl (pi_range1 (by rfl) T.range (pa_cons (pe_op op_add pe_int (pe_callB (call_min2 rfl) (by rfl) T.min (by decide +kernel) (pa_cons pe_int (pa_cons (pe_callB (c_lenK (K := K) rfl) (by rfl) T.len PySem.boot_len (pa_cons (pv 0) pa_nil)) pa_nil)))) pa_nil)) (pg_name (i := 2) nd rfl (Or.inl rfl))
      (pss_cons (ps_set (i := 3) nd rfl (Or.inl rfl) (pe_cd D_floor hr pass0 (pa_cons (pv 1) (pa_cons pe_int pa_nil))))
        (pss_cons (ps_asg (pe_tup (pa_cons (pe_cd D_made hr pass0 (pa_cons (pv 1) (pa_cons (pv 3) pa_nil))) (pa_cons (pe_callTy (call_list_dK rfl) (by rfl) T.list (by decide +kernel) (pa_cons (pv 3) pa_nil)) pa_nil))) (pg_tup rfl (pgs_cons (pg_name (i := 4) nd rfl (Or.inl rfl)) (pgs_cons (pg_name (i := 5) nd rfl (Or.inr rfl)) pgs_nil))))
        (pss_cons (ps_set (i := 6) nd rfl (Or.inl rfl) (pe_joinK (K := K) rfl (pe_tx [] (by decide +kernel)) (pe_lc (own := [("_law_k", 11)]) (g := gName 11) (by rfl) nd (pi_range1 (by rfl) T.range (pa_cons (pe_cd D_draw hr pass0 (pa_cons (pv 1) (pa_cons pe_int pa_nil))) pa_nil)) (blkOk_by (own := [("_law_k", 11)]) (N := Nlaw) (sc := defScope stlaw) (by decide +kernel)) (fun _ _ _ _ _ => (pg_name (i := 11) nd rfl (Or.inl rfl))) (fun _ _ _ _ _ => pts_nil) (fun _ _ _ _ _ => (pe_cd D_pick hr pass0 (pa_cons (pv 1) (pa_cons (pv 5) pa_nil)))))))
        (pss_cons (ps_set (i := 7) nd rfl (Or.inl rfl) (pe_cd D_shortest_ones hr pass0 (pa_cons (pv 3) (pa_cons (pv 6) pa_nil))))
        (pss_cons (ps_set (i := 8) nd rfl (Or.inl rfl) (pe_flK (K := K) rfl (pe_mk C_Room hr pass0 (pa_cons (pv 4) (pa_cons (pv 6) pa_nil))) rfl))
        (pss_cons (ps_if (pt_cmpR op_ne (pv 8) (pe_ix (ix_LK (K := K) rfl) (pe_callB (cr_sortedTK (K := K) rfl) (by rfl) T.sorted (by decide +kernel) (pa_cons (pe_lc (own := [("_law_item", 9)]) (g := gName 9) (by rfl) nd (pi_listK (K := K) rfl (pv 7)) (blkOk_by (own := [("_law_item", 9)]) (N := Nlaw) (sc := defScope stlaw) (by decide +kernel)) (fun _ _ _ _ _ => (pg_name (i := 9) nd rfl (Or.inl rfl))) (fun _ _ _ _ _ => pts_nil) (fun _ _ _ _ _ => (pe_callTy c_strS (by rfl) T.str (by decide +kernel) (pa_cons (pv 9) pa_nil)))) pa_nil)) pe_int (fun _ _ => rfl)) (nomark _))
        (pss_one (ps_ret pe_bl))
        pss_nil)
        (pss_cons (ps_for PassesOwn.never rfl (pi_listK (K := K) rfl (pe_op op_cat1 (pe_slice (sl_LK (K := K) rfl) (pv 7) po_none (po_some pe_int)) (pe_slice (sl_LK (K := K) rfl) (pv 7) (po_some (pe_un un_neg pe_int)) po_none))) (pg_name (i := 9) nd rfl (Or.inl rfl))
        (pss_one (ps_if (pt_not (pt_cmpR (op_cmpM (op := .Eq) (fun _ _ => rfl) M_Room_eq hr pass0) (pe_mk C_Room hr pass0 (pa_cons (pv 4) (pa_cons (pv 9) pa_nil))) (pe_mk C_Room hr pass0 (pa_cons (pv 4) (pa_cons (pv 6) pa_nil))) (nomark _)))
          (pss_one (ps_ret pe_bl))
          pss_nil)))
        (pss_cons (ps_set (i := 10) nd rfl (Or.inl rfl) (pe_callB (c_sortedWP (P := P) (w := w) rfl rfl rfl) (by rfl) T.sorted (by decide +kernel) (pa_cons (pe_callTy (c_setOfSP (K := K) (P := P) (w := w) rfl rfl rfl rfl) (by rfl) T.set (by decide +kernel) (pa_cons (pe_lc (own := [("_law_item", 9)]) (g := gName 9) (by rfl) nd (pi_listK (K := K) rfl (pv 7)) (blkOk_by (own := [("_law_item", 9)]) (N := Nlaw) (sc := defScope stlaw) (by decide +kernel)) (fun _ _ _ _ _ => (pg_name (i := 9) nd rfl (Or.inl rfl))) (fun _ _ _ _ _ => (pts_one (pt_cmpR op_ne (pv 9) (pe_tx [] (by decide +kernel)) (nomark _)))) (fun _ _ _ _ _ => (pe_callTy c_strS (by rfl) T.str (by decide +kernel) (pa_cons (pe_ix ix_str (pv 9) (pe_un un_neg pe_int) (fun _ _ => rfl)) pa_nil)))) pa_nil)) pa_nil)))
        (pss_one (ps_if (pt_cmpR op_ne (pe_md0 M_Room_nearer T.Room.cl hr pass0 (pe_mk C_Room hr pass0 (pa_cons (pv 4) (pa_cons (pv 6) pa_nil)))) (pe_joinK (K := K) rfl (pe_tx [] (by decide +kernel)) (pe_lc (own := [("_law_item", 9)]) (g := gName 9) (by rfl) nd (pi_listK (K := K) rfl (pv 10)) (blkOk_by (own := [("_law_item", 9)]) (N := Nlaw) (sc := defScope stlaw) (by decide +kernel)) (fun _ _ _ _ _ => (pg_name (i := 9) nd rfl (Or.inl rfl))) (fun _ _ _ _ _ => pts_nil) (fun _ _ _ _ _ => (pe_callTy c_strS (by rfl) T.str (by decide +kernel) (pa_cons (pv 9) pa_nil))))) (nomark _))
        (pss_one (ps_ret pe_bl))
        pss_nil)))))))))))
      (pss_one (ps_ret pe_bl)))), ?_⟩
  refine s_start [some _, none, none, none, none, none, none, none, none, none, none, none] rfl ?_
  walk_at "go"
  refine ⟨sc, ns, rfl, ha, hn, fun g H1 p1 s1 hg => ?_⟩
  walk_at "go"
  refine ⟨sc, _, rfl, .inl (sqL_same ha s1), ?_⟩
  walk_at "go"
  refine ⟨_, _, rfl, ?_⟩
  walk_at "go"
  have hm : (4 + (if ((ns.map V.int).length : Int) < 6 then ((ns.map V.int).length : Int) else 6)).toNat ≤ 10 := by split <;> omega
  refine for_it (walk_rI (fun i => ((i : Nat) : Int)) (fun k => Int.zero_add _)) (fun i σ H' => ∃ x2 x3 x4 x5 x6 x7 x8 x9 x10, σ = [some (.ref sc), some (.ref g.p), x2, x3, x4, x5, x6, x7, x8, x9, x10, none] ∧ PenAt g H' (1000 * i)) ⟨_, _, _, _, _, _, _, _, _, rfl, p1⟩ (fun _ _ _ _ _ => trivial) ?_ ?_
  · rintro i v σ H2 H3 hi ⟨x2, x3, x4, x5, x6, x7, x8, x9, x10, rfl, p3⟩ ⟨rfl, rfl⟩
    refine g_nm ?_
    refine s_hide fun Dn hDn => ?_
    walk_at "go"
    refine ⟨g, 1000 * i, 6, rfl, by omega, by omega, p3, by omega, fun d ls rel H4 hd flr e4 p4 k4 => ?_⟩
    have fl := flr.fl
    have ndp := (p3.p_ne hd).symm
    have h6 : ls.length ≤ 6 := (cut_len flr.cut).2.1
    generalize crossBy ls rel = fn at fl e4
    have tab := fl.tab
    have ok := fl.ok
    have l8 := tab.len
    have lt1 : ∀ c ∈ ls, c < 1000 := fun c hc => let_lt' c (tab.lt c hc)
    walk_at "go"
    refine ⟨g, _, d, ls, fn, rfl, p4, by omega, ndp, e4, tab, fun x H5 hx k5 p5 pl5 of5 => ?_⟩
    have e5 := k5 _ _ e4 ndp
    clear e4 p4 k4
    walk_at "go"
    refine v_listD e5 fun la H6 hla s6 e6 => ?_
    have e6 : H6 la = some (.lst (onesV ls)) := by rw [e6, tab_keys]; rfl
    have d6 := s6 _ _ e5
    have pl6 := pl5.same s6
    have p6 := p5.same s6
    have nlp : la ≠ g.p := (p5.p_ne hla).symm
    clear e5 p5 pl5 of5 s6
    walk_at "go"
    intro pt7 H7 hpt s7 e7
    refine v_gTup2 rfl e7 ?_
    have d7 := s7 _ _ d6
    have e7 := s7 _ _ e6
    have pl7 := pl6.same s7
    have p7 := p6.same s7
    clear d6 e6 pl6 p6 s7
    walk_at "go"
    refine ⟨g, 8, _, rfl, by omega, by omega, p7, by omega, fun z H8 z0 z1 p8 k8 => ?_⟩
    have d8 := k8 _ _ d7 ndp
    have e8 := k8 _ _ e7 nlp
    have pl8 := pl7.pen p7 k8
    clear d7 e7 pl7 p7 k8
    walk_at "go"
    refine lc_mapP (g := g) (a := 1) (n := z.toNat) (it := fun k => V.int ((k : Nat) : Int)) (fun k v H' => ∃ c ∈ ls, v = V.str (tx [c])) (walk_rI (fun i => ((i : Nat) : Int)) (fun k => Int.zero_add _)) (fun _ _ => trivial) (by omega) (fun _ _ _ _ h _ => h) (fun _ _ _ _ _ _ h _ _ => h) p8 ?_ ?_ ?_
    · intro k hk Ha ka pa R r
      walk_at "go"
      exact r Ha (Same.refl _)
    · intro k hk Ha ka pa R r
      walk_at "go"
      refine ⟨g, _, la, _, rfl, ka _ _ e8 nlp, by rw [onesV_len]; exact fl.pos, by rw [onesV_len]; omega, pa, by omega, nlp, fun v Hb hv pb kb => ?_⟩
      obtain ⟨c, hc, rfl⟩ := List.mem_map.mp hv
      exact r _ _ kb pb ⟨c, hc, rfl⟩
    intro D H9 vs hD k9 p9 e9 lvs rel
    obtain ⟨w1, rfl, lw, m1⟩ := ones_of (fun k v hk => rel k v hk)
    have l1 : w1.length ≤ 7 := by omega
    have d9 := k9 _ _ d8 ndp
    have pl9 := pl8.pen p8 k9
    clear rel lvs lw k9 p8 pl8 e8 d8
    have e9 : H9 D = some (.lst (strsV (w1.map fun c => [c]))) := by rw [e9, ← strs_ones]; rfl
    walk_at "go"
    refine v_join e9 (by rw [flat_ones]; omega) ?_
    rw [flat_ones]
    walk_at "go"
    refine ⟨d, ls, fn, w1, rfl, d9, fl, h6, m1, l1, fun ea E H10 u s10 cl mu lu nu cE e10 => ?_⟩
    have d10 := s10 _ _ d9
    have pl10 := pl9.same s10
    have p10 := p9.same s10
    clear d9 pl9 p9 e9
    walk_at "go"
    refine sp_room fl pl10 m1 (by omega) fun r1 H11 hr1 s11 ro1 => ?_
    obtain ⟨dx1, f1⟩ := ro1.ex
    walk_at "go"
    refine v_fld f1 T.Room.cl T.nNm roomF_n ?_
    have e11 := s11 _ _ e10
    have d11 := s11 _ _ d10
    have pl11 := pl10.same s11
    have p11 := p10.same s11
    have lE := cE.2.2
    have mE : ∀ v ∈ E, ∀ c ∈ v, c ∈ ls := fun v hv c hc => mu c (((cE.2.1 v).mp hv).perm.mem_iff.mp hc)
    have lnE : ∀ v ∈ E, v.length ≤ 7 := fun v hv => by rw [((cE.2.1 v).mp hv).len]; exact lu
    have nE : ∀ v ∈ E, nameOf fn v = nameOf fn w1 := fun v hv => by rw [((cE.2.1 v).mp hv).name ok, nu]
    clear e10 d10 pl10 p10 s11 s10 f1 ro1
    walk_at "go"
    refine vals_someG (Gs := E) (b := fun _ => true) (f := fun v => V.str (tx v)) (walk_strsL (Gs := E)) (fun H' s' => SqL.of (s' _ _ e11)) (by omega) (fun v hv Ha sa Rk r' => ?_) (fun v hv _ Ha sa Rk r' => ?_) (fun D2 H12 hD2 s12 e12 => ?_)
    · walk_at "go"
      exact r' Ha (Same.refl _)
    · walk_at "go"
      refine v_strS ?_
      exact r' Ha (Same.refl _)
    rw [filter_yes] at e12
    walk_at "go"
    refine ⟨D2, E, rfl, SqL.of e12, fun S p pm pw hp => ?_⟩
    cases hS : S with
    | nil =>
      rw [hS] at pm
      have := pm.mem_iff.mpr ((cE.2.1 u).mpr .refl)
      cases this
    | cons m r =>
    rw [hS] at pm pw
    have hmE : m ∈ E := pm.mem_iff.mp (List.mem_cons_self ..)
    have em : m = nameOf fn u := cl.first ok ((cE.2.1 m).mp hmE) fun v hv => by
      rcases List.mem_cons.mp (pm.mem_iff.mpr ((cE.2.1 v).mpr hv)) with rfl | hv
      · exact List.lt_irrefl _
      · exact (List.pairwise_cons.mp pw).1 v hv
    have s13 := s12.trans (Same.new (o := .lst ((m :: r).map fun l => V.str (tx l))) hp)
    have e13p : upd H12 p (.lst ((m :: r).map fun l => V.str (tx l))) p = some (.lst ((m :: r).map fun l => V.str (tx l))) := upd_same
    generalize upd H12 p (.lst ((m :: r).map fun l => V.str (tx l))) = H13 at s13 e13p ⊢
    walk_at "go"
    refine v_ixL (v := V.str (tx m)) e13p (atI_nat (j := 0) rfl) ?_
    rw [show joinC fn [] w1 = m by rw [em, nu]]
    have e13 := s13 _ _ e11
    have d13 := s13 _ _ d11
    have pl13 := pl11.same s13
    have p13 := p11.same s13
    clear e11 d11 pl11 p11 s13 s12 e12 e13p
    walk_at "go2"
    refine v_slL (SqL.of e13) fun q1 H14 hq1 s14 e14 => ?_
    obtain ⟨F1, eF1, lF1, mF1⟩ := cut_strs E none (some 3)
    rw [eF1] at e14
    walk_at "go2"
    refine ⟨_, rfl, _, rfl, ?_⟩
    walk_at "go2"
    refine v_slL (SqL.of (s14 _ _ e13)) fun q2 H15 hq2 s15 e15 => ?_
    obtain ⟨F2, eF2, lF2, mF2⟩ := cut_strs E (some (-3)) none
    rw [eF2] at e15
    refine v_cat (s15 _ _ e14) e15 (by unfold strsG; rw [List.length_map, List.length_map]; omega) fun q3 H16 hq3 s16 e16 => ?_
    have e16 : H16 q3 = some (.lst (strsG (F1 ++ F2))) := by
      rw [e16]
      unfold strsG
      rw [List.map_append]
    have mF : ∀ v ∈ F1 ++ F2, v ∈ E := fun v hv => (List.mem_append.mp hv).elim (mF1 v) (mF2 v)
    have s1316 := (s14.trans s15).trans s16
    have e17 := s1316 _ _ e13
    have pl16 := pl13.same s1316
    have p16 := p13.same s1316
    clear s14 s15 s16 e14 e15 e13 pl13 p13 s1316 eF1 eF2
    walk_at "go2"
    refine for_it walk_strsL (fun j σ H' => ∃ x9, σ = [some (.ref sc), some (.ref g.p), some (.int (i : Nat)), some (.ref d), some (.ref x), some (.ref la), some (.str (tx w1)), some (.ref ea), some (.str (tx m)), x9, x10, none] ∧ Same H16 H') ⟨_, rfl, Same.refl _⟩ (fun j σ H' _ ⟨_, _, e⟩ => SqL.of (e _ _ e16)) ?_ ?_
    · rintro j v σ H17 H18 hj ⟨x9, rfl, s18⟩ ⟨rfl, rfl⟩
      have hm2 : (F1 ++ F2).getD j [] ∈ F1 ++ F2 := by rw [List.getD_eq_getElem?_getD, List.getElem?_eq_getElem hj]; exact List.getElem_mem hj
      have hvE := mF _ hm2
      generalize (F1 ++ F2).getD j [] = v at *
      have lv := lnE v hvE
      walk_at "go2"
      refine sp_room fl (pl16.same s18) (mE v hvE) (by omega) fun r2 H19 hr2 s19 ro2 => ?_
      walk_at "go2"
      refine sp_room fl ((pl16.same s18).same s19) m1 (by omega) fun r3 H20 hr3 s20 ro3 => ?_
      rw [show joinC fn [] v = nameOf fn w1 from nE v hvE] at ro2
      walk_at "go2"
      refine v_sameR fl (ro2.same s20) ro3 (((pl16.same s18).same s19).same s20) (((pl16.same s18).same s19).same s20) (Nat.le_trans (name_len _ _) (by omega)) ?_
      walk_at "go2"
      exact ⟨_, rfl, (s18.trans s19).trans s20⟩
    rintro σ H17 ⟨x9', rfl, s17⟩
    have e18 := s17 _ _ e17
    have pl17 := pl16.same s17
    have p17 := p16.same s17
    clear e17 pl16 p16 s17 e16
    walk_at "go2"
    refine vals_someG (Gs := E) (b := fun v => !decide (v = [])) (f := fun v => V.str (tx [v.getLastD 0])) (walk_strsL (Gs := E)) (fun H' s' => SqL.of (s' _ _ e18)) (by omega) (fun v hv Ha sa Rk r' => ?_) (fun v hv hb Ha sa Rk r' => ?_) (fun D3 H19 hD3 s19 e19 => ?_)
    · walk_at "go2"
      rw [dec_tx]
      exact r' Ha (Same.refl _)
    · have hv0 : v ≠ [] := by simpa using hb
      have lv := lnE v hv
      obtain ⟨v0, ev⟩ := last_split hv0
      generalize v.getLastD 0 = c at ev r' ⊢
      subst ev
      walk_at "go2"
      refine ⟨_, rfl, ?_⟩
      refine v_ixS (by omega) at_neg1 ?_
      walk_at "go2"
      refine v_strS ?_
      exact r' Ha (Same.refl _)
    walk_at "go2"
    have e19 : H19 D3 = some (.lst (((E.filter fun v => !decide (v = [])).map fun v => [v.getLastD 0]).map fun l => V.str (tx l))) := by
      rw [e19, List.map_map]
      rfl
    have mL : ∀ x, (x ∈ (E.filter fun v => !decide (v = [])).map fun v => [v.getLastD 0]) ↔ ∃ c ∈ ls, desc fn c (joinC fn [] w1).reverse ∧ x = [c] := fun x => by
      rw [List.mem_map, show joinC fn [] w1 = nameOf fn u from nu.symm]
      constructor
      · rintro ⟨v, hv, rfl⟩
        obtain ⟨hv, hv0⟩ := List.mem_filter.mp hv
        have hv0 : v ≠ [] := by simpa using hv0
        obtain ⟨v0, ev⟩ := last_split hv0
        have hc : v.getLastD 0 ∈ ls := mE v hv _ (by rw [ev]; simp)
        refine ⟨v.getLastD 0, hc, (cl.last ok mu hc).mpr ⟨v0, ?_⟩, rfl⟩
        rw [← ev]
        exact (cE.2.1 v).mp hv
      · rintro ⟨c, hc, hd, rfl⟩
        obtain ⟨v0, hx⟩ := (cl.last ok mu hc).mp hd
        refine ⟨v0 ++ [c], List.mem_filter.mpr ⟨(cE.2.1 _).mpr hx, by simp⟩, by simp⟩
    refine ⟨D3, _, ls.map fun c => [c], rfl, SqL.of e19, fun x hx => ?_, by rw [List.length_map]; omega, fun p6 ms hp6 ndm memm => ?_⟩
    · obtain ⟨c, hc, _, rfl⟩ := (mL x).mp hx
      exact List.mem_map.mpr ⟨c, hc, rfl⟩
    walk_at "go2"
    refine ⟨p6, ms, rfl, upd_same, fun p7 S2 pm2 pw2 hp7 => ?_⟩
    have fasc : (ls.filter fun c => decide (desc fn c (joinC fn [] w1).reverse)).Pairwise (· < ·) := List.Pairwise.filter _ fl.asc
    have eS : S2 = (ls.filter fun c => decide (desc fn c (joinC fn [] w1).reverse)).map fun c => [c] := by
      refine sorted_ones fasc (pm2.trans ?_) pw2
      refine (List.perm_ext_iff_of_nodup ndm ?_).mpr fun x => ?_
      · exact List.Pairwise.map _ (fun a b (h : a ≠ b) z => h (by injection z)) (fl.tab.nd.sublist List.filter_sublist)
      · rw [memm, mL, List.mem_map]
        constructor
        · rintro ⟨c, hc, hd, rfl⟩
          exact ⟨c, List.mem_filter.mpr ⟨hc, decide_eq_true hd⟩, rfl⟩
        · rintro ⟨c, hc, rfl⟩
          obtain ⟨h1, h2⟩ := List.mem_filter.mp hc
          exact ⟨c, h1, of_decide_eq_true h2, rfl⟩
    have s20 : Same H19 (upd (upd H19 p6 (SetW P w p6 (ms.map tx))) p7 (.lst (S2.map fun l => V.str (tx l)))) := (Same.new hp6).trans (Same.new hp7)
    have e20 : upd (upd H19 p6 (SetW P w p6 (ms.map tx))) p7 (.lst (S2.map fun l => V.str (tx l))) p7 = some (.lst (strsG S2)) := upd_same
    generalize upd (upd H19 p6 (SetW P w p6 (ms.map tx))) p7 (.lst (S2.map fun l => V.str (tx l))) = H20 at s20 e20 ⊢
    have s1720 := s19.trans s20
    have pl20 := pl17.same s1720
    have p20 := p17.same s1720
    clear s19 e19 pl17 p17 e18
    walk_at "go2"
    refine sp_room fl pl20 m1 (by omega) fun r4 H21 hr4 s21 ro4 => ?_
    have pl21 := pl20.same s21
    have e21 := s21 _ _ e20
    walk_at "go2"
    refine sp_nearer fl ro4 pl21 m1 (by omega) fun H22 s22 => ?_
    have e22 := s22 _ _ e21
    have lS2 : S2.length ≤ 8 := by
      rw [eS, List.length_map]
      exact Nat.le_trans (List.length_filter_le _ _) l8
    walk_at "go2"
    refine vals_someG (Gs := S2) (b := fun _ => true) (f := fun v => V.str (tx v)) (walk_strsL (Gs := S2)) (fun H' s' => SqL.of (s' _ _ e22)) (by omega) (fun v hv Ha sa Rk r' => ?_) (fun v hv _ Ha sa Rk r' => ?_) (fun D4 H23 hD4 s23 e23 => ?_)
    · walk_at "go2"
      exact r' Ha (Same.refl _)
    · walk_at "go2"
      refine v_strS ?_
      exact r' Ha (Same.refl _)
    rw [filter_yes] at e23
    have e23 : H23 D4 = some (.lst (strsV S2)) := e23
    have fS2 : S2.flatten = ls.filter fun c => decide (desc fn c (joinC fn [] w1).reverse) := by rw [eS, flat_ones]
    have lfS : (ls.filter fun c => decide (desc fn c (joinC fn [] w1).reverse)).length ≤ ls.length := List.length_filter_le _ _
    walk_at "go2"
    refine v_join e23 (by rw [fS2]; omega) ?_
    rw [fS2]
    walk_at "go2"
    exact hDn _ _ ⟨_, _, _, _, _, _, _, _, _, rfl, (((p20.same s21).same s22).same s23).mono (by omega)⟩
  · rintro σ H2 ⟨x2, x3, x4, x5, x6, x7, x8, x9, x10, rfl, p2⟩
    walk_at "go"
    exact k H2
end
end Cw
set_option Elab.async false
set_option linter.all false
set_option maxRecDepth 100000
set_option maxHeartbeats 4000000
/-! what the top has left, one lemma a kind -/
namespace Cw
open PySem PySem.Spec L2
section
variable {K : PySem.W.Frag} {h : Heap} {mg : Str → Option Value} {x m qual : Str} {st : Stmt} {f C T : Addr} {oc kV dc pm cd ct oc2 : Value} {od an od2 : Option Addr} {sl sl2 : Array (Option Value)}
theorem glob_mk {v : Value} (X : K.In h) (G : h.Ns mainGlobals mg) (a : PySem.W.nsIn K mainGlobals x = some (some v)) : mg x = some v := PySem.W.mg_of X G a
theorem fnAt_mk (X : K.In h) (G : h.Ns mainGlobals mg) (a : PySem.W.nsIn K mainGlobals x = some (some (.ref f))) (l : K.lookup f = some ⟨oc, od, .func (PySem.W.fnOf x x (defArgs st) (defBody st) (defScope st) .none kV dc pm an cd ct), sl⟩)
    (c : PySem.W.codeIn K cd x = true) (k : PySem.W.keepIn K (.ref f) = true) : FnAt K mg x st := ⟨f, _, PySem.W.mg_of X G a, fun_mk (st := st) l c k⟩
theorem mAt_mk (a : PySem.W.findIn K (.ref C) m = some (some (.ref f))) (i : PySem.W.isFn K (.ref f) = true) (l : K.lookup f = some ⟨oc, od, .func (PySem.W.fnOf m qual (defArgs st) (defBody st) (defScope st) .none kV dc pm an cd ct), sl⟩)
    (c : PySem.W.codeIn K cd qual = true) (k : PySem.W.keepIn K (.ref f) = true) : MAt K C m qual st := ⟨f, _, a, i, fun_mk (st := st) l c k⟩
theorem mAtD_mk {arr : Array Value} {n : Nat} {dvs : List V} (a : PySem.W.findIn K (.ref C) m = some (some (.ref f))) (i : PySem.W.isFn K (.ref f) = true) (l : K.lookup f = some ⟨oc, od, .func (PySem.W.fnOf m qual (defArgs st) (defBody st) (defScope st) (.ref T) kV dc pm an cd ct), sl⟩)
    (c : PySem.W.codeIn K cd qual = true) (k : PySem.W.keepIn K (.ref f) = true) (t : K.lookup T = some ⟨oc2, od2, .seq arr n, sl2⟩) (hv : Vals dvs arr.toList) (hd : dvs ≠ []) : MAtD K C m qual st dvs :=
  ⟨f, _, a, i, ⟨⟨oc, od, .ref T, kV, dc, pm, an, cd, ct, sl, rfl, l, c, .inr ⟨hd, T, _, arr.toList, n, rfl, t, rfl, hv⟩, .inl rfl⟩, k⟩⟩
theorem cls_mk (X : K.In h) (G : h.Ns mainGlobals mg) (a : PySem.W.nsIn K mainGlobals x = some (some (.ref C))) (pg : PySem.W.plainGet K C Str.empty = true) (hd : PySem.W.hasDictIn K C = true) (po : PySem.W.plainOver K C = true)
    (sa : PySem.W.findIn K (.ref C) "__setattr__" = some (some (.builtin "object.__setattr__"))) (mk : PySem.W.makesIn K C = true) (kc : PySem.W.keepIn K (.ref C) = true)
    (ha : PySem.W.findIn K (.ref C) "__class__" = some (some (.builtin "object.__class__"))) (hn : PySem.W.specialIn K (.builtin "object.__class__") "__get__" = some (some (.builtin "getset_descriptor.__get__"))) (ht : PySem.W.takesIn K (.builtin "object.__class__") = some true)
    (hm : PySem.W.mroIn K C (.type "object") = some true) (ob : PySem.W.subIn K (.ref C) (.type "object") = some true) (ne : PySem.W.findIn K (.ref C) "__ne__" = some (some (.builtin "object.__ne__"))) : ClsF K mg x C :=
  ⟨PySem.W.mg_of X G a, ⟨pg, hd, po, sa⟩, mk, kc, ha, hn, ht, hm, ob, ne⟩
theorem exc_mk (X : K.In h) (G : h.Ns mainGlobals mg) (a : PySem.W.nsIn K mainGlobals x = some (some (.ref C))) (e : PySem.W.excIn K C [.type "ValueError", .type "Exception", .type "BaseException", .type "object"] "ValueError.__new__" = true) (k : PySem.W.keepIn K (.ref C) = true) (ty : PySem.W.typeIn K (.ref C) = some (.type "type"))
    (hg : PySem.W.findIn K (.ref C) "__getattribute__" = some (some (.builtin "BaseException.__getattribute__"))) (hk : PySem.W.findIn K (.ref C) "__getattr__" = some none) (hs : PySem.W.subIn K (.ref C) (.type "BaseException") = some true) (hd : PySem.W.hasDictIn K C = true)
    (ha : PySem.W.findIn K (.ref C) "__class__" = some (some (.builtin "object.__class__"))) (hn : PySem.W.specialIn K (.builtin "object.__class__") "__get__" = some (some (.builtin "getset_descriptor.__get__"))) (ht : PySem.W.takesIn K (.builtin "object.__class__") = some true) (hm : PySem.W.mroIn K C (.type "object") = some true) : ExcF K mg x C :=
  ⟨PySem.W.mg_of X G a, e, k, ty, ⟨hg, hk, hs, hd, ha, hn, ht, hm⟩⟩
theorem fun1_mk (X : K.In h) (G : h.Ns mainGlobals mg) {fa : Addr} (hm : mg x = some (.ref fa)) (a : PySem.W.nsIn K mainGlobals x = some (some (.ref f))) (l : K.lookup f = some ⟨oc, od, .func (PySem.W.fnOf x x (defArgs st) (defBody st) (defScope st) .none kV dc pm an cd ct), sl⟩)
    (c : PySem.W.codeIn K cd x = true) (k : PySem.W.keepIn K (.ref f) = true) : Fun K x x st fa (PySem.W.fnOf x x (defArgs st) (defBody st) (defScope st) .none kV dc pm an cd ct) := by
  have e := hm.symm.trans (PySem.W.mg_of X G a)
  cases e
  exact fun_mk (st := st) l c k
end
/-- the law's end: its def's promise -/
theorem end_walk {l : PySem.W.OpenLaw} {q : Program} {loose : List Str} {XP : (Str → Option Value) → Heap → Prop} {YP : World → Heap → Prop} {d : DefRec} {K : Params → PySem.W.Frag} {k : Nat} {x : Str} {sp : PySem.W.Frag → Sp} (hn : l.most = some 63) (hdf : d.params.defaults = []) (hr : Room k callerA)
    (hY : ∀ (w : World) (h : Heap), YP w h → (K w.params).In h)
    (hsp : ∀ (K : PySem.W.Frag) (H : Hp) (a : Addr) (ns : List Int), ns.length ≤ 63 → Only H → SqL K H a (ns.map V.int) → sp K [.ref a] H (fun v _ => v = .bl true) fun _ _ _ => False)
    (F : ∀ (w : World) (mg : Str → Option Value) (fa : Addr) (h : Heap), (K w.params).In h → h.Ns mainGlobals mg → mg d.name = some (.ref fa) →
      ∃ fd : FuncData, (∀ (s : Shared) (u : Value), BindsTo s fd ⟨[u], []⟩ [(x, u)]) ∧ ∀ base : Heap, (K w.params).In base → base.Ns mainGlobals mg → FnOk l.prog w (K w.params) mg base CX0 k fa fd [x] (sp (K w.params))) :
    PySem.W.WalkO q loose XP YP l.row.toRowW d [] (fun f vs => PySem.call f vs) := L2.walk_ofK (n := 63) hn (by decide) hdf hr hY F hsp fun _ _ _ _ z => z
end Cw
set_option Elab.async false
set_option linter.all false
set_option maxRecDepth 100000
set_option maxHeartbeats 4000000
namespace Cw
open PySem PySem.Spec L2
theorem end06 {w : World} {K : PySem.W.Frag} {mg : Str → Option Value} {C R O fa e0 : Addr} {fd : FuncData} {t1 t2 t3 : Tok} {dd0 : Option Addr} {n0 : Nat} {sl0 : Array (Option Value)}
    (c_Plan : ClsF K mg "Plan" C)
    (c_Room : ClsF K mg "Room" R)
    (e_OtherPlan : ExcF K mg "OtherPlan" O)
    (F_stepped : FnAt K mg "stepped" ststepped)
    (F_joined : FnAt K mg "joined" stjoined)
    (F_still_free : FnAt K mg "still_free" ststill_free)
    (F_first_kinds : FnAt K mg "first_kinds" stfirst_kinds)
    (F_last_kinds : FnAt K mg "last_kinds" stlast_kinds)
    (F_is_list : FnAt K mg "is_list" stis_list)
    (F_is_kind : FnAt K mg "is_kind" stis_kind)
    (F_need_kind : FnAt K mg "need_kind" stneed_kind)
    (F_need_way : FnAt K mg "need_way" stneed_way)
    (F_need_same : FnAt K mg "need_same" stneed_same)
    (F_are_letters : FnAt K mg "are_letters" stare_letters)
    (F_ascending : FnAt K mg "ascending" stascending)
    (F_checked_pairs : FnAt K mg "checked_pairs" stchecked_pairs)
    (F_need_few : FnAt K mg "need_few" stneed_few)
    (F_crossing_table : FnAt K mg "crossing_table" stcrossing_table)
    (F_pen : FnAt K mg "_law_pen" stpen)
    (F_draw : FnAt K mg "_law_draw" stdraw)
    (F_pick : FnAt K mg "_law_pick" stpick)
    (F_shuffled : FnAt K mg "_law_shuffled" stshuffled)
    (F_floor : FnAt K mg "_law_floor" stfloor)
    (F_made : FnAt K mg "_law_made" stmade)
    (F_shorter : FnAt K mg "_law_shorter" stshorter)
    (F_exchanged : FnAt K mg "_law_exchanged" stexchanged)
    (F_shortest_ones : FnAt K mg "_law_shortest_ones" stshortest_ones)
    (F_law : Fun K "law" "law" stlaw fa fd)
    (F_Plan_eq : MAt K C "__eq__" "Plan.__eq__" stPlan_eq)
    (F_Plan_init : MAtD K C "__init__" "Plan.__init__" stPlan_init [.ref e0])
    (F_Room_init : MAtD K R "__init__" "Room.__init__" stRoom_init [.str (tx [])])
    (F_Room_eq : MAt K R "__eq__" "Room.__eq__" stRoom_eq)
    (F_Room_nearer : MAt K R "nearer" "Room.nearer" stRoom_nearer)
    (z_len : mg "len" = none)
    (z_int : mg "int" = none)
    (z_list : mg "list" = none)
    (z_isinstance : mg "isinstance" = none)
    (z_str : mg "str" = none)
    (z_all : mg "all" = none)
    (z_set : mg "set" = none)
    (z_tuple : mg "tuple" = none)
    (z_enumerate : mg "enumerate" = none)
    (z_range : mg "range" = none)
    (z_min : mg "min" = none)
    (z_sorted : mg "sorted" = none)
    (n_C_kinds : NoAttr K C "kinds")
    (n_C_pairs : NoAttr K C "pairs")
    (n_C_own_crossing : NoAttr K C "own_crossing")
    (n_R_plan : NoAttr K R "plan")
    (n_R_name : NoAttr K R "name")
    (g_LETTERS : mg "LETTERS" = some (.str (tx LET) t1))
    (g_MOST_KINDS : mg "MOST_KINDS" = some (.int 8 t2))
    (g_MOST_LETTERS : mg "MOST_LETTERS" = some (.int 2000 t3))
    (ke0 : K.lookup e0 = some ⟨.type "tuple", dd0, .seq #[] n0, sl0⟩) (base : Heap) : FnOk PySem.Challenge.pw_crosswalls_k06_least_of_all_shortest_way w K mg base CX0 8 fa fd ["_law_script"] (spLaw K) := by
  have T : Txt K mg := ⟨z_len, z_int, z_list⟩
  have TP : TxtP K mg C := ⟨z_len, z_int, z_list, z_isinstance, z_str, z_all, z_set, z_tuple, ⟨_, g_LETTERS⟩, ⟨_, g_MOST_KINDS⟩, c_Plan, n_C_kinds, n_C_pairs, n_C_own_crossing⟩
  have TR : TxtR K mg C R O := ⟨TP, z_enumerate, ⟨_, g_MOST_LETTERS⟩, c_Room, n_R_plan, n_R_name, e_OtherPlan⟩
  have TH : TxtH K mg := ⟨T, z_range⟩
  have TL : TxtL K mg C R O := ⟨TR, z_range, z_min, z_sorted⟩
  have D_draw := ok_draw (P := PySem.Challenge.pw_crosswalls_k06_least_of_all_shortest_way) (w := w) (base := base) F_draw T
  have D_pen := ok_pen (P := PySem.Challenge.pw_crosswalls_k06_least_of_all_shortest_way) (w := w) (base := base) F_pen T
  have D_are := ok_are_letters (P := PySem.Challenge.pw_crosswalls_k06_least_of_all_shortest_way) (w := w) (base := base) F_are_letters TP
  have D_asc := ok_ascending (P := PySem.Challenge.pw_crosswalls_k06_least_of_all_shortest_way) (w := w) (base := base) F_ascending TP
  have D_isl := ok_is_list (P := PySem.Challenge.pw_crosswalls_k06_least_of_all_shortest_way) (w := w) (base := base) F_is_list TP
  have D_few := ok_need_few (P := PySem.Challenge.pw_crosswalls_k06_least_of_all_shortest_way) (w := w) (base := base) F_need_few TP
  have D_chk := ok_checked_pairs F_checked_pairs TP D_isl D_are D_asc
  have D_tab := ok_crossing_table (P := PySem.Challenge.pw_crosswalls_k06_least_of_all_shortest_way) (w := w) (base := base) F_crossing_table TP
  have X_Plan := ok_Plan F_Plan_init rfl TP D_are D_asc D_chk D_few D_tab
  have M_Plan_eq := ok_Plan_eq (P := PySem.Challenge.pw_crosswalls_k06_least_of_all_shortest_way) (w := w) (mg := mg) (base := base) F_Plan_eq TP
  have D_st := ok_stepped (P := PySem.Challenge.pw_crosswalls_k06_least_of_all_shortest_way) (w := w) (base := base) F_stepped TP
  have D_jo := ok_joined F_joined D_st
  have D_sf := ok_still_free (P := PySem.Challenge.pw_crosswalls_k06_least_of_all_shortest_way) (w := w) (base := base) F_still_free TP
  have D_fk := ok_first_kinds F_first_kinds TP D_sf
  have D_nw := ok_need_way (P := PySem.Challenge.pw_crosswalls_k06_least_of_all_shortest_way) (w := w) (base := base) F_need_way TR
  have X_Room := ok_Room F_Room_init rfl TR D_nw D_jo
  have M_eq := ok_Room_eq F_Room_eq TR M_Plan_eq
  have D_pick := ok_pick F_pick T D_draw
  have D_shuf := ok_shuffled F_shuffled T D_draw
  have D_floor := ok_floor F_floor TH D_draw D_pick
  have D_made := ok_made F_made TR D_draw D_shuf X_Plan.cdef
  have D_lk := ok_last_kinds F_last_kinds D_fk
  have M_ne := ok_Room_nearer F_Room_nearer TR D_lk
  have D_sh := ok_shorter (P := PySem.Challenge.pw_crosswalls_k06_least_of_all_shortest_way) (w := w) (base := base) F_shorter TH
  have D_ex := ok_exchanged (P := PySem.Challenge.pw_crosswalls_k06_least_of_all_shortest_way) (w := w) (base := base) F_exchanged TH
  have D_so := ok_shortest_ones F_shortest_ones D_ex D_sh
  exact ok_law F_law TL D_pen D_draw D_pick D_floor D_made D_so X_Room.cdef M_eq M_ne
end Cw
set_option Elab.async false
set_option linter.all false
set_option maxRecDepth 100000
open PySem PySem.W PyProof.Rows
set_option maxRecDepth 100000 in
set_option maxHeartbeats 0 in
theorem PySem.Challenge.cw_crosswalls_k06_least_of_all_shortest_way_holds : PySem.Challenge.rw_crosswalls_k06_least_of_all_shortest_way.Holds := by
  refine Cw.headOf ?_
  k_fill
  refine Cw.end_walk (l := PySem.Challenge.rw_crosswalls_k06_least_of_all_shortest_way) (k := 8) (x := "_law_script") (sp := Cw.spLaw) rfl rfl ⟨rfl, by decide, by decide⟩ (fun w h Y => PySem.W.kIn_of Y) (fun _ _ a ns hl _ hS => ⟨a, ns, rfl, hS, hl, fun _ => rfl⟩) ?F
  case F =>
    intro w mg fa h KX G hmg
    refine' ⟨_, fun s v => ?b, fun base _ _ => ?h⟩
    case h =>
      refine' Cw.end06 ?c_Plan ?c_Room ?e_OtherPlan ?F_stepped ?F_joined ?F_still_free ?F_first_kinds ?F_last_kinds ?F_is_list ?F_is_kind ?F_need_kind ?F_need_way ?F_need_same ?F_are_letters ?F_ascending ?F_checked_pairs ?F_need_few ?F_crossing_table ?F_pen ?F_draw ?F_pick ?F_shuffled ?F_floor ?F_made ?F_shorter ?F_exchanged ?F_shortest_ones ?F_law ?F_Plan_eq ?F_Plan_init ?F_Room_init ?F_Room_eq ?F_Room_nearer ?z_len ?z_int ?z_list ?z_isinstance ?z_str ?z_all ?z_set ?z_tuple ?z_enumerate ?z_range ?z_min ?z_sorted ?n_C_kinds ?n_C_pairs ?n_C_own_crossing ?n_R_plan ?n_R_name ?g_LETTERS ?g_MOST_KINDS ?g_MOST_LETTERS ?ke0 base
      case c_Plan => refine' Cw.cls_mk KX G ?a ?pg ?hd ?po ?sa ?mk ?kc ?ha ?hn ?ht ?hm ?ob ?ne; (case a => k_is); (case pg => k_is); (case hd => k_is); (case po => k_is); (case sa => k_is); (case mk => k_is); (case kc => k_is); (case ha => k_is); (case hn => k_is); (case ht => k_is); (case hm => k_is); (case ob => k_is); (case ne => k_is)
      case c_Room => refine' Cw.cls_mk KX G ?a ?pg ?hd ?po ?sa ?mk ?kc ?ha ?hn ?ht ?hm ?ob ?ne; (case a => k_is); (case pg => k_is); (case hd => k_is); (case po => k_is); (case sa => k_is); (case mk => k_is); (case kc => k_is); (case ha => k_is); (case hn => k_is); (case ht => k_is); (case hm => k_is); (case ob => k_is); (case ne => k_is)
      case e_OtherPlan => refine' Cw.exc_mk KX G ?a ?e ?k ?ty ?hg ?hk ?hs ?hd ?ha ?hn ?ht ?hm; (case a => k_is); (case k => k_is); (case ty => k_is); (case hg => k_is); (case hk => k_is); (case hs => k_is); (case hd => k_is); (case ha => k_is); (case hn => k_is); (case ht => k_is); (case hm => k_is); (case e => k_exc)
      case F_stepped => refine' Cw.fnAt_mk KX G ?a ?l ?c ?k; (case a => k_is); (case l => k_is); (case c => k_is); (case k => k_is)
      case F_joined => refine' Cw.fnAt_mk KX G ?a ?l ?c ?k; (case a => k_is); (case l => k_is); (case c => k_is); (case k => k_is)
      case F_still_free => refine' Cw.fnAt_mk KX G ?a ?l ?c ?k; (case a => k_is); (case l => k_is); (case c => k_is); (case k => k_is)
      case F_first_kinds => refine' Cw.fnAt_mk KX G ?a ?l ?c ?k; (case a => k_is); (case l => k_is); (case c => k_is); (case k => k_is)
      case F_last_kinds => refine' Cw.fnAt_mk KX G ?a ?l ?c ?k; (case a => k_is); (case l => k_is); (case c => k_is); (case k => k_is)
      case F_is_list => refine' Cw.fnAt_mk KX G ?a ?l ?c ?k; (case a => k_is); (case l => k_is); (case c => k_is); (case k => k_is)
      case F_is_kind => refine' Cw.fnAt_mk KX G ?a ?l ?c ?k; (case a => k_is); (case l => k_is); (case c => k_is); (case k => k_is)
      case F_need_kind => refine' Cw.fnAt_mk KX G ?a ?l ?c ?k; (case a => k_is); (case l => k_is); (case c => k_is); (case k => k_is)
      case F_need_way => refine' Cw.fnAt_mk KX G ?a ?l ?c ?k; (case a => k_is); (case l => k_is); (case c => k_is); (case k => k_is)
      case F_need_same => refine' Cw.fnAt_mk KX G ?a ?l ?c ?k; (case a => k_is); (case l => k_is); (case c => k_is); (case k => k_is)
      case F_are_letters => refine' Cw.fnAt_mk KX G ?a ?l ?c ?k; (case a => k_is); (case l => k_is); (case c => k_is); (case k => k_is)
      case F_ascending => refine' Cw.fnAt_mk KX G ?a ?l ?c ?k; (case a => k_is); (case l => k_is); (case c => k_is); (case k => k_is)
      case F_checked_pairs => refine' Cw.fnAt_mk KX G ?a ?l ?c ?k; (case a => k_is); (case l => k_is); (case c => k_is); (case k => k_is)
      case F_need_few => refine' Cw.fnAt_mk KX G ?a ?l ?c ?k; (case a => k_is); (case l => k_is); (case c => k_is); (case k => k_is)
      case F_crossing_table => refine' Cw.fnAt_mk KX G ?a ?l ?c ?k; (case a => k_is); (case l => k_is); (case c => k_is); (case k => k_is)
      case F_pen => refine' Cw.fnAt_mk KX G ?a ?l ?c ?k; (case a => k_is); (case l => k_is); (case c => k_is); (case k => k_is)
      case F_draw => refine' Cw.fnAt_mk KX G ?a ?l ?c ?k; (case a => k_is); (case l => k_is); (case c => k_is); (case k => k_is)
      case F_pick => refine' Cw.fnAt_mk KX G ?a ?l ?c ?k; (case a => k_is); (case l => k_is); (case c => k_is); (case k => k_is)
      case F_shuffled => refine' Cw.fnAt_mk KX G ?a ?l ?c ?k; (case a => k_is); (case l => k_is); (case c => k_is); (case k => k_is)
      case F_floor => refine' Cw.fnAt_mk KX G ?a ?l ?c ?k; (case a => k_is); (case l => k_is); (case c => k_is); (case k => k_is)
      case F_made => refine' Cw.fnAt_mk KX G ?a ?l ?c ?k; (case a => k_is); (case l => k_is); (case c => k_is); (case k => k_is)
      case F_shorter => refine' Cw.fnAt_mk KX G ?a ?l ?c ?k; (case a => k_is); (case l => k_is); (case c => k_is); (case k => k_is)
      case F_exchanged => refine' Cw.fnAt_mk KX G ?a ?l ?c ?k; (case a => k_is); (case l => k_is); (case c => k_is); (case k => k_is)
      case F_shortest_ones => refine' Cw.fnAt_mk KX G ?a ?l ?c ?k; (case a => k_is); (case l => k_is); (case c => k_is); (case k => k_is)
      case F_law => refine' Cw.fun1_mk KX G hmg ?a ?l ?c ?k; (case a => k_is); (case l => k_is); (case c => k_is); (case k => k_is)
      case F_Plan_eq => refine' Cw.mAt_mk ?a ?i ?l ?c ?k; (case a => k_is); (case i => k_is); (case l => k_is); (case c => k_is); (case k => k_is)
      case F_Plan_init => refine' Cw.mAtD_mk ?a ?i ?l ?c ?k ?t ?v ?d; (case a => k_is); (case i => k_is); (case l => k_is); (case c => k_is); (case k => k_is); (case t => k_is); (case v => exact .cons rfl .nil); (case d => intro z; cases z)
      case F_Room_init => refine' Cw.mAtD_mk ?a ?i ?l ?c ?k ?t ?v ?d; (case a => k_is); (case i => k_is); (case l => k_is); (case c => k_is); (case k => k_is); (case t => k_is); (case v => exact .cons ⟨_, rfl⟩ .nil); (case d => intro z; cases z)
      case F_Room_eq => refine' Cw.mAt_mk ?a ?i ?l ?c ?k; (case a => k_is); (case i => k_is); (case l => k_is); (case c => k_is); (case k => k_is)
      case F_Room_nearer => refine' Cw.mAt_mk ?a ?i ?l ?c ?k; (case a => k_is); (case i => k_is); (case l => k_is); (case c => k_is); (case k => k_is)
      case z_len => refine' PySem.W.mg_none_of KX G ?a; (case a => k_is)
      case z_int => refine' PySem.W.mg_none_of KX G ?a; (case a => k_is)
      case z_list => refine' PySem.W.mg_none_of KX G ?a; (case a => k_is)
      case z_isinstance => refine' PySem.W.mg_none_of KX G ?a; (case a => k_is)
      case z_str => refine' PySem.W.mg_none_of KX G ?a; (case a => k_is)
      case z_all => refine' PySem.W.mg_none_of KX G ?a; (case a => k_is)
      case z_set => refine' PySem.W.mg_none_of KX G ?a; (case a => k_is)
      case z_tuple => refine' PySem.W.mg_none_of KX G ?a; (case a => k_is)
      case z_enumerate => refine' PySem.W.mg_none_of KX G ?a; (case a => k_is)
      case z_range => refine' PySem.W.mg_none_of KX G ?a; (case a => k_is)
      case z_min => refine' PySem.W.mg_none_of KX G ?a; (case a => k_is)
      case z_sorted => refine' PySem.W.mg_none_of KX G ?a; (case a => k_is)
      case n_C_kinds => unfold L2.NoAttr; k_is
      case n_C_pairs => unfold L2.NoAttr; k_is
      case n_C_own_crossing => unfold L2.NoAttr; k_is
      case n_R_plan => unfold L2.NoAttr; k_is
      case n_R_name => unfold L2.NoAttr; k_is
      case g_LETTERS => refine' Cw.glob_mk KX G ?a; (case a => k_is)
      case g_MOST_KINDS => refine' Cw.glob_mk KX G ?a; (case a => k_is)
      case g_MOST_LETTERS => refine' Cw.glob_mk KX G ?a; (case a => k_is)
      case ke0 => first | k_is | k_exc | kernel_rfl
    case b => exact .of_eq rfl
