import PyProof.Rows.All
import Wide.All
import OpenK.AllK
import Wide.FinOn
import HandS.ForMost
import HandS.ForExc
import HandS.Wide
import HandS.Style
import HandS.Flow
import HandS.IsInst
import HandS.OwnEq
import PyProof.Rows.SetFrom
import PyProof.StrWalks
import PyProof.InstNe
import HandS.Exc
import HandS.Defaults
import HandS.Walk
import PyProof.Rows.StrRev
import HandS.Steps
import PySem.Challenge.RW_crosswalls_k23_blocks_of_rooms
import KE.GoesMore
import HandS.TupLe
import HandS.ExcOwn
import HandS.ExcIs
import PyProof.ExcBaseAll.ValueError
import HandS.Iter
import HandS.Conv
import HandS.More
import HandS.WordsExc
import HandS.MakeKw
import HandS.MakeKwOnly
import HandS.Codes
import PyProof.FString5
import HandS.Replace
import PyProof.JoinWalk
import PyProof.CollectIter
import PyProof.DictWalks
import PyProof.FactsAll.dict_keyiterator_1
import PyProof.Rows.StrJoin2
import KE.KDictList
import HandS.TryOnly
import HandS.Deep
import HandS.SortInts
import HandS.SortKw
import HandS.RaiseMore
import HandS.DeepEq
import PyProof.NeKinds
import HandS.ExcInit
import HandS.Nested
import KE.KExcSuper
import HandS.ExcField
import KE.KExcIs
import HandS.TryMany
import HandS.Comp
import HandS.HotCalls
import HandS.Lambda
import HandS.Set
import HandS.SetFor
import PyProof.ListStr
import HandS.Ends
import HandS.EndTab
import KE.KStateDown
import HandS.Head0
import HandS.Head1
import HandS.Head2
import KE.KNestM
set_option Elab.async false
set_option maxRecDepth 100000
set_option maxHeartbeats 4000000
/-! Own words over the hand layer: defs by name, texts as lists of codes. -/
namespace Cw
open PySem PySem.Spec PyProof.Rows L2

/-! ### defs by their module name -/
/-- a def of the module stands as the text has it -/
structure FnAt (K : PySem.W.Frag) (mg : Str → Option Value) (x : Str) (st : Stmt) : Prop where
  ex : ∃ f fd, mg x = some (.ref f) ∧ Fun K x x st f fd
/-- how a def's arguments bind where all are given, and where it stands -/
structure Bd (K : PySem.W.Frag) (f : Addr) (fd : FuncData) (ps : List Str) : Prop where
  b : Binds K fd ps []
  lk : ∃ oc od osl, K.lookup f = some ⟨oc, od, .func fd, osl⟩
theorem funLk {K : PySem.W.Frag} {x qual : Str} {st : Stmt} {f : Addr} {fd : FuncData} (F : Fun K x qual st f fd) : ∃ oc od osl, K.lookup f = some ⟨oc, od, .func fd, osl⟩ := by
  obtain ⟨oc, od, kV, doc, pm, an, cdv, ct, osl, rfl, lk, _⟩ := F.ex
  exact ⟨oc, od, osl, lk⟩
/-- a def of the module keeps a promise -/
structure Def (P : Program) (w : World) (K : PySem.W.Frag) (mg : Str → Option Value) (base : Heap) (CX : CXT) (k : Nat) (x : Str) (ps : List Str) (sp : Sp) : Prop where
  ex : ∃ f fd, mg x = some (.ref f) ∧ PySem.W.keepIn K (.ref f) = true ∧ Bd K f fd ps ∧ FnOk P w K mg base CX k f fd ps sp
section
variable {P : Program} {w : World} {K : PySem.W.Frag} {mg : Str → Option Value} {base : Heap} {CX : CXT} {k : Nat} {x : Str} {ps N : List Str} {sp : Sp} {st : Stmt}
theorem Def.mono {j : Nat} (D : Def P w K mg base CX j x ps sp) (h : j ≤ k) : Def P w K mg base CX k x ps sp := by
  obtain ⟨f, fd, a, b, c, d⟩ := D.ex
  exact ⟨f, fd, a, b, c, d.mono h⟩
theorem Def.imp {sp' : Sp} (D : Def P w K mg base CX k x ps sp) (h : ∀ vs H Q E, sp' vs H Q E → sp vs H Q E) : Def P w K mg base CX k x ps sp' := by
  obtain ⟨f, fd, a, b, c, d⟩ := D.ex
  exact ⟨f, fd, a, b, c, d.imp h⟩
/-- a def that lets no exception out -/
theorem FnAt.ok (F : FnAt K mg x st) (S : FnScope N ps (defScope st))
    (hb : ∀ (kV doc pm : Value) (an : Option Addr) (cdv ct : Value) (us : List Value), us.length = ps.length → bindArgs (PySem.W.fnOf x x (defArgs st) (defBody st) (defScope st) .none kV doc pm an cdv ct) ⟨us, []⟩ = pure (ps.zip us))
    (len : ∀ vs H Q E, sp vs H Q E → vs.length = ps.length)
    (hbody : ∀ (f : Addr) (cdv : Value) (A : Around) (outer : List Env) (s : Shared) (H : Hp) (vs : List V) (Q : VK) (E : XK), Room k (A.deeper (envOfC x (defScope st) s.heap.objs.size f cdv)) → sp vs H Q E →
      ∃ t, PSs (cxOf CX0 P w K mg base N x (defScope st) f cdv A outer s H E).nox (defBody st) t ∧ t { nx := fun _ H' => Q .non H', rt := Q } (start N vs) H) : Def P w K mg base CX0 (k + 1) x ps sp := by
  obtain ⟨f, fd, hm, F⟩ := F.ex
  exact ⟨f, fd, hm, F.kp, ⟨F.binds hb, funLk F⟩, F.ok S len fun cdv A outer s H vs Q E hr h => hbody f cdv A outer s H vs Q E hr h⟩
/-- a def that may raise -/
theorem FnAt.okX (F : FnAt K mg x st) (S : FnScope N ps (defScope st))
    (hb : ∀ (kV doc pm : Value) (an : Option Addr) (cdv ct : Value) (us : List Value), us.length = ps.length → bindArgs (PySem.W.fnOf x x (defArgs st) (defBody st) (defScope st) .none kV doc pm an cdv ct) ⟨us, []⟩ = pure (ps.zip us))
    (len : ∀ vs H Q E, sp vs H Q E → vs.length = ps.length)
    (hbody : ∀ (f : Addr) (cdv : Value) (A : Around) (outer : List Env) (s : Shared) (H : Hp) (vs : List V) (Q : VK) (E : XK), Room k (A.deeper (envOfC x (defScope st) s.heap.objs.size f cdv)) → sp vs H Q E →
      ∃ t, PSs (cxOf (L2.CX P w) P w K mg base N x (defScope st) f cdv A outer s H E) (defBody st) t ∧ t { nx := fun _ H' => Q .non H', rt := Q } (start N vs) H) : Def P w K mg base (L2.CX P w) (k + 1) x ps sp := by
  obtain ⟨f, fd, hm, F⟩ := F.ex
  exact ⟨f, fd, hm, F.kp, ⟨F.binds hb, funLk F⟩, F.okX S len fun cdv A outer s H vs Q E hr h => hbody f cdv A outer s H vs Q E hr h⟩
end
section
variable {X : Cx} {CX : CXT} {k : Nat} {ps : List Str} {sp : Sp} {E : XK} {x : Str} {p pos : PySem.Pos} {e : Expr} {es : List Expr} {t : TA}
/-- f(e, ..) of a def that is known by its name -/
theorem pe_cd (D : Def X.prog X.w X.K X.mg X.base CX k x ps sp) (hr : Room k X.A) (hx : Passes CX X E) (ha : PA X (e :: es) t) (hg : Gl X x := by rfl) (hdb : (x == ("__debug__" : Str)) = false := by decide)
    (he : starEach (e :: es) X.env = (false, eval e X.env) :: starEach es X.env := by rfl) (hpl : (backTo pos (starEach es X.env)).any (·.1) = false := by rfl) : PE X (.Call (.Name x p) (e :: es) [] pos) (tCall sp [] E t) := by
  obtain ⟨f, fd, a, b, c, d⟩ := D.ex
  exact pe_call d hr hg a b c.b .nil hx ha hdb he hpl
end
/-! ### heaps -/
/-- all but the object at p is kept -/
def Keep (p : Addr) (H H' : Hp) : Prop := ∀ b o, H b = some o → b ≠ p → H' b = some o
theorem Keep.refl (p : Addr) (H : Hp) : Keep p H H := fun _ _ h _ => h
theorem Keep.trans {p : Addr} {H H1 H2 : Hp} (a : Keep p H H1) (b : Keep p H1 H2) : Keep p H H2 := fun c o h n => b c o (a c o h n) n
theorem Keep.of {p : Addr} {H H' : Hp} (a : Same H H') : Keep p H H' := fun c o h _ => a c o h
theorem Same.at {H H' : Hp} {a : Addr} {o : HO} (S : Same H H') (h : H a = some o) : H' a = some o := S a o h
theorem Keep.at {p : Addr} {H H' : Hp} {a : Addr} {o : HO} (S : Keep p H H') (h : H a = some o) (n : a ≠ p) : H' a = some o := S a o h n
theorem Same.new {H : Hp} {p : Addr} {o : HO} (h : H p = none) : Same H (upd H p o) := fun a u e => by
  rw [upd_ne (ne_of_none e h)]
  exact e
theorem Keep.put {p : Addr} {H : Hp} {o : HO} : Keep p H (upd H p o) := fun a u e n => by
  rw [upd_ne n]
  exact e
end Cw
set_option Elab.async false
set_option linter.all false
set_option maxRecDepth 100000
set_option maxHeartbeats 4000000
namespace Cw
open PySem PySem.Spec L2
/-! ### texts as lists of codes -/
abbrev tx (l : List Nat) : Str := ⟨l.toArray⟩
theorem tx_len (l : List Nat) : (tx l).length = l.length := by
  show (l.toArray).size = l.length
  simp
theorem tx_app (a b : List Nat) : tx a ++ tx b = tx (a ++ b) := by
  show (⟨a.toArray ++ b.toArray⟩ : Str) = ⟨(a ++ b).toArray⟩
  simp
theorem tx_eq {z : Str} : z = tx z.cps.toList := by
  cases z
  simp [tx]
theorem tx_inj {a b : List Nat} : tx a = tx b ↔ a = b := by
  constructor
  · intro h
    have := congrArg (fun z : Str => z.cps.toList) h
    simpa using this
  · intro h
    rw [h]
theorem dec_tx {a b : List Nat} : decide (V.str (tx a) = V.str (tx b)) = decide (a = b) := by
  rw [Bool.eq_iff_iff, decide_eq_true_iff, decide_eq_true_iff]
  constructor
  · intro h
    injection h with h
    exact tx_inj.mp h
  · intro h
    rw [h]

/-! ### stepping: expressions -/
section
variable {σ : St} {H : Hp} {Q : VK} {i : Nat} {v x y : V} {ta tb te : TE} {r : R2} {D : Ends} {K : PySem.W.Frag}
theorem e_c (q : Q v H) : tC v σ H Q := q
theorem e_op (q : ta σ H fun x H1 => tb σ H1 fun y H2 => r x y H2 Q) : tOp r ta tb σ H Q := q
theorem e_un {r : V → Hp → VK → Prop} (q : ta σ H fun x H1 => r x H1 Q) : tUn r ta σ H Q := q
theorem v_I0 {g : Int → Int → V} {a b : Int} (q : Q (g a b) H) : rI0 g (.int a) (.int b) H Q := ⟨a, b, rfl, rfl, q⟩
theorem v_I {C : Int → Int → Prop} {g : Int → Int → V} {a b : Int} (c : C a b) (q : Q (g a b) H) : rI C g (.int a) (.int b) H Q := ⟨a, b, rfl, rfl, c, q⟩
theorem v_eq (c : scal x y = true) (q : Q (.bl (decide (x = y))) H) : rEq x y H Q := ⟨c, q⟩
theorem v_ne (c : scal x y = true) (q : Q (.bl (!decide (x = y))) H) : rNe x y H Q := ⟨c, q⟩
theorem v_bl {P : Bool → Prop} {b : Bool} (q : P b) : ∃ k, V.bl b = V.bl k ∧ P k := ⟨b, rfl, q⟩
theorem v_int {P : Int → Prop} {b : Int} (q : P b) : ∃ k, V.int b = V.int k ∧ P k := ⟨b, rfl, q⟩
theorem v_str {P : Str → Prop} {b : Str} (q : P b) : ∃ k, V.str b = V.str k ∧ P k := ⟨b, rfl, q⟩
theorem e_andV (q : ta σ H fun x H1 => ∃ c, x = .bl c ∧ if c = true then tb σ H1 Q else Q (.bl false) H1) : tAndV ta tb σ H Q := q
theorem e_orV (q : ta σ H fun x H1 => ∃ c, x = .bl c ∧ if c = true then Q (.bl true) H1 else tb σ H1 Q) : tOrV ta tb σ H Q := q
theorem e_notV (q : ta σ H fun x H1 => ∃ c, x = .bl c ∧ Q (.bl (!c)) H1) : tNotV ta σ H Q := q
theorem e_if {t : TT} (q : t σ H fun c H1 => if c = true then ta σ H1 Q else tb σ H1 Q) : tIf t ta tb σ H Q := q
theorem e_nil {Q : List V → Hp → Prop} (q : Q [] H) : tNil σ H Q := q
theorem e_cons {tr : TA} {Q : List V → Hp → Prop} (q : ta σ H fun x H1 => tr σ H1 fun xs H2 => Q (x :: xs) H2) : tCons ta tr σ H Q := q
theorem e_cb {r : List V → Hp → VK → Prop} {t : TA} (q : t σ H fun vs H1 => r vs H1 Q) : tCB r t σ H Q := q
theorem e_call {sp : Sp} {E : XK} {t : TA} (q : t σ H fun vs H1 => sp vs H1 Q E) : tCall sp [] E t σ H Q := by
  show t σ H fun vs H1 => sp (vs ++ []) H1 Q E
  simpa using q
theorem e_fld {f : Str} (q : ta σ H fun x H1 => ∃ a C dx fs v, x = .ref a ∧ H1 a = some (.ins C dx fs) ∧ Cls K C ∧ NoAttr K C f ∧ fs.lookup f = some v ∧ Q v H1) : tFld K ta f σ H Q := q
theorem e_dget (q : ta σ H fun x H1 => tb σ H1 fun y H2 => ∃ a v, x = .ref a ∧ DGet H2 a y (some v) ∧ Q v H2) : tDGet ta tb σ H Q := q
theorem v_dget {P : V → Prop} {a : Addr} (h : DGet H a y (some v)) (q : P v) : ∃ a' v, V.ref a = .ref a' ∧ DGet H a' y (some v) ∧ P v := ⟨a, v, rfl, h, q⟩
theorem e_lst {t : TA} (q : t σ H fun xs H1 => xs.length ≤ sizeLine ∧ ∀ p H2, H1 p = none → H2 = upd H1 p (.lst xs) → Q (.ref p) H2) : tLst t σ H Q := by
  have e : (fun (xs : List V) (H1 : Hp) => xs.length ≤ sizeLine ∧ ∀ p H2, H1 p = none → H2 = upd H1 p (.lst xs) → Q (.ref p) H2) = (fun xs H1 => xs.length ≤ sizeLine ∧ ∀ p, H1 p = none → Q (.ref p) (upd H1 p (.lst xs))) := by
    funext xs H1
    exact propext ⟨fun h => ⟨h.1, fun p hp => h.2 p _ hp rfl⟩, fun h => ⟨h.1, fun p H2 hp e => e ▸ h.2 p hp⟩⟩
  rw [e] at q
  exact q
theorem e_tup {t : TA} (q : t σ H fun xs H1 => xs.length ≤ sizeLine ∧ ∀ p H2, H1 p = none → H2 = upd H1 p (.tup xs) → Q (.ref p) H2) : tTup t σ H Q := by
  have e : (fun (xs : List V) (H1 : Hp) => xs.length ≤ sizeLine ∧ ∀ p H2, H1 p = none → H2 = upd H1 p (.tup xs) → Q (.ref p) H2) = (fun xs H1 => xs.length ≤ sizeLine ∧ ∀ p, H1 p = none → Q (.ref p) (upd H1 p (.tup xs))) := by
    funext xs H1
    exact propext ⟨fun h => ⟨h.1, fun p hp => h.2 p _ hp rfl⟩, fun h => ⟨h.1, fun p H2 hp e => e ▸ h.2 p hp⟩⟩
  rw [e] at q
  exact q
theorem e_dnew (q : ∀ p H', H p = none → Same H H' → H' p = some (.dK []) → Q (.ref p) H') : tDNewK σ H Q := fun p h => q p _ h (Same.new h) upd_same
theorem szl {n : Nat} (h : n ≤ 1000000) : n ≤ sizeLine := Nat.le_trans h (by decide)
theorem szlt {n : Nat} (h : n < 1000000) : n < sizeLine := Nat.lt_of_lt_of_le h (by decide)
theorem v_lst {xs : List V} {P : Addr → Hp → Prop} (h : xs.length ≤ 1000000) (q : ∀ p H', H p = none → Same H H' → H' p = some (.lst xs) → P p H') : xs.length ≤ sizeLine ∧ ∀ p H2, H p = none → H2 = upd H p (.lst xs) → P p H2 := ⟨szl h, fun p H2 hp e => q p H2 hp (e ▸ Same.new hp) (e ▸ upd_same)⟩
theorem v_tup {xs : List V} {P : Addr → Hp → Prop} (h : xs.length ≤ 1000000) (q : ∀ p H', H p = none → Same H H' → H' p = some (.tup xs) → P p H') : xs.length ≤ sizeLine ∧ ∀ p H2, H p = none → H2 = upd H p (.tup xs) → P p H2 := ⟨szl h, fun p H2 hp e => q p H2 hp (e ▸ Same.new hp) (e ▸ upd_same)⟩
theorem v_ixL {p : Addr} {xs : List V} {a : Int} (h : H p = some (.lst xs)) (c : atI xs a = some v) (q : Q v H) : rIxL K (.ref p) (.int a) H Q := ⟨p, xs, a, v, rfl, rfl, SqL.of h, c, q⟩
theorem v_ixS {l : List Nat} {a : Int} {c : Nat} (h : l.length ≤ 1000000) (e : atI l a = some c) (q : Q (.str (tx [c])) H) : rIxS (.str (tx l)) (.int a) H Q := ⟨tx l, a, c, rfl, rfl, by rw [tx_len]; exact szl h, by simpa using e, q⟩
end
/-! ### named relations of built-in calls -/
def rInt : List V → Hp → VK → Prop := fun xs H Q => (∃ i, xs = [.int i] ∧ Q (.int i) H) ∨ ∃ k, xs = [.bl k] ∧ Q (.int (if k then 1 else 0)) H
theorem c_int {X : Cx} : CallR X (.type "int") rInt := call_int1
def rLen (K : PySem.W.Frag) : List V → Hp → VK → Prop := fun xs H Q => ∃ p ys, xs = [.ref p] ∧ (SqL K H p ys ∨ SqT K H p ys) ∧ Q (.int ys.length) H
theorem c_len {X : Cx} : CallR X (.builtin "len") (rLen X.K) := call_len_seq
def rLenS : List V → Hp → VK → Prop := fun xs H Q => ∃ x, xs = [.str x] ∧ x.length ≤ sizeLine ∧ Q (.int x.length) H
theorem c_lenS {X : Cx} : CallR X (.builtin "len") rLenS := call_len_str
section
variable {σ : St} {H : Hp} {Q : VK} {i : Nat} {v x y : V} {K : PySem.W.Frag}
theorem v_inti {a : Int} (q : Q (.int a) H) : rInt [.int a] H Q := .inl ⟨a, rfl, q⟩
theorem v_intb {k : Bool} (q : Q (.int (if k then 1 else 0)) H) : rInt [.bl k] H Q := .inr ⟨k, rfl, q⟩
theorem v_len {p : Addr} {ys : List V} (h : H p = some (.lst ys)) (q : Q (.int ys.length) H) : rLen K [.ref p] H Q := ⟨p, ys, rfl, .inl (SqL.of h), q⟩
theorem v_lenS {l : List Nat} (h : l.length ≤ 1000000) (q : Q (.int l.length) H) : rLenS [.str (tx l)] H Q := ⟨tx l, rfl, by rw [tx_len]; exact szl h, by rw [tx_len]; exact q⟩
end
/-! ### stepping: statements -/
section
variable {σ : St} {H : Hp} {i : Nat} {v : V} {te : TE} {tt u : TT} {t1 t2 : TS} {D : Ends}
theorem s_start {N : List Str} {vs : List V} {t : TS} (s0 : St) (h : start N vs = s0) (q : t D s0 H) : t D (start N vs) H := by rw [h]; exact q
theorem s_seq (q : t1 { D with nx := t2 D } σ H) : tSeq t1 t2 D σ H := q
theorem s_next (q : D.nx σ H) : tNext D σ H := q
theorem s_set (q : te σ H fun v H1 => D.nx (σ.set i (some v)) H1) : tAsg te (gName i) D σ H := q
theorem s_drop (q : te σ H fun _ H1 => D.nx σ H1) : tDrop te D σ H := q
theorem s_ret (q : te σ H D.rt) : tRet te D σ H := q
theorem s_if (q : tt σ H fun b H1 => if b = true then t1 D σ H1 else t2 D σ H1) : tIfS tt t1 t2 D σ H := q
theorem t_test {Q : Bool → Hp → Prop} (q : te σ H fun x H' => ∃ k, x = .bl k ∧ Q k H') : tTest te σ H Q := q
theorem t_B {Q : Bool → Hp → Prop} (q : te σ H fun x H' => ∃ k, x = .bl k ∧ Q k H') : tB te σ H Q := q
theorem t_and {Q : Bool → Hp → Prop} (q : tt σ H fun c H1 => if c = true then u σ H1 Q else Q false H1) : tAnd tt u σ H Q := q
theorem t_or {Q : Bool → Hp → Prop} (q : tt σ H fun c H1 => if c = true then Q true H1 else u σ H1 Q) : tOr tt u σ H Q := q
theorem t_not {Q : Bool → Hp → Prop} (q : tt σ H fun c H1 => Q (!c) H1) : tNot tt σ H Q := q
theorem s_dput {td ty tv : TE} (q : tv σ H fun v H1 => td σ H1 fun x H2 => ty σ H2 fun y H3 => ∃ a H4, x = .ref a ∧ DPut H3 a y v H4 ∧ D.nx σ H4) : sDPut td ty tv D σ H := q
theorem if_dec {c A B : Prop} [Decidable c] (h1 : c → A) (h2 : ¬ c → B) : if decide c = true then A else B := by
  by_cases h : c
  · rw [decide_eq_true h, if_pos rfl]; exact h1 h
  · rw [decide_eq_false h, if_neg Bool.false_ne_true]; exact h2 h
theorem if_ndec {c A B : Prop} [Decidable c] (h1 : ¬ c → A) (h2 : c → B) : if (!decide c) = true then A else B := by
  by_cases h : c
  · rw [decide_eq_true h]; exact iteF (h2 h)
  · rw [decide_eq_false h]; exact iteT (h1 h)
theorem if_bool {b : Bool} {A B : Prop} (h1 : b = true → A) (h2 : b = false → B) : if b = true then A else B := by
  cases b with
  | true => exact iteT (h1 rfl)
  | false => exact iteF (h2 rfl)
end

/-! ### cuts: what follows is shown once -/
section
variable {X : Cx} {σ : St} {H : Hp} {D : Ends} {t u : TS}
def tCutE (te : TE) : TE := fun σ H Q => ∃ Mid : V → Hp → Prop, te σ H Mid ∧ ∀ v H', Mid v H' → Q v H'
theorem pe_cut {e : Expr} {te : TE} (h : PE X e te) : PE X e (tCutE te) := by
  refine ⟨fun pins s σ H Q I q => ?_⟩
  obtain ⟨Mid, hm, hu⟩ := q
  exact thn (h.run pins s σ H Mid I hm) fun u s1 ⟨x, H1, I1, r1, q1⟩ => ⟨x, H1, I1, r1, hu x H1 q1⟩
theorem e_cut {te : TE} {Q : VK} (Mid : V → Hp → Prop) (h : te σ H Mid) (q : ∀ v H', Mid v H' → Q v H') : tCutE te σ H Q := ⟨Mid, h, q⟩
def tCutS (t u : TS) : TS := fun D σ H => ∃ Mid : St → Hp → Prop, t { D with nx := Mid } σ H ∧ ∀ σ' H', Mid σ' H' → u D σ' H'
theorem pss_cutS {st : Stmt} {rest : List Stmt} (h1 : PS X st t) (h2 : PSs X rest u) : PSs X (st :: rest) (tCutS t u) := by
  refine ⟨fun pins s σ H D I h => ?_⟩
  obtain ⟨Mid, hm, hu⟩ := h
  refine wpAny_execs_cons (thn (h1.run pins s σ H { D with nx := Mid } I hm) fun f s1 q => ?_)
  cases f with
  | next =>
    obtain ⟨σ', H', I', q⟩ := q
    exact h2.run pins s1 σ' H' D I' (hu σ' H' q)
  | ret v => exact q
  | brk => exact q
  | cont => exact q
theorem s_cut (Mid : St → Hp → Prop) (h : t { D with nx := Mid } σ H) (q : ∀ σ' H', Mid σ' H' → u D σ' H') : tCutS t u D σ H := ⟨Mid, h, q⟩
end
section
variable {σ : St} {H : Hp} {v y : V}
theorem v_put {P : Hp → Prop} {a : Addr} {o : HO} (h : DPut H a y v (upd H a o)) (q : ∀ H', Keep a H H' → H' a = some o → P H') : ∃ a' H4, V.ref a = .ref a' ∧ DPut H a' y v H4 ∧ P H4 := ⟨a, _, rfl, h, q _ Keep.put upd_same⟩
end
/-! ### data -/
theorem dp_ints {K : PySem.W.Frag} {H : Hp} : ∀ ns : List Int, DpAll K H (ns.map V.int) (ns.map PyData.int)
  | [] => .nil
  | n :: r => .cons (.int n) (dp_ints r)
theorem dp_strs {K : PySem.W.Frag} {H : Hp} : ∀ ns : List Str, DpAll K H (ns.map V.str) (ns.map PyData.str)
  | [] => .nil
  | n :: r => .cons (.str n) (dp_strs r)
theorem lay_ints : ∀ ns : List Int, PyData.canLayAll0 (ns.map PyData.int) = true
  | [] => rfl
  | n :: r => lay_ints r
theorem lay_strs : ∀ ns : List Str, (∀ x ∈ ns, PyData.strOk x = true) → PyData.canLayAll0 (ns.map PyData.str) = true
  | [], _ => rfl
  | n :: r, h => by
    show (PyData.strOk n && PyData.canLayAll0 (r.map PyData.str)) = true
    rw [h n (List.mem_cons_self ..), lay_strs r fun x hx => h x (List.mem_cons_of_mem _ hx)]
    rfl
theorem dep_ints : ∀ ns : List Int, PyData.depthAll (ns.map PyData.int) ≤ 1
  | [] => by decide
  | n :: r => Nat.max_le.mpr ⟨by show PyData.depth (.int n) ≤ 1; simp [PyData.depth], dep_ints r⟩
theorem dep_strs : ∀ ns : List Str, PyData.depthAll (ns.map PyData.str) ≤ 1
  | [] => by decide
  | n :: r => Nat.max_le.mpr ⟨by show PyData.depth (.str n) ≤ 1; simp [PyData.depth], dep_strs r⟩
theorem shaped_ints (ns : List Int) : SeqAt.shaped (.list (ns.map PyData.int)) = true := by
  have h := dep_ints ns
  have h2 : (PyData.list (ns.map PyData.int)).depth ≤ 64 := by simp only [PyData.depth]; omega
  have h3 : (PyData.list (ns.map PyData.int)).canLay0 = true := by simp only [PyData.canLay0]; exact lay_ints ns
  simp [SeqAt.shaped, h2, h3]
theorem shaped_strs (ns : List Str) (h0 : ∀ x ∈ ns, PyData.strOk x = true) : SeqAt.shaped (.list (ns.map PyData.str)) = true := by
  have h := dep_strs ns
  have h2 : (PyData.list (ns.map PyData.str)).depth ≤ 64 := by simp only [PyData.depth]; omega
  have h3 : (PyData.list (ns.map PyData.str)).canLay0 = true := by simp only [PyData.canLay0]; exact lay_strs ns h0
  simp [SeqAt.shaped, h2, h3]
theorem shaped_strsT (ns : List Str) (h0 : ∀ x ∈ ns, PyData.strOk x = true) : SeqAt.shaped (.tuple (ns.map PyData.str)) = true := by
  have h := dep_strs ns
  have h2 : (PyData.tuple (ns.map PyData.str)).depth ≤ 64 := by simp only [PyData.depth]; omega
  have h3 : (PyData.tuple (ns.map PyData.str)).canLay0 = true := by simp only [PyData.canLay0]; exact lay_strs ns h0
  simp [SeqAt.shaped, h2, h3]
theorem shaped_nil : SeqAt.shaped (.list []) = true := shaped_ints []
theorem eqv_nil {ds : List PyData} : PyData.eqv (.list ds) (.list []) = ds.isEmpty := by
  cases ds <;> simp [PyData.eqv, PyData.eqvAll]
theorem eqvAll_strs : ∀ (a b : List Str), PyData.eqvAll (a.map PyData.str) (b.map PyData.str) = decide (a = b)
  | [], [] => by simp [PyData.eqvAll]
  | [], _ :: _ => by simp [PyData.eqvAll]
  | _ :: _, [] => by simp [PyData.eqvAll]
  | x :: a, y :: b => by
    simp only [List.map_cons, PyData.eqvAll, PyData.eqv, eqvAll_strs a b]
    by_cases e : x = y
    · subst e; simp
    · simp [e]
section
variable {H : Hp} {Q : VK} {K : PySem.W.Frag} {p q : Addr}
theorem v_neNilI {ns : List Int} (h : H p = some (.lst (ns.map V.int))) (hq : H q = some (.lst [])) (k : Q (.bl (!ns.isEmpty)) H) : rNeD K (.ref p) (.ref q) H Q := by
  refine ⟨.list (ns.map PyData.int), .list [], .lst (SqL.of h) (dp_ints ns), .lst (SqL.of hq) .nil, shaped_ints ns, shaped_nil, ?_⟩
  rw [eqv_nil, List.isEmpty_map]
  exact k
theorem v_neNilS {ns : List Str} (h : H p = some (.lst (ns.map V.str))) (h0 : ∀ x ∈ ns, PyData.strOk x = true) (hq : H q = some (.lst [])) (k : Q (.bl (!ns.isEmpty)) H) : rNeD K (.ref p) (.ref q) H Q := by
  refine ⟨.list (ns.map PyData.str), .list [], .lst (SqL.of h) (dp_strs ns), .lst (SqL.of hq) .nil, shaped_strs ns h0, shaped_nil, ?_⟩
  rw [eqv_nil, List.isEmpty_map]
  exact k
end
theorem ok_tx {l : List Nat} (h : ∀ c ∈ l, c < 1000) : PyData.strOk (tx l) = true := by
  show (l.toArray).all (fun c => decide (c < 0x110000)) = true
  rw [List.all_toArray, List.all_eq_true]
  intro c hc
  have := h c hc
  simp
  omega
theorem wdiv {i m : Int} (h : 0 < m) (h2 : m < 1000000) : CDivW i m := wide_div (b := 20) h (by omega) (by decide) (by decide)
end Cw
set_option Elab.async false
set_option linter.all false
set_option maxRecDepth 100000
set_option maxHeartbeats 4000000
/-! set(text), len(set(..)): a set of texts out of anything that is walked. -/
namespace Cw
open PySem PySem.Spec L2
/-- the different ones, in the order in which they are met -/
def metAdd (l : List Str) (z : Str) : List Str := if z ∈ l then l else l ++ [z]
def metOf (l : List Str) : List Str := l.foldl metAdd []
theorem metAdd_mem {l : List Str} {z y : Str} : y ∈ metAdd l z ↔ y ∈ l ∨ y = z := by
  unfold metAdd
  by_cases h : z ∈ l
  · rw [if_pos h]
    exact ⟨Or.inl, fun k => k.elim id fun e => e ▸ h⟩
  · rw [if_neg h, List.mem_append, List.mem_singleton]
theorem metOf_snoc (l : List Str) (z : Str) : metOf (l ++ [z]) = metAdd (metOf l) z := by
  unfold metOf
  rw [List.foldl_append]
  rfl
theorem metFold_mem (y : Str) : ∀ (l acc : List Str), y ∈ l.foldl metAdd acc ↔ y ∈ acc ∨ y ∈ l
  | [], acc => by simp
  | z :: r, acc => by
    rw [List.foldl_cons, metFold_mem y r, metAdd_mem, List.mem_cons, or_assoc]
theorem metOf_mem {l : List Str} {y : Str} : y ∈ metOf l ↔ y ∈ l := by
  unfold metOf
  rw [metFold_mem]
  simp
theorem metAdd_len (l : List Str) (z : Str) : (metAdd l z).length = if z ∈ l then l.length else l.length + 1 := by
  unfold metAdd
  split <;> simp
theorem metFold_len : ∀ (l acc : List Str), (l.foldl metAdd acc).length ≤ acc.length + l.length
  | [], acc => Nat.le_refl _
  | z :: r, acc => by
    have h1 := metFold_len r (metAdd acc z)
    have h2 := metAdd_len acc z
    rw [List.foldl_cons, List.length_cons]
    split at h2 <;> omega
theorem metOf_len (l : List Str) : (metOf l).length ≤ l.length := by
  have h := metFold_len l []
  simp only [List.length_nil, Nat.zero_add] at h
  exact h
theorem metFold_nodup : ∀ (l acc : List Str), (acc ++ l).Nodup → l.foldl metAdd acc = acc ++ l
  | [], acc, _ => by simp
  | z :: r, acc, h => by
    have hz : ¬ z ∈ acc := fun m => by
      have := (List.nodup_append.mp h).2.2 z m z (List.mem_cons_self ..)
      exact this rfl
    have e : metAdd acc z = acc ++ [z] := by unfold metAdd; rw [if_neg hz]
    rw [List.foldl_cons, e, metFold_nodup r (acc ++ [z]) (by simpa using h)]
    simp
theorem metOf_nodup {l : List Str} (h : l.Nodup) : metOf l = l := by
  unfold metOf
  rw [metFold_nodup l [] (by simpa using h)]
  rfl
/-- fewer, where one comes twice -/
theorem metFold_lt : ∀ (l acc : List Str), acc.Nodup → (¬ l.Nodup ∨ ∃ z, z ∈ l ∧ z ∈ acc) → (l.foldl metAdd acc).length < acc.length + l.length
  | [], acc, _, h => by
    rcases h with h | ⟨z, h, _⟩
    · exact absurd List.nodup_nil h
    · cases h
  | z :: r, acc, ha, h => by
    rw [List.foldl_cons, List.length_cons]
    have hl := metAdd_len acc z
    by_cases hz : z ∈ acc
    · rw [if_pos hz] at hl
      have h1 := metFold_len r (metAdd acc z)
      omega
    · rw [if_neg hz] at hl
      have e : metAdd acc z = acc ++ [z] := by unfold metAdd; rw [if_neg hz]
      have nd : (metAdd acc z).Nodup := by
        rw [e]
        exact nd_snoc ha hz
      have k : ¬ r.Nodup ∨ ∃ y, y ∈ r ∧ y ∈ metAdd acc z := by
        rcases h with h | ⟨y, h1, h2⟩
        · rw [List.nodup_cons] at h
          by_cases hr : z ∈ r
          · exact Or.inr ⟨z, hr, by rw [e]; simp⟩
          · exact Or.inl fun n => h ⟨hr, n⟩
        · rcases List.mem_cons.mp h1 with q | q
          · exact absurd (q ▸ h2) hz
          · exact Or.inr ⟨y, q, by rw [e]; simp [h2]⟩
      have h1 := metFold_lt r (metAdd acc z) nd k
      omega
theorem metOf_lt {l : List Str} (h : ¬ l.Nodup) : (metOf l).length < l.length := by
  have k := metFold_lt l [] List.nodup_nil (Or.inl h)
  simp only [List.length_nil, Nat.zero_add] at k
  exact k
/-- the set at a holds just the texts of l -/
abbrev SetIs (P : Program) (w : World) (h : Heap) (a : Addr) (l : List Str) : Prop := h.SetOf (PySem.strKind P w) a (fun z => decide (z ∈ l)) l.length
theorem SetIs.at {P : Program} {w : World} {h h' : Heap} {a : Addr} {l : List Str} (R : SetIs P w h a l) (k : ∀ o, h.get? a = some o → h'.get? a = some o) : SetIs P w h' a l := by
  obtain ⟨o, es, ep, t, ho, r⟩ := R
  exact ⟨o, es, ep, t, k o ho, r⟩
section
variable {P : Program} {w : World} {A : Around} {R : Result → Shared → Prop} {J : Addr} {fp wr : List Addr} {n : Nat} {Y : Nat → Value → Prop} {St : Nat → Heap → Prop}
theorem set_loop (W : Walks P w A.in1 J fp wr n Y St) (S : Addr) (hS : S ∉ fp) (xs : List Str) (hn : xs.length = n) (hy : ∀ i v, Y i v → ∃ x t, xs[i]? = some x ∧ v = .str x t) (hb : n + 1 < scanBound) :
    ∀ (k i : Nat) (s : Shared), n - i = k → i ≤ n → St i s.heap → SetIs P w s.heap S (metOf (xs.take i)) →
      (∀ h' tk, (∀ b o, b ∉ S :: wr → s.heap.get? b = some o → h'.get? b = some o) → SetIs P w h' S (metOf xs) → R (.ok (.ret .none)) { s with heap := h', toks := tk }) →
      codeAny (model P w) A (.builtin "set.update.loop" ⟨[.ref S, .ref J], []⟩) R s := by
  have hw : S ∉ wr := fun h => hS (W.sub _ h)
  intro k
  induction k with
  | zero =>
    intro i s hk hi st hset q
    have e : i = n := by omega
    subst e
    refine codeAny_builtin PyProof.Rows.F.entry_set_update_loop ?_
    rw [Around.under_plainId PyProof.Rows.F.plain_set_update_loop _]
    show wpAny _ A.in1 (pyNext (.ref J) >>= _) _ _ s
    refine wpAny_bind (W.done s _ _ st fun h' tk kp => ?_)
    show wpAny _ A.in1 (ret Value.none) _ _ _
    refine wpAny_pure (q h' tk (fun b o nb eb => kp b o (fun z => nb (List.mem_cons_of_mem _ z)) eb) ?_)
    rw [List.take_of_length_le (by omega)] at hset
    exact hset.at fun o eo => kp S o hw eo
  | succ k ih =>
    intro i s hk hi st hset q
    have hlt : i < n := by omega
    refine codeAny_builtin PyProof.Rows.F.entry_set_update_loop ?_
    rw [Around.under_plainId PyProof.Rows.F.plain_set_update_loop _]
    show wpAny _ A.in1 (pyNext (.ref J) >>= _) _ _ s
    refine wpAny_bind (W.item i s _ _ hlt st fun v h1 tk hv st1 kp => ?_)
    obtain ⟨x, t, hx, rfl⟩ := hy i v hv
    have hset1 := hset.at (h' := h1) fun o eo => kp S o hw eo
    show wpAny _ A.in1 (holding [Value.str x t] (setAdd S (.str x t)) >>= _) _ _ _
    refine wpAny_bind (wpAny_holding ?_)
    unfold setAdd
    refine wpAny_holding (wpAny_bind ((PySem.strKind P w).pyHash (k := x) (strKind_is _ _ _ _) ?_))
    have hroom : (metOf (xs.take i)).length + 1 < scanBound := by
      have h2 := metOf_len (xs.take i)
      rw [List.length_take] at h2
      omega
    refine wpAny_setAddHashed_of (knd := PySem.strKind P w) (s := { heap := h1, gens := s.gens, drawn := s.drawn, toks := tk + 1, os := s.os }) (strKind_is _ _ _ _) rfl hset1 hroom fun h2 sb hset2 => ?_
    have e1 : xs.take (i + 1) = xs.take i ++ [x] := by
      rw [List.take_add_one, hx]
      rfl
    have hset3 : SetIs P w h2 S (metOf (xs.take (i + 1))) := by
      refine PyProof.Rows.SetOf_congr hset2 (fun z => ?_) ?_
      · rw [e1, metOf_snoc, Bool.eq_iff_iff]
        simp only [Bool.or_eq_true, decide_eq_true_eq]
        exact metAdd_mem.symm
      · rw [e1, metOf_snoc, metAdd_len]
        simp only [decide_eq_true_eq]
    refine wpAny_pure ⟨plainId_quiet PyProof.Rows.F.plain_set_update_loop _, ih (i + 1) _ (by omega) hlt (W.frame _ _ _ st1 fun b hb o eo => ?_) hset3 fun h3 tk3 kp3 hs3 => ?_⟩
    · rw [sb.2 b fun z => hS (z ▸ hb)]
      exact eo
    · refine q h3 tk3 (fun b o nb eb => kp3 b o nb ?_) hs3
      show h2.get? b = some o
      rw [sb.2 b fun z => nb (z ▸ List.mem_cons_self ..)]
      exact kp b o (fun z => nb (List.mem_cons_of_mem _ z)) eb
end

/-! ### the call -/
abbrev freshSet (b : Bool) : Obj := { cls := .type "set", dict := none, data := .set #[] 0 (.fresh 0 0 b) }
section
variable {P : Program} {w : World} {A : Around} {E : Value → Shared → Prop} {s : Shared}
theorem set_of_text {x : Str} {t : Tok} {Q : Value → Shared → Prop} (hh : A.handled = none) (hb : x.cps.size + 1 < scanBound)
    (h : ∀ (h' : Heap) (tk : Nat), SetIs P w h' s.heap.objs.size (metOf (x.cps.toList.map fun c => (⟨#[c]⟩ : Str))) → (∀ b o, b < s.heap.objs.size → s.heap.get? b = some o → h'.get? b = some o) → Q (.ref s.heap.objs.size) { s with heap := h', toks := tk }) :
    wpAny (model P w) A (call (.type "set") [.str x t]) Q E s := by
  obtain ⟨c, tl, hmro⟩ := PySem.F.called_set.mro
  have hmade := PySem.F.called_set.made
  have hsub := PySem.F.called_set.sub
  refine wpAny_call (codeAny_of_tree ?_)
  show wpAny _ _ (callAny (.type "set") _) _ _ _
  refine wpAny_pure ⟨Code.quiet_builtin _ (by decide +kernel), codeAny_builtin PySem.F.entry_type_call ?_⟩
  rw [Around.under_plain (weight_type_call_type "set" [.str x t] []) rfl]
  have h1 := PySem.F.called_set.notType
  have h2 := PySem.F.called_set.canCreate
  have hct := PySem.F.typeCall_set_1 (.str x t)
  repeat (any_goals (first | assumption | wp_step))
  refine codeAny_mono (code_set_new_1 (.str x t) (E := E) (Q₁ := fun obj s1 => ∃ b : Bool, obj = .ref s.heap.objs.size ∧ s1 = { s with heap := s.heap.push (freshSet b) }) fun b => ⟨b, rfl, rfl⟩) fun r s1 hr => ?_
  cases r with
  | error e => exact hr
  | ok fl =>
    cases fl with
    | ret obj =>
      obtain ⟨b, rfl, rfl⟩ := hr
      have hS : (s.heap.push (freshSet b)).get? s.heap.objs.size = some (freshSet b) := Heap.get?_push_size _ rfl
      have hT : Shared.TypeIs { s with heap := s.heap.push (freshSet b) } (.ref s.heap.objs.size) "set" := ⟨_, hS, rfl⟩
      have hli := PySem.F.called_set.init.lookup
      have hbi := PySem.F.called_set.init.bind (.ref s.heap.objs.size)
      repeat (any_goals (first | assumption | wp_step))
      refine codeAny_mono (codeAny_call_builtin (R := wants (fun r s2 => r = .none ∧ ∃ h' tk, s2 = { s with heap := h', toks := tk } ∧ SetIs P w h' s.heap.objs.size (metOf (x.cps.toList.map fun c => (⟨#[c]⟩ : Str))) ∧
          (∀ b o, b < s.heap.objs.size → s.heap.get? b = some o → h'.get? b = some o)) E) PySem.F.called_set.init.plain PySem.F.entry_set_init (check_set_init_1 hT ?_)) fun r2 s2 hr2 => ?_
      · have k1 := F.sub_str_set
        have k2 := F.sub_str_frozenset
        have k3 : (Value.type "str" == Value.type "dict") = false := by decide
        unfold Builtin.«set.__init__» noKeywords Builtin.Frozenset.updateFrom
        generalize hPI : pyIter = PI
        wp_walk
        subst hPI
        refine wpAny_pyIter_str fun ob St hw st => ?_
        refine wpAny_bind (wpAny_runValue ?_)
        have hh3 : A.in1.in1.in1.handled = none := by simp [hh]
        have hne : s.heap.objs.size ∉ [(s.heap.push (freshSet b)).objs.size] := by
          rw [Heap.size_push, List.mem_singleton]
          exact Nat.ne_of_lt (Nat.lt_succ_self _)
        refine set_loop (hw _ hh3) s.heap.objs.size hne (x.cps.toList.map fun c => (⟨#[c]⟩ : Str)) (by simp) (fun i v hv => ?_) hb _ 0 _ rfl (Nat.zero_le _) st ?_ fun h' tk kp hs => ?_
        · obtain ⟨c, u, hc, rfl⟩ := hv
          exact ⟨⟨#[c]⟩, u, by simp [hc], rfl⟩
        · have hg : ((s.heap.push (freshSet b)).push ob).get? s.heap.objs.size = some (freshSet b) := Heap.get?_push_of_some _ hS
          exact PyProof.Rows.SetOf_congr ((PyProof.Rows.setObjOf_fresh (knd := PySem.strKind P w) b).setOf hg (by unfold scanBound; omega)) (fun z => by simp [metOf]) rfl
        · refine wpAny_pure ?_
          show wpAny _ _ (ret Value.none) _ _ _
          refine wpAny_pure ⟨rfl, h', tk, rfl, hs, fun a o ha eo => kp a o ?_ (Heap.get?_push_of_some _ (Heap.get?_push_of_some _ eo))⟩
          rw [Heap.size_push]
          simp only [List.mem_cons, List.not_mem_nil, or_false, not_or]
          exact ⟨Nat.ne_of_lt ha, Nat.ne_of_lt (Nat.lt_succ_of_lt ha)⟩
      · cases r2 with
        | error e => exact hr2
        | ok fl2 =>
          cases fl2 with
          | ret r =>
            obtain ⟨rfl, h', tk, rfl, hs', hk'⟩ := hr2
            repeat (any_goals (first | assumption | wp_step))
            exact h _ _ hs' hk'
          | _ => exact hr2.elim
    | _ => exact hr.elim
end
/-! ### over the layer -/
/-- a set of texts -/
def SetT (P : Program) (w : World) (a : Addr) (l : List Str) : HO := .ext fun h => SetIs P w h a l
theorem setT_new {P : Program} {w : World} {H : Hp} {h : Heap} {a : Addr} {l : List Str} (R : SetIs P w h a l) : ObjOk P w H h a (SetT P w a l) := by
  have ⟨o, _, _, _, ho, _⟩ := R
  exact ⟨R, ⟨o, ho⟩, fun h1 h2 q k => SetIs.at q k⟩
def rSetTx (P : Program) (w : World) : List V → Hp → VK → Prop := fun xs H Q => ∃ l : List Nat, xs = [.str (tx l)] ∧ l.length + 1 < scanBound ∧ ∀ p, H p = none → Q (.ref p) (upd H p (SetT P w p (metOf (l.map fun c => tx [c]))))
def rLenSet (P : Program) (w : World) : List V → Hp → VK → Prop := fun xs H Q => ∃ (p : Addr) (l : List Str), xs = [.ref p] ∧ H p = some (SetT P w p l) ∧ Q (.int l.length) H
section
variable {X : Cx}
theorem c_setS (hc : X.calm = true) : CallR X (.type "set") (rSetTx X.prog X.w) := by
  intro pins s σ H xs us Q I r h
  obtain ⟨l, rfl, hl, q⟩ := h
  obtain ⟨u, rfl, t, rfl⟩ := vals1 r
  refine set_of_text (I.ok.hd hc) (by simpa using hl) fun h' tk hs hk => ?_
  have hp : H s.heap.objs.size = none := I.hok.fresh (Nat.le_refl _)
  refine ⟨.ref s.heap.objs.size, upd H s.heap.objs.size (SetT X.prog X.w s.heap.objs.size (metOf (l.map fun c => tx [c]))), I.laid (h' := h') (t' := tk) (fun b o e => hk b o (Heap.lt_size e) e) (Nat.le_refl _) (setT_new ?_), rfl, q _ hp⟩
  simpa using hs
theorem c_lenSet : CallR X (.builtin "len") (rLenSet X.prog X.w) := by
  intro pins s σ H xs us Q I r h
  obtain ⟨p, l, rfl, hp, q⟩ := h
  obtain ⟨u, rfl, ru⟩ := vals1 r
  cases ru
  have hs : SetIs X.prog X.w s.heap p l := (I.hok p _ hp).1
  obtain ⟨o, es, ep, t, ho, hex, hd, h1, h2, h3, hf, hn⟩ := hs
  refine call_len_set ho hex hd hf ?_ ⟨.int l.length, H, I.tok _, ⟨_, by rw [hn]⟩, q⟩
  have : es.size < scanBound := h3
  unfold scanBound at this
  omega
end
theorem v_setS {P : Program} {w : World} {H : Hp} {Q : VK} {l : List Nat} (h : l.length < 1000) (q : ∀ p H', H p = none → Same H H' → H' p = some (SetT P w p (metOf (l.map fun c => tx [c]))) → Q (.ref p) H') : rSetTx P w [.str (tx l)] H Q :=
  ⟨l, rfl, by unfold scanBound; omega, fun p hp => q p _ hp (Same.new hp) upd_same⟩
theorem v_lenSet {P : Program} {w : World} {H : Hp} {Q : VK} {p : Addr} {l : List Str} (h : H p = some (SetT P w p l)) (q : Q (.int l.length) H) : rLenSet P w [.ref p] H Q := ⟨p, l, rfl, h, q⟩
end Cw
set_option Elab.async false
set_option linter.all false
set_option maxRecDepth 100000
set_option maxHeartbeats 4000000
/-! operators of classes of one's own -/
namespace PySem.W
open PySem PySem.Calls PyProof.Rows Builtin
section
variable {prog : Program} {w : World} {A : Around} {E : Value → Shared → Prop} {s : Shared} {K : Frag} {x C L f : Addr} {h0 : Heap} {m : Str → Option Value} {ox : Obj} {od : Option Obj} {b tb : Value}
theorem ifBound_obj {M : Model} {args : List Value} {name : Str} {id : String} {Q : Option Value → Shared → Prop} (X : K.In s.heap) (I : InstAt s.heap x ox C od) (hs : findIn K (.ref C) name = some (some (.builtin id)))
    (hbd : ∀ v, bindSpecial (.builtin id) v = pure (.builtin id, [v])) (h : wpAny M A (call (.builtin id) (.ref x :: args)) (fun v => Q (some v)) E s) : wpAny M A (callSpecialIfBound? (.ref x) name args) Q E s := by
  simp only [callSpecialIfBound?, bindSpecialIfBound?]
  refine wpAny_holding (wpAny_bind (wpAny_bind (wpAny_bind (I.type.here ((looks_findIn X hs).here ?_)))))
  have e := hbd (.ref x)
  simp only [e]
  have k : wpAny M A (call (.builtin id) ([.ref x] ++ args) >>= fun v => pure (some v)) Q E s := wpAny_bind (wpAny_mono h (fun _ _ z => wpAny_pure z) fun _ _ z => z)
  refine wpAny_bind (wpAny_askSetting (wpAny_ite ?_))
  split
  · exact wpAny_bind (wpAny_pure (wpAny_pure k))
  · exact wpAny_tryCatch (wpAny_bind (wpAny_pure (wpAny_pure k)))
theorem check_obj {M : Model} {id owner n : String} {rest : List Value} {Q : Unit → Shared → Prop} (X : K.In s.heap) (I : InstAt s.heap x ox C od) (hk : builtinKind id = some .slot) (hs : splitId id = some (owner, n))
    (ha : argsOk id ⟨.ref x :: rest, []⟩) (ho : subIn K (.ref C) (.type owner) = some true) (q : Q () s) : wpAny M A (checkBuiltinCall id ⟨.ref x :: rest, []⟩) Q E s := by
  simp only [checkBuiltinCall, hk, hs]
  unfold isInstance
  refine wpAny_bind (wpAny_bind (I.type.here ((looks_subIn X ho).here ?_)))
  rw [if_neg (by simp)]
  cases hsig : Manifest.signature? id with
  | none => exact wpAny_pure q
  | some sig =>
    simp only [argsOk, hsig] at ha
    have h2 : Bind.checkArgs id sig ⟨.ref x :: rest, []⟩ = pure () := ha
    show wpAny M A (Bind.checkArgs id sig ⟨.ref x :: rest, []⟩) Q E _
    rw [h2]
    exact wpAny_pure q
theorem neBody (X : K.In s.heap) (I : InstAt s.heap x ox C od) (hu : A.units < cLine) (hs : findIn K (.ref C) "__eq__" = some (some (.ref f))) (hf : isFn K (.ref f) = true) {Q : Fin → Shared → Prop}
    (h : wpAny (model prog w) A (call (.ref f) [.ref x, b]) (fun v s' => ∃ r, v = .bool r ∧ Q (.done (.ret (.bool (!r)))) s') E s) : wpAny (model prog w) A (Builtin.«object.__ne__» ⟨[.ref x, b], []⟩) Q E s := by
  unfold Builtin.«object.__ne__»
  refine wpAny_bind (m := slotArgs "__ne__" 1 _) (wpAny_pure ?_)
  refine wpAny_bind (wpAny_cRoomFor hu ?_)
  refine wpAny_bind (m := callSpecialIfBound? (.ref x) (Str.ofString "__eq__") [b]) (ifBound_K X I hs hf (wpAny_mono h (fun v s' z => ?_) fun _ _ z => z))
  obtain ⟨r, rfl, z⟩ := z
  exact wpAny_bind (wpAny_truthy_bool (wpAny_pure z))
/-- != of an object whose class has its own == and no != -/
theorem ne_own {Q : Value → Shared → Prop} (hu : A.units + 1 < cLine) (F : Fr h0 L s.heap m) (X0 : K.In h0) (I : InstAt s.heap x ox C od) (hb : Looks (model prog w) s.heap (typeOf b) tb) (hn : notFirst K C tb = true)
    (hne : findIn K (.ref C) "__ne__" = some (some (.builtin "object.__ne__"))) (ho : subIn K (.ref C) (.type "object") = some true) (hs : findIn K (.ref C) "__eq__" = some (some (.ref f))) (hf : isFn K (.ref f) = true)
    (h : wpAny (model prog w) A.in1 (call (.ref f) [.ref x, b]) (fun v s' => ∃ r, v = .bool r ∧ Q (.bool (!r)) s') E s) : wpAny (model prog w) A (richCompare .NotEq (.ref x) b) Q E s := by
  have X := X0.keeps F.keep
  have pl : plainId "object.__ne__" = true := by decide +kernel
  have one : wpAny (model prog w) A (tryCompare (.ref x) (cmpInfo .NotEq).2.1 b) (fun r s' => ∃ v, r = some v ∧ Q v s') E s := by
    unfold tryCompare
    refine wpAny_bind (ifBound_obj X I (id := "object.__ne__") hne (fun v => ?_) ?_)
    · exact (PySem.F.slot_tuple_iterator_ne).bind v
    · refine wpAny_call (codeAny_call_builtin pl PySem.F.cmpEntry_ne (check_obj X I PySem.F.cmpKind_ne PySem.F.cmpSplit_ne (PySem.F.cmpArgs_ne _ _) ho ?_))
      refine neBody (A := A.in1) X I hu hs hf (wpAny_mono h (fun v s' z => ?_) fun _ _ z => z)
      obtain ⟨r, rfl, z⟩ := z
      exact ⟨r, rfl, wpAny_pure ⟨_, rfl, z⟩⟩
  unfold richCompare
  simp only [oneThing_ref]
  refine wpAny_holding (wpAny_bind (wpAny_cRoomFor (Nat.lt_of_succ_lt hu) ?_))
  refine wpAny_bind (I.type.here (wpAny_bind (hb.here ?_)))
  have k : ∀ z : Bool, z = false → wpAny (model prog w) A (tryCompare (.ref x) (cmpInfo .NotEq).2.1 b) (fun r s' => ∃ v, r = some v ∧ Q v s') E s := fun _ _ => one
  split
  · rename_i q
    have e : subIn K tb (.ref C) = some false := by
      rcases Bool.or_eq_true_iff.mp hn with e | e
      · rw [beq_iff_eq.mp e] at q; simp at q
      · exact beq_iff_eq.mp e
    refine wpAny_bind ((looks_subIn X e).here ?_)
    simp only [Bool.false_eq_true, if_false]
    refine wpAny_bind (wpAny_mono one (fun r s' z => ?_) fun _ _ e => e)
    obtain ⟨v, rfl, z⟩ := z
    exact wpAny_pure z
  · refine wpAny_bind (wpAny_pure ?_)
    simp only [Bool.false_eq_true, if_false]
    refine wpAny_bind (wpAny_mono one (fun r s' z => ?_) fun _ _ e => e)
    obtain ⟨v, rfl, z⟩ := z
    exact wpAny_pure z
end
end PySem.W
set_option Elab.async false
set_option linter.all false
set_option maxRecDepth 100000
set_option maxHeartbeats 4000000
namespace Cw
open PySem PySem.Spec L2
/-! ### methods -/
structure MAt (K : PySem.W.Frag) (C : Addr) (m qual : Str) (st : Stmt) : Prop where
  ex : ∃ f fd, PySem.W.findIn K (.ref C) m = some (some (.ref f)) ∧ PySem.W.isFn K (.ref f) = true ∧ Fun K m qual st f fd
structure MDef (P : Program) (w : World) (K : PySem.W.Frag) (mg : Str → Option Value) (base : Heap) (CX : CXT) (k : Nat) (C : Addr) (m : Str) (ps : List Str) (sp : Sp) : Prop where
  ex : ∃ f fd, PySem.W.findIn K (.ref C) m = some (some (.ref f)) ∧ PySem.W.isFn K (.ref f) = true ∧ PySem.W.keepIn K (.ref f) = true ∧ Bd K f fd ps ∧ FnOk P w K mg base CX k f fd ps sp
section
variable {P : Program} {w : World} {K : PySem.W.Frag} {mg : Str → Option Value} {base : Heap} {CX : CXT} {k : Nat} {C : Addr} {m qual : Str} {ps N : List Str} {sp : Sp} {st : Stmt}
theorem MDef.mono {j : Nat} (D : MDef P w K mg base CX j C m ps sp) (h : j ≤ k) : MDef P w K mg base CX k C m ps sp := by
  obtain ⟨f, fd, a, b, c, d, e⟩ := D.ex
  exact ⟨f, fd, a, b, c, d, e.mono h⟩
theorem MDef.imp {sp' : Sp} (D : MDef P w K mg base CX k C m ps sp) (h : ∀ vs H Q E, sp' vs H Q E → sp vs H Q E) : MDef P w K mg base CX k C m ps sp' := by
  obtain ⟨f, fd, a, b, c, d, e⟩ := D.ex
  exact ⟨f, fd, a, b, c, d, e.imp h⟩
theorem MAt.ok (F : MAt K C m qual st) (S : FnScope N ps (defScope st))
    (hb : ∀ (kV doc pm : Value) (an : Option Addr) (cdv ct : Value) (us : List Value), us.length = ps.length → bindArgs (PySem.W.fnOf m qual (defArgs st) (defBody st) (defScope st) .none kV doc pm an cdv ct) ⟨us, []⟩ = pure (ps.zip us))
    (len : ∀ vs H Q E, sp vs H Q E → vs.length = ps.length)
    (hbody : ∀ (f : Addr) (cdv : Value) (A : Around) (outer : List Env) (s : Shared) (H : Hp) (vs : List V) (Q : VK) (E : XK), Room k (A.deeper (PyProof.Rows.envOfC qual (defScope st) s.heap.objs.size f cdv)) → sp vs H Q E →
      ∃ t, PSs (cxOf CX0 P w K mg base N qual (defScope st) f cdv A outer s H E).nox (defBody st) t ∧ t { nx := fun _ H' => Q .non H', rt := Q } (start N vs) H) : MDef P w K mg base CX0 (k + 1) C m ps sp := by
  obtain ⟨f, fd, h1, h2, F⟩ := F.ex
  exact ⟨f, fd, h1, h2, F.kp, ⟨F.binds hb, funLk F⟩, F.ok S len fun cdv A outer s H vs Q E hr h => hbody f cdv A outer s H vs Q E hr h⟩
theorem MAt.okX (F : MAt K C m qual st) (S : FnScope N ps (defScope st))
    (hb : ∀ (kV doc pm : Value) (an : Option Addr) (cdv ct : Value) (us : List Value), us.length = ps.length → bindArgs (PySem.W.fnOf m qual (defArgs st) (defBody st) (defScope st) .none kV doc pm an cdv ct) ⟨us, []⟩ = pure (ps.zip us))
    (len : ∀ vs H Q E, sp vs H Q E → vs.length = ps.length)
    (hbody : ∀ (f : Addr) (cdv : Value) (A : Around) (outer : List Env) (s : Shared) (H : Hp) (vs : List V) (Q : VK) (E : XK), Room k (A.deeper (PyProof.Rows.envOfC qual (defScope st) s.heap.objs.size f cdv)) → sp vs H Q E →
      ∃ t, PSs (cxOf (L2.CX P w) P w K mg base N qual (defScope st) f cdv A outer s H E) (defBody st) t ∧ t { nx := fun _ H' => Q .non H', rt := Q } (start N vs) H) : MDef P w K mg base (L2.CX P w) (k + 1) C m ps sp := by
  obtain ⟨f, fd, h1, h2, F⟩ := F.ex
  exact ⟨f, fd, h1, h2, F.kp, ⟨F.binds hb, funLk F⟩, F.okX S len fun cdv A outer s H vs Q E hr h => hbody f cdv A outer s H vs Q E hr h⟩
end
section
variable {X : Cx} {CX : CXT} {k : Nat} {C : Addr} {m : Str} {ps : List Str} {sp : Sp} {E : XK} {pos apos : PySem.Pos} {o e : Expr} {es : List Expr} {ta : TE} {t : TA}
theorem pe_md {pl : Sem Bool} (D : MDef X.prog X.w X.K X.mg X.base CX k C m ps sp) (c : Cls X.K C) (hr : Room k X.A) (hx : Passes CX X E) (he : PE X o ta) (ha : PA X (e :: es) t)
    (hst : starEach (e :: es) X.env = (false, eval e X.env) :: starEach es X.env := by rfl) (hpl : (backTo pos (starEach es X.env)).any (·.1) = false := by rfl)
    (ht : eval (.Call (.Attribute o m apos) (e :: es) [] pos) X.env = (do
      let ov ← eval o X.env
      standAt apos.atName
      let (f, first) ← holding [ov] (getMethod ov m pl)
      callWith pos f first (backTo pos (starEach (e :: es) X.env)) (backToKw pos (keywordEach [] X.env))) := by rfl) :
    PE X (.Call (.Attribute o m apos) (e :: es) [] pos) (tMeth C m sp [] E ta t) := by
  obtain ⟨f, fd, a, b, kp, ⟨d, _⟩, g⟩ := D.ex
  exact pe_meth (pl := pl) he c ⟨a, b, kp⟩ g hr d .nil hx ha hst hpl ht
/-- two instances of the class at C, by its own operator -/
def rM2 (C : Addr) (sp : Sp) (E : XK) : R2 := fun x y H Q => ∃ a b dx dy fs gs, x = .ref a ∧ y = .ref b ∧ H a = some (.ins C dx fs) ∧ H b = some (.ins C dy gs) ∧ sp [.ref a, .ref b] H Q E
def rM2n (C : Addr) (sp : Sp) (E : XK) : R2 := fun x y H Q => ∃ a b dx dy fs gs, x = .ref a ∧ y = .ref b ∧ H a = some (.ins C dx fs) ∧ H b = some (.ins C dy gs) ∧ sp [.ref a, .ref b] H (fun v H' => ∃ r, v = .bl r ∧ Q (.bl (!r)) H') E
theorem op_cmpM {op : CmpOp} (hop : ∀ u v, compareOp op u v = richCompare op u v) (D : MDef X.prog X.w X.K X.mg X.base CX k C (cmpInfo op).2.1 ps sp) (hr : Room k X.A) (hx : Passes CX X E) : OpR X (compareOp op) (rM2 C sp E) := by
  obtain ⟨f, fd, h1, h2, kp, ⟨hb, _⟩, F⟩ := D.ex
  intro pins s σ H x y v u Q I rx ry h
  obtain ⟨a, b, dx, dy, fs, gs, rfl, rfl, ha, hb', hq⟩ := h
  cases rx
  cases ry
  obtain ⟨mA, J, _⟩ := ins_get I.hok ha
  obtain ⟨mB, J', _⟩ := ins_get I.hok hb'
  obtain ⟨od, J, _⟩ := J.look
  obtain ⟨od', J', _⟩ := J'.look
  obtain ⟨mm, hF⟩ := I.fr
  rw [hop]
  refine PySem.W.cmp_K (op := op) (tb := .ref C) hr.units0 hF I.ok.mod.kin J J'.type (by simp [PySem.W.notFirst]) h1 h2 ?_
  have z := run_fn (us := [.ref a, .ref b]) (vs := [.ref a, .ref b]) (dvs := []) F hr hb .nil hx I (.cons rfl (.cons rfl .nil)) hq
  refine wpAny_mono z (fun v s' q => ?_) fun _ _ q => q
  obtain ⟨y, H', I', r, q⟩ := q
  have k : EP X pins σ Q v s' := ⟨y, H', I', r, q⟩
  cases v <;> first | exact k | (exfalso; cases y <;> first | (obtain ⟨_, r⟩ := r; cases r) | cases r)
theorem op_neM (D : MDef X.prog X.w X.K X.mg X.base CX k C "__eq__" ps sp) (hne : PySem.W.findIn X.K (.ref C) "__ne__" = some (some (.builtin "object.__ne__"))) (ho : PySem.W.subIn X.K (.ref C) (.type "object") = some true)
    (hr : Room (k + 1) X.A) (hx : Passes CX X E) : OpR X (compareOp .NotEq) (rM2n C sp E) := by
  obtain ⟨f, fd, h1, h2, kp, ⟨hb, _⟩, F⟩ := D.ex
  intro pins s σ H x y v u Q I rx ry h
  obtain ⟨a, b, dx, dy, fs, gs, rfl, rfl, ha, hb', hq⟩ := h
  cases rx
  cases ry
  obtain ⟨mA, J, _⟩ := ins_get I.hok ha
  obtain ⟨mB, J', _⟩ := ins_get I.hok hb'
  obtain ⟨od, J, _⟩ := J.look
  obtain ⟨od', J', _⟩ := J'.look
  obtain ⟨mm, hF⟩ := I.fr
  show wpAny (model X.prog X.w) X.A (richCompare .NotEq _ _) _ _ _
  refine PySem.W.ne_own (tb := .ref C) (hu_of hr) hF I.ok.mod.kin J J'.type (by simp [PySem.W.notFirst]) hne ho h1 h2 ?_
  have hl := F.len _ _ _ _ hq
  have r2 : Vals [V.ref a, V.ref b] [Value.ref a, Value.ref b] := .cons rfl (.cons rfl .nil)
  refine wpAny_call (codeAny_mono (F.run X.A.in1 X.stack s H ⟨[.ref a, .ref b], []⟩ [.ref a, .ref b] [.ref a, .ref b] _ E hr.in1 I.env0.in1 (by
    have := hb s [.ref a, .ref b] I.kIn (by simpa using hl)
    simpa using this) r2 hq) fun r s' hq => ?_)
  cases r with
  | error e => exact hx pins σ H s e s' I hq
  | ok fl =>
    cases fl with
    | ret w =>
      obtain ⟨z, H', I', rz, r, ez, q⟩ := I.after hq
      subst ez
      cases rz
      exact ⟨r, rfl, ⟨.bl (!r), H', I', rfl, q⟩⟩
    | next => exact False.elim hq
    | brk => exact False.elim hq
    | cont => exact False.elim hq
/-- len(o) -/
def rLenM (C : Addr) (sp : Sp) (E : XK) : List V → Hp → VK → Prop := fun xs H Q => ∃ a dx fs, xs = [.ref a] ∧ H a = some (.ins C dx fs) ∧ sp [.ref a] H (fun v H' => ∃ n : Nat, v = .int n ∧ n < 1000000 ∧ Q (.int n) H') E
end
section
variable {C : Addr} {sp : Sp} {E : XK} {H : Hp} {Q : VK} {a b dx dy : Addr} {fs gs : List (Str × V)}
theorem v_M2 (ha : H a = some (.ins C dx fs)) (hb : H b = some (.ins C dy gs)) (q : sp [.ref a, .ref b] H Q E) : rM2 C sp E (.ref a) (.ref b) H Q := ⟨a, b, dx, dy, fs, gs, rfl, rfl, ha, hb, q⟩
theorem v_M2n (ha : H a = some (.ins C dx fs)) (hb : H b = some (.ins C dy gs)) (q : sp [.ref a, .ref b] H (fun v H' => ∃ r, v = .bl r ∧ Q (.bl (!r)) H') E) : rM2n C sp E (.ref a) (.ref b) H Q := ⟨a, b, dx, dy, fs, gs, rfl, rfl, ha, hb, q⟩
theorem v_lenM (ha : H a = some (.ins C dx fs)) (q : sp [.ref a] H (fun v H' => ∃ n : Nat, v = .int n ∧ n < 1000000 ∧ Q (.int n) H') E) : rLenM C sp E [.ref a] H Q := ⟨a, dx, fs, rfl, ha, q⟩
end
end Cw
set_option Elab.async false
set_option linter.all false
set_option maxRecDepth 100000
set_option maxHeartbeats 4000000
namespace Cw
open PySem PySem.Spec L2
/-! ### texts as lists of codes: operators -/
def rTAdd : R2 := fun x y H Q => ∃ a b : List Nat, x = .str (tx a) ∧ y = .str (tx b) ∧ a.length + b.length ≤ 1000000 ∧ Q (.str (tx (a ++ b))) H
def rTMul : R2 := fun x y H Q => ∃ (a : List Nat) (n : Int), x = .str (tx a) ∧ y = .int n ∧ n < 1000000 ∧ -1000000 < n ∧ a.length * n.toNat ≤ 1000000 ∧ Q (.str (tx (List.replicate n.toNat a).flatten)) H
def rTLt : R2 := fun x y H Q => ∃ a b : List Nat, x = .str (tx a) ∧ y = .str (tx b) ∧ Q (.bl (decide (a < b))) H
theorem rep_cps (x : Array Nat) : ∀ (n : Nat) (acc : Array Nat), (List.replicate n x).foldl (· ++ ·) acc = acc ++ (List.replicate n x.toList).flatten.toArray
  | 0, acc => by simp
  | n + 1, acc => by
    rw [List.replicate_succ, List.foldl_cons, rep_cps x n, List.replicate_succ, List.flatten_cons]
    apply Array.ext'
    simp
section
variable {X : Cx}
theorem op_addS : OpR X (binaryOp .Add) rTAdd := by
  intro pins s σ H x y v u Q I rx ry h
  obtain ⟨a, b, rfl, rfl, hl, q⟩ := h
  refine op_add_str pins s σ H _ _ v u Q I rx ry ⟨tx a, tx b, rfl, rfl, ?_, ?_⟩
  · rw [tx_len, tx_len]; exact szl hl
  · rw [tx_app]; exact q
theorem op_mulS : OpR X (binaryOp .Mult) rTMul := by
  intro pins s σ H x y v u Q I rx ry h
  obtain ⟨a, n, rfl, rfl, h1, h2, h3, q⟩ := h
  obtain ⟨t, rfl⟩ := rx
  obtain ⟨t', rfl⟩ := ry
  have hx : (tx a).length = a.length := tx_len a
  have fin : ∀ (z : Str) (s' : Shared) (tk : Tok), z = tx (List.replicate n.toNat a).flatten → Inv X pins σ H s' → EP X pins σ Q (.str z tk) s' := fun z s' tk e I' => ⟨.str z, H, I', ⟨tk, rfl⟩, by rw [e]; exact q⟩
  have len : (List.replicate n.toNat a).flatten.length = a.length * n.toNat := by simp [Nat.mul_comm]
  refine PySem.P.mul_str ?_ ?_ ?_ ?_
  · have e1 : ¬ n < -(2 ^ 63 : Int) := by omega
    have e2 : ¬ n ≥ 2 ^ 63 := by omega
    rw [decide_eq_false e1, decide_eq_false e2]; rfl
  · intro hn _
    rw [hx]
    have e0 : (a.length : Int) ≤ a.length * n.toNat := by
      have : 1 ≤ n.toNat := by omega
      have := Nat.le_mul_of_pos_right a.length (show 0 < n.toNat by omega)
      omega
    have e1 : (a.length : Int) ≤ 1000000 := by
      have : ((a.length * n.toNat : Nat) : Int) ≤ 1000000 := by omega
      omega
    have e2 : (1000000 : Int) ≤ (2 ^ 63 - 1) / n := by
      rw [Int.le_ediv_iff_mul_le (by omega)]
      omega
    omega
  · intro hn _
    rw [hx]
    unfold Builtin.Str.tooLong
    have : a.length * n.toNat ≤ sizeLine := szl h3
    exact decide_eq_false (by omega)
  · by_cases hn : n < 1
    · rw [if_pos hn]
      have e : n.toNat = 0 := by omega
      refine ⟨by decide, fin _ _ _ ?_ (I.tok _)⟩
      rw [e]; rfl
    · rw [if_neg hn]
      by_cases c : (n == 1 || (tx a).length == 0) = true
      · rw [if_pos c]
        refine fin _ _ _ ?_ I
        rcases Bool.or_eq_true_iff.mp c with c | c
        · have e : n = 1 := eq_of_beq c
          rw [e]
          show tx a = tx (List.replicate 1 a).flatten
          simp
        · have e : a = [] := by
            rw [hx] at c
            exact List.length_eq_zero_iff.mp (eq_of_beq c)
          rw [e]
          simp
      · rw [if_neg c]
        have e : (⟨(List.replicate n.toNat (tx a).cps).foldl (· ++ ·) #[]⟩ : Str) = tx (List.replicate n.toNat a).flatten := by
          rw [rep_cps]
          simp [tx]
        refine ⟨?_, fin _ _ _ e (I.tok _)⟩
        rw [e, tx_len, len]
        exact szl h3
theorem op_ltS : OpR X (compareOp .Lt) rTLt := by
  intro pins s σ H x y v u Q I rx ry h
  obtain ⟨a, b, rfl, rfl, q⟩ := h
  exact op_lt_str pins s σ H _ _ v u Q I rx ry ⟨tx a, tx b, rfl, rfl, by simpa using q⟩
/-- text[::-1] -/
def tRevS (te : TE) : TE := fun σ H Q => te σ H fun x H1 => ∃ l : List Nat, x = .str (tx l) ∧ l.length ≤ 1000000 ∧ Q (.str (tx l.reverse)) H1
theorem pe_revS {e : Expr} {te : TE} {k : Nat} {p1 p2 p3 pos : PySem.Pos} (he : PE X e te) : PE X (.Subscript e (.Slice none none (some (.UnaryOp .USub (.Constant (.int 1) k p1) p2)) p3) pos) (tRevS te) := by
  refine ⟨fun pins s σ H Q I h => ?_⟩
  refine PyProof.Rows.Subscript_ (thn (he.run pins s σ H _ I h) fun v s1 ⟨x, H1, I1, r1, l, ex, hl, q⟩ => ?_)
  subst ex
  obtain ⟨t, rfl⟩ := r1
  have hst : PO X (some (.UnaryOp .USub (.Constant (.int 1) k p1) p2)) (tPart (tUn (rU fun i => .int (-i)) (tC (.int 1)))) := po_some (pe_un un_neg pe_int)
  refine wpAny_Slice (thn (po_none.run pins s1 σ H1 (fun o H2 => o = none ∧ H2 = H1) I1 ⟨rfl, rfl⟩) fun vl s2 ⟨o1, H2, I2, w1, e1, e2⟩ => ?_)
  subst e1 e2
  refine thn (po_none.run pins s2 σ H2 (fun o H3 => o = none ∧ H3 = H2) I2 ⟨rfl, rfl⟩) fun vu s3 ⟨o2, H3, I3, w2, e3, e4⟩ => ?_
  subst e3 e4
  refine thn (hst.run pins s3 σ H3 (fun o H4 => o = some (-1) ∧ H4 = H3) I3 ⟨1, rfl, -1, rfl, rfl, rfl⟩) fun vs s4 ⟨o3, H4, I4, w3, e5, e6⟩ => ?_
  subst e5 e6
  obtain ⟨l1, rfl, m1⟩ := IsPart.raw w1
  obtain ⟨l2, rfl, m2⟩ := IsPart.raw w2
  obtain ⟨l3, rfl, m3⟩ := IsPart.raw w3
  have I5 : Inv X pins σ H4 { s4 with heap := s4.heap.push { cls := .type "slice", data := .fields #[partValue l1, partValue l2, partValue l3] } } := I4.kept (t' := s4.toks) fun b ob q => Heap.get?_push_of_some _ q
  show wpAny (model X.prog X.w) X.A (PyProof.Rows.subscriptTail e (.Slice none none (some (.UnaryOp .USub (.Constant (.int 1) k p1) p2)) p3) (.str (tx l) t) (.ref s4.heap.objs.size)) (EP X pins σ Q) X.xe _
  refine PyProof.Rows.tail_any (ops := [.str (tx l) t, .ref s4.heap.objs.size]) (typeIs_str _ _ _) F.slot_str_getitem.lookup ?_ (by with_unfolding_all rfl)
  refine wpAny_getItem_str_slice (l := l1) (u := l2) (st := l3) ⟨_, Heap.get?_push_size _ rfl, rfl, rfl⟩ (by rw [m3]; rfl) ?_
  unfold sliceMade slicePicked
  rw [m1, m2, m3]
  have e : (⟨((Builtin.Str.strSliceIndices none none ((some (-1 : Int)).getD 1) (tx l).length).filterMap ((tx l).cps[·]?)).toArray⟩ : Str) = tx l.reverse := by
    show (⟨((Builtin.Str.strSliceIndices none none (-1) (tx l).length).filterMap ((tx l).cps[·]?)).toArray⟩ : Str) = tx l.reverse
    rw [PyProof.Rows.picked_rev, tx_len, PySem.W.krv_range]
    have k2 := PySem.W.krv_all (tx l).cps
    rw [show (tx l).cps.size = l.length from tx_len l] at k2
    rw [List.filterMap_reverse, k2]
  rw [e]
  rw [if_neg (by simp)]
  refine ⟨?_, .str (tx l.reverse), H4, I5.tok _, ⟨_, rfl⟩, q⟩
  rw [tx_len, List.length_reverse]
  exact szl hl
end
section
variable {σ : St} {H : Hp} {Q : VK}
theorem v_addS {a b : List Nat} (h : a.length + b.length ≤ 1000000) (q : Q (.str (tx (a ++ b))) H) : rTAdd (.str (tx a)) (.str (tx b)) H Q := ⟨a, b, rfl, rfl, h, q⟩
theorem v_mulS {a : List Nat} {n : Int} (h1 : n < 1000000) (h2 : -1000000 < n) (h : a.length * n.toNat ≤ 1000000) (q : Q (.str (tx (List.replicate n.toNat a).flatten)) H) : rTMul (.str (tx a)) (.int n) H Q := ⟨a, n, rfl, rfl, h1, h2, h, q⟩
theorem v_ltS {a b : List Nat} (q : Q (.bl (decide (a < b))) H) : rTLt (.str (tx a)) (.str (tx b)) H Q := ⟨a, b, rfl, rfl, q⟩
theorem e_revS {te : TE} (q : te σ H fun x H1 => ∃ l : List Nat, x = .str (tx l) ∧ l.length ≤ 1000000 ∧ Q (.str (tx l.reverse)) H1) : tRevS te σ H Q := q
theorem v_revS {l : List Nat} {P : List Nat → Prop} (h : l.length ≤ 1000000) (q : P l) : ∃ l' : List Nat, V.str (tx l) = .str (tx l') ∧ l'.length ≤ 1000000 ∧ P l' := ⟨l, rfl, h, q⟩
end
end Cw
set_option Elab.async false
set_option linter.all false
set_option maxRecDepth 100000
set_option maxHeartbeats 4000000
namespace Cw
open PySem PySem.Spec L2
/-! ### constants and globals -/
section
variable {X : Cx} {x : Str} {pos : PySem.Pos} {j : Nat}
theorem pe_tx {kd : _} (l : List Nat) (h : x = tx l) : PE X (.Constant (.str x) kd pos) (tC (.str (tx l))) := by
  rw [h]
  exact pe_str
theorem pe_globS {z : Str} (h : ∃ t, X.mg x = some (.str z t)) (hg : Gl X x := by rfl) (hd : (x == ("__debug__" : Str)) = false := by decide) : PE X (.Name x pos) (tC (.str z)) := by
  obtain ⟨t, h⟩ := h
  exact pe_glob hg h ⟨t, rfl⟩ hd
theorem pe_globI {z : Int} (h : ∃ t, X.mg x = some (.int z t)) (hg : Gl X x := by rfl) (hd : (x == ("__debug__" : Str)) = false := by decide) : PE X (.Name x pos) (tC (.int z)) := by
  obtain ⟨t, h⟩ := h
  exact pe_glob hg h ⟨t, rfl⟩ hd
/-- a class of one's own as a value -/
theorem pe_globC {C : Addr} (h : X.mg x = some (.ref C)) (hg : Gl X x := by rfl) (hd : (x == ("__debug__" : Str)) = false := by decide) : PE X (.Name x pos) (tC (.ref C)) := pe_glob hg h rfl hd
end
/-! ### slices of texts -/
theorem sl_S {X : Cx} : SlR X rSlS := sl_str
section
variable {σ : St} {H : Hp} {Q : VK} {te : TE} {tl th : TO} {K : PySem.W.Frag}
theorem e_sl {r : V → Option Int → Option Int → Hp → VK → Prop} (q : te σ H fun x H1 => tl σ H1 fun l H2 => th σ H2 fun u H3 => r x l u H3 Q) : tSl r te tl th σ H Q := q
theorem e_nopart {Q : Option Int → Hp → Prop} (q : Q none H) : tNoPart σ H Q := q
theorem e_part {Q : Option Int → Hp → Prop} (q : te σ H fun x H1 => ∃ i, x = .int i ∧ Q (some i) H1) : tPart te σ H Q := q
theorem cut_to (l : List Nat) {n : Int} (h : 0 ≤ n) : cutS (tx l) none (some n) = tx (l.take n.toNat) := by
  unfold cutS
  rw [tx_len]
  show (⟨((l.toArray.toList.drop 0).take ((if n < 0 then _ else min n.toNat l.length) - 0)).toArray⟩ : Str) = _
  rw [if_neg (by omega)]
  simp only [List.drop_zero, Nat.sub_zero]
  rw [← List.take_take]
  simp
theorem cut_from (l : List Nat) {n : Int} (h : 0 ≤ n) : cutS (tx l) (some n) none = tx (l.drop n.toNat) := by
  unfold cutS
  rw [tx_len]
  show (⟨((l.toArray.toList.drop (if n < 0 then _ else min n.toNat l.length)).take (l.length - (if n < 0 then _ else min n.toNat l.length))).toArray⟩ : Str) = _
  rw [if_neg (by omega)]
  have e : (l.drop (min n.toNat l.length)) = l.drop n.toNat := by
    by_cases hl : n.toNat ≤ l.length
    · rw [Nat.min_eq_left hl]
    · rw [Nat.min_eq_right (by omega), List.drop_of_length_le (by omega), List.drop_of_length_le (by omega)]
  simp only
  rw [e, List.take_of_length_le (by rw [List.length_drop]; omega)]
theorem v_slTo {l : List Nat} {n : Int} (hl : l.length ≤ 1000000) (h : 0 ≤ n) (q : Q (.str (tx (l.take n.toNat))) H) : rSlS (.str (tx l)) none (some n) H Q := ⟨tx l, rfl, by rw [tx_len]; exact szl hl, by rw [cut_to l h]; exact q⟩
theorem v_slFrom {l : List Nat} {n : Int} (hl : l.length ≤ 1000000) (h : 0 ≤ n) (q : Q (.str (tx (l.drop n.toNat))) H) : rSlS (.str (tx l)) (some n) none H Q := ⟨tx l, rfl, by rw [tx_len]; exact szl hl, by rw [cut_from l h]; exact q⟩
end
/-! ### join -/
def rJoinT (K : PySem.W.Frag) : V → List V → Hp → VK → Prop := fun x xs H Q => ∃ (p : Addr) (ls : List (List Nat)), x = .str (tx []) ∧ xs = [.ref p] ∧ (SqL K H p (ls.map fun l => V.str (tx l)) ∨ SqT K H p (ls.map fun l => V.str (tx l))) ∧ ls.flatten.length ≤ 1000000 ∧ Q (.str (tx ls.flatten)) H
theorem join_empty (ls : List (List Nat)) : Txt.join (tx []) (ls.map tx) = tx ls.flatten := by
  have e : ∀ ls : List (List Nat), TL.joinL [] ls = ls.flatten := by
    intro ls
    induction ls with
    | nil => rfl
    | cons p r ih =>
      cases r with
      | nil => simp [TL.joinL]
      | cons q r =>
        show p ++ ([] ++ TL.joinL [] (q :: r)) = _
        rw [ih]
        simp
  have h := TL.tl_join (tx []) (ls.map tx)
  have h2 : (Str.join (tx []) (ls.map tx)).cps.toList = ls.flatten := by
    refine Eq.trans h ?_
    show TL.joinL [] ((ls.map tx).map TL.tl) = _
    rw [List.map_map, e]
    congr 1
    have : (TL.tl ∘ tx) = id := by
      funext l
      show (tx l).cps.toList = l
      simp
    rw [this, List.map_id]
  have g : Txt.join (tx []) (ls.map tx) = Str.join (tx []) (ls.map tx) := by
    show Builtin.Str.glued _ _ = _
    rw [StrLaws.glued_eq_join]
  rw [g, tx_eq (z := Str.join (tx []) (ls.map tx)), h2]
section
variable {X : Cx} {o e : Expr} {to te : TE}
theorem mt_joinT : MtR X "str.join" (rJoinT X.K) := by
  intro pins s σ H x xs v us Q I rx rs h
  obtain ⟨p, ls, rfl, rfl, hp, hl, q⟩ := h
  refine mt_join pins s σ H _ _ v us Q I rx rs ⟨tx [], p, ls.map tx, rfl, rfl, ?_, ?_, ?_⟩
  · simpa [List.map_map, Function.comp_def] using hp
  · have e : ((ls.map tx).map (·.length)).sum = ls.flatten.length := by
      rw [List.map_map, List.length_flatten]
      exact congrArg List.sum (List.map_congr_left fun l _ => tx_len l)
    rw [e]
    have e0 : (tx []).length = 0 := rfl
    rw [e0]
    omega
  · rw [join_empty]
    exact q
theorem pe_joinT {apos pos : PySem.Pos} (ho : PE X o to) (he : PE X e te) (hs : starEach [e] X.env = [(false, eval e X.env)] := by rfl) (hbase : attributeBase o "join" X.env (eval o X.env) = eval o X.env := by rfl) (hline : (apos.endLine == pos.line) = true := by rfl) :
    PE X (.Call (.Attribute o "join" apos) [e] [] pos) (tM1 (rJoinT X.K) to te) := pe_m1 F.slot_str_join F.type_str_join mt_joinT ho he hs hbase hline
end
section
variable {σ : St} {H : Hp} {Q : VK} {to te : TE} {K : PySem.W.Frag}
theorem e_m1 {r : V → List V → Hp → VK → Prop} (q : to σ H fun x H1 => (∃ a, x = .str a) ∧ te σ H1 fun y H2 => r x [y] H2 Q) : tM1 r to te σ H Q := q
theorem v_isS {a : Str} {P : Prop} (q : P) : (∃ b, V.str a = .str b) ∧ P := ⟨⟨a, rfl⟩, q⟩
theorem v_join {p : Addr} {ls : List (List Nat)} (h : H p = some (.lst (ls.map fun l => V.str (tx l)))) (hl : ls.flatten.length ≤ 1000000) (q : Q (.str (tx ls.flatten)) H) : rJoinT K (.str (tx [])) [.ref p] H Q := ⟨p, ls, rfl, rfl, .inl (SqL.of h), hl, q⟩
/-! ### membership -/
theorem v_inS {c : Nat} {l : List Nat} (q : Q (.bl (decide (c ∈ l))) H) : rInS (.str (tx [c])) (.str (tx l)) H Q := ⟨c, tx l, rfl, rfl, by simpa using q⟩
theorem v_notInS {c : Nat} {l : List Nat} (q : Q (.bl (!decide (c ∈ l))) H) : rNotInS (.str (tx [c])) (.str (tx l)) H Q := ⟨c, tx l, rfl, rfl, by simpa using q⟩
theorem inV_tx {x : List Nat} : ∀ {ls : List (List Nat)}, inV (.str (tx x)) (ls.map fun l => V.str (tx l)) = decide (x ∈ ls)
  | [] => by simp [inV]
  | l :: r => by
    have ih := inV_tx (x := x) (ls := r)
    unfold inV at ih ⊢
    rw [List.map_cons, List.any_cons, ih]
    by_cases e : l = x
    · subst e
      simp [eqV]
    · have e2 : ¬ tx l = tx x := fun z => e (tx_inj.mp z)
      have e3 : ¬ x = l := fun z => e z.symm
      simp [eqV, e2, e3]
theorem flat_tx (ls : List (List Nat)) : (ls.map fun l => V.str (tx l)).all flatV = true := by
  rw [List.all_map]
  exact List.all_eq_true.mpr fun _ _ => rfl
theorem v_inL {x : List Nat} {ls : List (List Nat)} {p : Addr} (h : H p = some (.lst (ls.map fun l => V.str (tx l)))) (q : Q (.bl (decide (x ∈ ls))) H) : rIn K false (.str (tx x)) (.ref p) H Q :=
  ⟨p, _, rfl, .inl (SqL.of h), rfl, flat_tx ls, by rw [inV_tx]; exact q⟩
theorem v_inT {x : List Nat} {ls : List (List Nat)} {p : Addr} (h : SqT K H p (ls.map fun l => V.str (tx l))) (q : Q (.bl (decide (x ∈ ls))) H) : rIn K false (.str (tx x)) (.ref p) H Q :=
  ⟨p, _, rfl, .inr h, rfl, flat_tx ls, by rw [inV_tx]; exact q⟩
end
/-! ### comprehensions -/
theorem wipe1 {σ : St} {i : Nat} {x : Option V} : wipe ((wipe σ [i]).set i x) [i] = wipe σ [i] := by
  show (((σ.set i none).set i x).set i none) = σ.set i none
  rw [List.set_set, List.set_set]
section
variable {σ : St} {H : Hp} {Q : VK} {wi : TI} {g : TG} {tt : TT} {te t0 : TE} {i : Nat} {K : PySem.W.Frag}
/-- what a comprehension's new list is, item by item: Y tells the turn's items -/
theorem lc_gen {P : Addr → Hp → Prop} {J : It} {n : Nat} {G : Hp → Prop} {it : Nat → V} {b : Nat → Bool} {f : Nat → V} (w : Walk J n G (fun k H x H' => H' = H ∧ x = it k)) (hG : ∀ H', Same H H' → G H') (hn : n ≤ 1000000)
    (ht : ∀ k, k < n → ∀ H1, Same H H1 → ∀ R : Bool → Hp → Prop, (∀ H2, Same H1 H2 → R (b k) H2) → tt ((wipe σ [i]).set i (some (it k))) H1 R)
    (he : ∀ k, k < n → b k = true → ∀ H1, Same H H1 → ∀ R : VK, (∀ H2, Same H1 H2 → R (f k) H2) → te ((wipe σ [i]).set i (some (it k))) H1 R)
    (q : ∀ D H', H D = none → Same H H' → H' D = some (.lst (((List.range n).filter b).map f)) → P D H') :
    ∀ D, H D = none → ∃ W : Nat → Nat → Hp → Prop, (∃ m, W 0 m (upd H D (.lst []))) ∧ ∀ k m H, W k m H →
      (J.stop k H ∧ P D H) ∨ (J.go k H ∧ ∃ Nx : Hp → Prop, (∀ H', Nx H' → ∃ m', m' < m ∧ W (k + 1) m' H') ∧ ∀ x H', J.yld k H x H' → (gName i) x (wipe σ [i]) H' fun s2 H2 => wipe s2 [i] = wipe σ [i] ∧ tt s2 H2 fun c H3 =>
        if c = true then te s2 H3 fun y H4 => ∃ acc, H4 D = some (.lst acc) ∧ acc.length < sizeLine ∧ Nx (upd H4 D (.lst (acc ++ [y]))) else Nx H3) := by
  intro D hD
  refine lc_it w (vs := [i]) (σ := σ) (g := gName i) (tt := tt) (te := te) (Qd := fun H' => P D H') (fun k H' => Same H H' ∧ H' D = some (.lst (((List.range k).filter b).map f)))
    ⟨Same.new hD, upd_same⟩ (fun k H' _ p => hG H' p.1) (fun k x H1 H2 hk p y => ?_) (fun H' p => q D H' hD p.1 p.2)
  obtain ⟨p1, p2⟩ := p
  obtain ⟨rfl, rfl⟩ := y
  refine ⟨wipe1, ht k hk _ p1 _ fun H3 s3 => ?_⟩
  have e1 : (List.range (k + 1)).filter b = (List.range k).filter b ++ (if b k = true then [k] else []) := by
    rw [List.range_succ, List.filter_append]
    congr 1
    by_cases c : b k = true
    · simp [c]
    · simp [c]
  by_cases c : b k = true
  · rw [if_pos c]
    refine he k hk c _ (p1.trans s3) _ fun H4 s4 => ?_
    refine ⟨_, s4 _ _ (s3 _ _ p2), ?_, fun a o ha => ?_, ?_⟩
    · rw [List.length_map]
      have h1 := List.length_filter_le b (List.range k)
      rw [List.length_range] at h1
      exact szlt (by omega)
    · rw [upd_ne (ne_of_none ha hD)]
      exact s4 _ _ (s3 _ _ (p1 _ _ ha))
    · rw [upd_same, e1, if_pos c, List.map_append]
      rfl
  · rw [if_neg c]
    refine ⟨p1.trans s3, ?_⟩
    rw [e1, if_neg c, List.append_nil]
    exact s3 _ _ p2
theorem e_lc {vs : List Nat} (q : wi σ H fun J H1 => ∀ D, H1 D = none → ∃ W : Nat → Nat → Hp → Prop, (∃ m, W 0 m (upd H1 D (.lst []))) ∧ ∀ i m H, W i m H →
    (J.stop i H ∧ Q (.ref D) H) ∨ (J.go i H ∧ ∃ Nx : Hp → Prop, (∀ H', Nx H' → ∃ m', m' < m ∧ W (i + 1) m' H') ∧ ∀ x H', J.yld i H x H' → g x (wipe σ vs) H' fun s2 H2 => wipe s2 vs = wipe σ vs ∧ tt s2 H2 fun b H3 =>
      if b = true then te s2 H3 fun y H4 => ∃ acc, H4 D = some (.lst acc) ∧ acc.length < sizeLine ∧ Nx (upd H4 D (.lst (acc ++ [y]))) else Nx H3)) : tLc wi g tt te vs σ H Q := q
theorem range_map {α : Type} (l : List Nat) (b : Nat → Bool) (f : Nat → α) : ((List.range l.length).filter fun k => b (l.getD k 0)).map (fun k => f (l.getD k 0)) = (l.filter b).map f := by
  have e : l = (List.range l.length).map fun k => l.getD k 0 := by
    apply List.ext_getElem
    · simp
    · intro j h1 h2
      simp [List.getD, h1]
  conv => rhs; rw [e, List.filter_map, List.map_map]
  rfl
/-- [e for c in text if t] -/
theorem v_lcS {P : Addr → Hp → Prop} {l : List Nat} {b : Nat → Bool} {f : Nat → V} (hn : l.length ≤ 1000000)
    (ht : ∀ c, c ∈ l → ∀ H1, Same H H1 → ∀ R : Bool → Hp → Prop, (∀ H2, Same H1 H2 → R (b c) H2) → tt ((wipe σ [i]).set i (some (.str (tx [c])))) H1 R)
    (he : ∀ c, c ∈ l → b c = true → ∀ H1, Same H H1 → ∀ R : VK, (∀ H2, Same H1 H2 → R (f c) H2) → te ((wipe σ [i]).set i (some (.str (tx [c])))) H1 R)
    (q : ∀ D H', H D = none → Same H H' → H' D = some (.lst ((l.filter b).map f)) → P D H') :
    ∀ D, H D = none → ∃ W : Nat → Nat → Hp → Prop, (∃ m, W 0 m (upd H D (.lst []))) ∧ ∀ k m H, W k m H →
      ((Its (tx l)).stop k H ∧ P D H) ∨ ((Its (tx l)).go k H ∧ ∃ Nx : Hp → Prop, (∀ H', Nx H' → ∃ m', m' < m ∧ W (k + 1) m' H') ∧ ∀ x H', (Its (tx l)).yld k H x H' → (gName i) x (wipe σ [i]) H' fun s2 H2 => wipe s2 [i] = wipe σ [i] ∧ tt s2 H2 fun c H3 =>
        if c = true then te s2 H3 fun y H4 => ∃ acc, H4 D = some (.lst acc) ∧ acc.length < sizeLine ∧ Nx (upd H4 D (.lst (acc ++ [y]))) else Nx H3) := by
  have mem : ∀ k, k < l.length → l.getD k 0 ∈ l := fun k hk => by
    rw [List.getD_eq_getElem?_getD, List.getElem?_eq_getElem hk]
    exact List.getElem_mem hk
  have w : Walk (Its (tx l)) l.length (fun _ => True) (fun k H x H' => H' = H ∧ x = .str (tx [l.getD k 0])) := by
    refine ⟨fun k H hk _ => by show k < (tx l).cps.size; simpa using hk, fun H _ => by show (tx l).cps.size ≤ l.length; simp, fun k H x H' hk _ y => ?_⟩
    obtain ⟨e, c, hc, rfl⟩ := y
    refine ⟨e, ?_⟩
    have hc : l[k]? = some c := by simpa using hc
    rw [List.getD_eq_getElem?_getD, hc]
    rfl
  refine lc_gen (b := fun k => b (l.getD k 0)) (f := fun k => f (l.getD k 0)) w (fun _ _ => trivial) hn (fun k hk H1 s1 R r => ht _ (mem k hk) H1 s1 R r) (fun k hk c H1 s1 R r => he _ (mem k hk) c H1 s1 R r) (fun D H' hD s' e => q D H' hD s' ?_)
  rw [e, range_map]
end
end Cw
set_option Elab.async false
set_option linter.all false
set_option maxRecDepth 100000
set_option maxHeartbeats 4000000
namespace Cw
open PySem PySem.Spec L2
/-! ### a comprehension of two fors over texts -/
theorem lc_in {J : It} {n : Nat} {G : Hp → Prop} {Y : Nat → Hp → V → Hp → Prop} (w : Walk J n G Y) {g : TG} {tt : TT} {te : TE} {vs : List Nat} {σ : St} {H1 : Hp} {D : Addr} {Qd : Hp → Prop} (Pv : Nat → Hp → Prop) (h0 : Pv 0 H1) (hG : ∀ i H, i ≤ n → Pv i H → G H)
    (hs : ∀ i x H H', i < n → Pv i H → Y i H x H' → g x (wipe σ vs) H' fun s2 H2 => wipe s2 vs = wipe σ vs ∧ tt s2 H2 fun b H3 =>
      if b = true then te s2 H3 fun y H4 => ∃ acc, H4 D = some (.lst acc) ∧ acc.length < sizeLine ∧ Pv (i + 1) (upd H4 D (.lst (acc ++ [y]))) else Pv (i + 1) H3) (hd : ∀ H, Pv n H → Qd H) :
    ∃ W : Nat → Nat → Hp → Prop, (∃ m, W 0 m H1) ∧ ∀ i m H, W i m H →
      (J.stop i H ∧ Qd H) ∨ (J.go i H ∧ ∃ Nx : Hp → Prop, (∀ H', Nx H' → ∃ m', m' < m ∧ W (i + 1) m' H') ∧ ∀ x H', J.yld i H x H' → g x (wipe σ vs) H' fun s2 H2 => wipe s2 vs = wipe σ vs ∧ tt s2 H2 fun b H3 =>
        if b = true then te s2 H3 fun y H4 => ∃ acc, H4 D = some (.lst acc) ∧ acc.length < sizeLine ∧ Nx (upd H4 D (.lst (acc ++ [y]))) else Nx H3) := by
  refine ⟨fun i m H => m = n - i ∧ i ≤ n ∧ Pv i H, ⟨n, rfl, Nat.zero_le _, h0⟩, ?_⟩
  rintro i m H ⟨rfl, hi, p⟩
  by_cases c : i < n
  · exact Or.inr ⟨w.goes i H c (hG i H hi p), Pv (i + 1), fun H' p' => ⟨_, by omega, rfl, c, p'⟩, fun x H' y => hs i x H H' c p (w.yields i H x H' c (hG i H hi p) y)⟩
  · have e : i = n := by omega
    rw [e] at p ⊢
    exact Or.inl ⟨w.stops H (hG n H (Nat.le_refl _) p), hd H p⟩
theorem walk_tx (l : List Nat) : Walk (Its (tx l)) l.length (fun _ => True) (fun k H x H' => H' = H ∧ x = .str (tx [l.getD k 0])) := by
  refine ⟨fun k H hk _ => by show k < (tx l).cps.size; simpa using hk, fun H _ => by show (tx l).cps.size ≤ l.length; simp, fun k H x H' hk _ y => ?_⟩
  obtain ⟨e, c, hc, rfl⟩ := y
  refine ⟨e, ?_⟩
  have hc : l[k]? = some c := by simpa using hc
  rw [List.getD_eq_getElem?_getD, hc]
  rfl
theorem getD_mem {l : List Nat} {k : Nat} (hk : k < l.length) : l.getD k 0 ∈ l := by
  rw [List.getD_eq_getElem?_getD, List.getElem?_eq_getElem hk]
  exact List.getElem_mem hk
theorem take_getD {l : List Nat} {k : Nat} (hk : k < l.length) : l.take (k + 1) = l.take k ++ [l.getD k 0] := by
  rw [List.take_add_one, List.getD_eq_getElem?_getD, List.getElem?_eq_getElem hk]
  rfl
section
variable {σ : St} {H : Hp} {Q : VK} {tt1 : TT} {te t1 : TE} {i j : Nat}
theorem v_lc2S {la lb : List Nat} {b : Nat → Nat → Bool} {f : Nat → Nat → V} (hij : i ≠ j) (hsz : la.length * lb.length < 1000000)
    (h1 : ∀ c, c ∈ la → ∀ H1, Same H H1 → ∀ R : VK, R (.str (tx lb)) H1 → t1 (((σ.set j none).set i none).set i (some (.str (tx [c])))) H1 R)
    (ht : ∀ c d, c ∈ la → d ∈ lb → ∀ H1, Same H H1 → ∀ R : Bool → Hp → Prop, (∀ H2, Same H1 H2 → R (b c d) H2) → tt1 (((((σ.set j none).set i none).set i (some (.str (tx [c])))).set j none).set j (some (.str (tx [d])))) H1 R)
    (he : ∀ c d, c ∈ la → d ∈ lb → b c d = true → ∀ H1, Same H H1 → ∀ R : VK, (∀ H2, Same H1 H2 → R (f c d) H2) → te (((((σ.set j none).set i none).set i (some (.str (tx [c])))).set j none).set j (some (.str (tx [d])))) H1 R)
    (q : ∀ D H', H D = none → Same H H' → H' D = some (.lst (la.flatMap fun c => (lb.filter (b c)).map (f c))) → Q (.ref D) H') :
    tLc2 (iStr (tC (.str (tx la)))) (gName i) tYes (iStr t1) (gName j) tt1 te [i, j] [j] σ H Q := by
  refine ⟨tx la, rfl, fun D hD => ?_⟩
  have len : ∀ l : List Nat, (l.flatMap fun c => (lb.filter (b c)).map (f c)).length ≤ l.length * lb.length := by
    intro l
    induction l with
    | nil => simp
    | cons c r ih =>
      rw [List.flatMap_cons, List.length_append, List.length_map, List.length_cons, Nat.succ_mul]
      have := List.length_filter_le (b c) lb
      omega
  refine ⟨fun k m H' => m = la.length - k ∧ k ≤ la.length ∧ Same H H' ∧ H' D = some (.lst ((la.take k).flatMap fun c => (lb.filter (b c)).map (f c))), ⟨_, rfl, Nat.zero_le _, Same.new hD, upd_same⟩, ?_⟩
  rintro k m H1 ⟨rfl, hk, s1, e1⟩
  have w := walk_tx la
  by_cases c : k < la.length
  · refine Or.inr ⟨w.goes k H1 c trivial, fun H' => Same H H' ∧ H' D = some (.lst ((la.take (k + 1)).flatMap fun c => (lb.filter (b c)).map (f c))), fun H' p => ⟨_, by omega, rfl, c, p.1, p.2⟩, fun x H2 y => ?_⟩
    obtain ⟨rfl, rfl⟩ := w.yields k H1 x H2 c trivial y
    have hm := getD_mem c
    refine ⟨?_, ?_⟩
    · show ((((σ.set j none).set i none).set i _).set j none).set i none = (σ.set j none).set i none
      rw [List.set_comm _ _ hij.symm, List.set_set, List.set_set, List.set_comm _ _ hij, List.set_set]
    · unfold tYes
      refine iteT ?_
      refine h1 _ hm _ s1 _ ⟨tx lb, rfl, ?_⟩
      refine lc_in (walk_tx lb) (fun z H' => Same H H' ∧ H' D = some (.lst (((la.take k).flatMap fun c => (lb.filter (b c)).map (f c)) ++ ((lb.take z).filter (b (la.getD k 0))).map (f (la.getD k 0))))) ⟨s1, by simpa using e1⟩ (fun _ _ _ _ => trivial) ?_ ?_
      · rintro z x H3 H4 hz ⟨s3, e3⟩ ⟨rfl, rfl⟩
        have hm2 := getD_mem hz
        have et := take_getD hz
        refine ⟨?_, ht _ _ hm hm2 _ s3 _ fun H5 s5 => ?_⟩
        · exact wipe1
        · show (if b (la.getD k 0) (lb.getD z 0) = true then _ else _)
          by_cases cb : b (la.getD k 0) (lb.getD z 0) = true
          · rw [if_pos cb]
            refine he _ _ hm hm2 cb _ (s3.trans s5) _ fun H6 s6 => ⟨_, s6 _ _ (s5 _ _ e3), ?_, fun a o ha => ?_, ?_⟩
            · have n1 := len (la.take k)
              have n2 : ((lb.take z).filter (b (la.getD k 0))).length ≤ z := by
                have := List.length_filter_le (b (la.getD k 0)) (lb.take z)
                rw [List.length_take] at this
                omega
              rw [List.length_append, List.length_map]
              rw [List.length_take, Nat.min_eq_left (by omega)] at n1
              have n3 : k * lb.length + lb.length ≤ la.length * lb.length := by
                rw [← Nat.succ_mul]
                exact Nat.mul_le_mul_right _ c
              exact szlt (by omega)
            · rw [upd_ne (ne_of_none ha hD)]
              exact s6 _ _ (s5 _ _ (s3 _ _ ha))
            · rw [upd_same, et, List.filter_append, List.map_append, List.append_assoc, List.filter_cons, if_pos cb]
              rfl
          · rw [if_neg cb]
            refine ⟨s3.trans s5, ?_⟩
            rw [s5 _ _ e3, et, List.filter_append, List.filter_cons, if_neg cb, List.filter_nil, List.append_nil]
      · rintro H' ⟨s', e'⟩
        refine ⟨s', ?_⟩
        rw [e', take_getD c, List.flatMap_append, List.take_of_length_le (Nat.le_refl _)]
        simp
  · have e : k = la.length := by omega
    subst e
    refine Or.inl ⟨w.stops H1 trivial, q D H1 hD s1 ?_⟩
    rw [e1, List.take_of_length_le (Nat.le_refl _)]
end
end Cw
set_option Elab.async false
set_option linter.all false
set_option maxRecDepth 100000
set_option maxHeartbeats 4000000
/-! plain words about plans -/
namespace Cw
open PySem L2
def LET : List Nat := [97, 98, 99, 100, 101, 102, 103, 104, 105, 106, 107, 108, 109, 110, 111, 112, 113, 114, 115, 116, 117, 118, 119, 120, 121, 122]
def ascOf (l : List Nat) : List Nat := LET.filter fun c => decide (c ∈ l)
def pairsOf (found : List (List Nat)) : List (List Nat) := LET.flatMap fun a => (LET.filter fun b => decide ([a, b] ∈ found)).map fun b => [a, b]
def crossOf (ks : List Nat) (ps : List (List Nat)) (k : Nat) : List Nat := ks.filter fun o => decide ([k, o] ∈ ps) || decide ([o, k] ∈ ps)
/-- the pairs that a plan may be told by: two different kinds each -/
def PairsIn (ks : List Nat) (ps : List (List Nat)) : Prop := ∀ p ∈ ps, ∃ a b, p = [a, b] ∧ a ≠ b ∧ a ∈ ks ∧ b ∈ ks
def crossKV (ks : List Nat) (ps : List (List Nat)) (l : List Nat) : List (Key × V) := l.map fun k => (Sum.inr (tx [k]), V.str (tx (crossOf ks ps k)))
/-- a list of texts as values -/
abbrev strsV (ls : List (List Nat)) : List V := ls.map fun l => V.str (tx l)
theorem LET_lt {c : Nat} (h : c ∈ LET) : 97 ≤ c ∧ c < 123 := by
  unfold LET at h
  simp only [List.mem_cons, List.not_mem_nil, or_false] at h
  omega
theorem ascOf_mem {l : List Nat} {c : Nat} : c ∈ ascOf l ↔ c ∈ LET ∧ c ∈ l := by
  unfold ascOf
  rw [List.mem_filter, decide_eq_true_iff]
theorem ascOf_len (l : List Nat) : (ascOf l).length ≤ 26 := List.length_filter_le _ _
theorem LET_nodup : LET.Nodup := by decide
theorem ascOf_nodup (l : List Nat) : (ascOf l).Nodup := LET_nodup.filter _
theorem pairsOf_mem {f : List (List Nat)} {p : List Nat} : p ∈ pairsOf f ↔ ∃ a b, p = [a, b] ∧ a ∈ LET ∧ b ∈ LET ∧ [a, b] ∈ f := by
  unfold pairsOf
  simp only [List.mem_flatMap, List.mem_map, List.mem_filter, decide_eq_true_iff]
  constructor
  · rintro ⟨a, ha, b, ⟨hb, hf⟩, rfl⟩
    exact ⟨a, b, rfl, ha, hb, hf⟩
  · rintro ⟨a, b, rfl, ha, hb, hf⟩
    exact ⟨a, ha, b, ⟨hb, hf⟩, rfl⟩
theorem pairsOf_congr {f g : List (List Nat)} (h : ∀ a b, a ∈ LET → b ∈ LET → ([a, b] ∈ f ↔ [a, b] ∈ g)) : pairsOf f = pairsOf g := by
  unfold pairsOf
  have h2 : ∀ l : List Nat, (∀ a ∈ l, a ∈ LET) → (l.flatMap fun a => (LET.filter fun b => decide ([a, b] ∈ f)).map fun b => [a, b]) = (l.flatMap fun a => (LET.filter fun b => decide ([a, b] ∈ g)).map fun b => [a, b]) := by
    intro l
    induction l with
    | nil => intro _; rfl
    | cons c r ih =>
      intro hm
      rw [List.flatMap_cons, List.flatMap_cons, ih fun a ha => hm a (List.mem_cons_of_mem _ ha)]
      congr 2
      refine List.filter_congr fun b hb => ?_
      exact decide_eq_decide.mpr (h c b (hm c (List.mem_cons_self ..)) hb)
  exact h2 LET fun a ha => ha
theorem filter_yes {α : Type} (l : List α) : l.filter (fun _ => true) = l := List.filter_eq_self.mpr fun _ _ => rfl
theorem flat_ones (l : List Nat) : (l.map fun c => [c]).flatten = l := by
  induction l with
  | nil => rfl
  | cons c r ih => rw [List.map_cons, List.flatten_cons, ih]; rfl
theorem strs_ones (l : List Nat) : (l.map fun c => V.str (tx [c])) = strsV (l.map fun c => [c]) := by
  unfold strsV
  rw [List.map_map]
  rfl
theorem nodup_ones {l : List Nat} : (l.map fun c => tx [c]).Nodup ↔ l.Nodup := by
  induction l with
  | nil => simp
  | cons c r ih =>
    rw [List.map_cons, List.nodup_cons, List.nodup_cons, ih]
    refine and_congr_left fun _ => not_congr ?_
    rw [List.mem_map]
    constructor
    · rintro ⟨d, hd, e⟩
      have : [d] = [c] := tx_inj.mp e
      injection this with e _
      exact e ▸ hd
    · intro h
      exact ⟨c, h, rfl⟩
theorem metOf_ones (l : List Nat) : ((metOf (l.map fun c => tx [c])).length = l.length) ↔ l.Nodup := by
  by_cases h : l.Nodup
  · rw [metOf_nodup (nodup_ones.mpr h), List.length_map]
    exact ⟨fun _ => h, fun _ => rfl⟩
  · have := metOf_lt (fun n => h (nodup_ones.mp n))
    rw [List.length_map] at this
    exact ⟨fun e => by omega, fun n => absurd n h⟩
theorem crossOf_len (ks : List Nat) (ps : List (List Nat)) (k : Nat) : (crossOf ks ps k).length ≤ ks.length := List.length_filter_le _ _
section
variable {σ : L2.St} {H : Hp} {Q : VK} {te : TE} {K : PySem.W.Frag}
theorem e_iStr {R : It → Hp → Prop} (q : te σ H fun v H1 => ∃ x, v = .str x ∧ R (Its x) H1) : iStr te σ H R := q
theorem e_iL {R : It → Hp → Prop} (q : te σ H fun x H1 => ∃ a, x = .ref a ∧ (∃ xs, SqL K H1 a xs) ∧ R (Itl K a) H1) : iList K te σ H R := q
theorem v_iL {P : Addr → Prop} {a : Addr} {xs : List V} (h : H a = some (.lst xs)) (q : P a) : ∃ a', V.ref a = .ref a' ∧ (∃ xs, SqL K H a' xs) ∧ P a' := ⟨a, rfl, ⟨xs, SqL.of h⟩, q⟩
theorem e_iR1 {ta : TA} {R : It → Hp → Prop} (q : ta σ H fun vs H1 => ∃ j : Int, vs = [.int j] ∧ -(2 ^ 62) ≤ j ∧ j < 2 ^ 62 ∧ R (Itr 0 j.toNat) H1) : iRng1 ta σ H R := q
theorem v_iR1 {P : Int → Prop} {j : Int} (h1 : -1000000 ≤ j) (h2 : j < 1000000) (q : P j) : ∃ j' : Int, [V.int j] = [.int j'] ∧ -(2 ^ 62) ≤ j' ∧ j' < 2 ^ 62 ∧ P j' := ⟨j, rfl, by omega, by omega, q⟩
theorem e_iR2 {ta : TA} {R : It → Hp → Prop} (q : ta σ H fun vs H1 => ∃ i j : Int, vs = [.int i, .int j] ∧ (-(2 ^ 62) ≤ i ∧ i < 2 ^ 62 ∧ -(2 ^ 62) ≤ j ∧ j < 2 ^ 62) ∧ R (Itr i (j - i).toNat) H1) : iRng2 ta σ H R := q
theorem v_iR2 {P : Int → Int → Prop} {i j : Int} (h1 : -1000000 ≤ i ∧ i < 1000000 ∧ -1000000 ≤ j ∧ j < 1000000) (q : P i j) : ∃ i' j' : Int, [V.int i, V.int j] = [.int i', .int j'] ∧ (-(2 ^ 62) ≤ i' ∧ i' < 2 ^ 62 ∧ -(2 ^ 62) ≤ j' ∧ j' < 2 ^ 62) ∧ P i' j' := ⟨i, j, rfl, by omega, q⟩
theorem e_for {wi : TI} {g : TG} {tb : TS} {D : Ends} (q : wi σ H fun J H1 => ∃ W : Nat → Nat → L2.St → Hp → Prop, (∃ m, W 0 m σ H1) ∧ ∀ i m σ H, W i m σ H →
    (J.stop i H ∧ D.nx σ H) ∨ (J.go i H ∧ ∃ N : L2.St → Hp → Prop, (∀ σ' H', N σ' H' → ∃ m', m' < m ∧ W (i + 1) m' σ' H') ∧ ∀ x H', J.yld i H x H' → g x σ H' fun s2 H2 => tb { D with nx := N, ct := N, bk := D.nx } s2 H2)) : tFor wi g tb D σ H := q
theorem iteNT {A B : Prop} (h : B) : if (!true) = true then A else B := by
  rw [if_neg (by decide)]
  exact h
theorem iteNF {A B : Prop} (h : A) : if (!false) = true then A else B := by
  rw [if_pos (by decide)]
  exact h
theorem e_yes {Q : Bool → Hp → Prop} (q : Q true H) : tYes σ H Q := q
theorem v_isiS {x : Str} (q : Q (.bl true) H) : rIsi K [.str x, .ty "str"] H Q := ⟨.str x, .ty "str", .type "str", .type "str", true, rfl, .ty "str", .base (.str x), kit_ty (by decide +kernel), q⟩
theorem v_all {p : Addr} {bs : List Bool} (h : H p = some (.lst (bs.map V.bl))) (q : Q (.bl (bs.all id)) H) : rAll K [.ref p] H Q := ⟨p, bs, rfl, SqL.of h, q⟩
theorem v_fld {P : V → Prop} {a C dx : Addr} {fs : List (Str × V)} {f : Str} {v : V} (h : H a = some (.ins C dx fs)) (c : Cls K C) (n : NoAttr K C f) (l : fs.lookup f = some v) (q : P v) : ∃ a' C dx fs v, V.ref a = .ref a' ∧ H a' = some (.ins C dx fs) ∧ Cls K C ∧ NoAttr K C f ∧ fs.lookup f = some v ∧ P v := ⟨a, C, dx, fs, v, rfl, h, c, n, l, q⟩
theorem e_sfld {ta tv : TE} {f : Str} {D : Ends} (q : tv σ H fun y H1 => ta σ H1 fun x H2 => ∃ a C dx fs, x = .ref a ∧ H2 a = some (.ins C dx fs) ∧ Cls K C ∧ NoAttr K C f ∧ fs.length < 1000 ∧ D.nx σ (upd H2 a (.ins C dx (putF f y fs)))) : sFld K ta tv f D σ H := q
theorem v_sfld {P : Hp → Prop} {a C dx : Addr} {fs : List (Str × V)} {f : Str} {y : V} (h : H a = some (.ins C dx fs)) (c : Cls K C) (n : NoAttr K C f) (l : fs.length < 1000) (q : ∀ H', Keep a H H' → H' a = some (.ins C dx (putF f y fs)) → P H') :
    ∃ a' C dx fs, V.ref a = .ref a' ∧ H a' = some (.ins C dx fs) ∧ Cls K C ∧ NoAttr K C f ∧ fs.length < 1000 ∧ P (upd H a' (.ins C dx (putF f y fs))) := ⟨a, C, dx, fs, rfl, h, c, n, l, q _ Keep.put upd_same⟩
/-- a class of the text -/
structure ClsF (K : PySem.W.Frag) (mg : Str → Option Value) (x : Str) (C : Addr) : Prop where
  «at» : mg x = some (.ref C)
  cl : Cls K C
  mks : PySem.W.makesIn K C = true
  kp : PySem.W.keepIn K (.ref C) = true
  ha : PySem.W.findIn K (.ref C) "__class__" = some (some (.builtin "object.__class__"))
  hn : PySem.W.specialIn K (.builtin "object.__class__") "__get__" = some (some (.builtin "getset_descriptor.__get__"))
  ht : PySem.W.takesIn K (.builtin "object.__class__") = some true
  hm : PySem.W.mroIn K C (.type "object") = some true
  ob : PySem.W.subIn K (.ref C) (.type "object") = some true
  ne : PySem.W.findIn K (.ref C) "__ne__" = some (some (.builtin "object.__ne__"))
theorem kit_same {C : Addr} : PySem.W.kitOne K (.ref C) (.ref C) = some true := by
  unfold PySem.W.kitOne
  rw [if_pos (by simp)]
theorem v_isiC {mg : Str → Option Value} {x : Str} {a C dx : Addr} {fs : List (Str × V)} (F : ClsF K mg x C) (h : H a = some (.ins C dx fs)) (q : Q (.bl true) H) : rIsi K [.ref a, .ref C] H Q :=
  ⟨.ref a, .ref C, .ref C, .ref C, true, rfl, .own C, .base (.ins h F.cl F.ha F.hn F.ht F.hm), kit_same, q⟩
theorem v_isiL {p t : Addr} {xs : List V} (h : H p = some (.lst xs)) (ht : H t = some (.tup [.ty "list", .ty "tuple"])) (q : Q (.bl true) H) : rIsiT K [.ref p, .ref t] H Q :=
  ⟨.ref p, t, _, .type "list", [.type "list", .type "tuple"], true, rfl, ht, .cons (.ty _) (.cons (.ty _) .nil), .base (.lst h), kitAny_cons (b := true) (kit_ty (by decide +kernel)) (fun z => nomatch z) (fun _ => rfl), q⟩
end
def rTuple (K : PySem.W.Frag) : List V → Hp → VK → Prop := fun xs H Q => ∃ p ys, xs = [.ref p] ∧ ((SqL K H p ys ∧ ∀ l, H l = none → Q (.ref l) (upd H l (.tup ys))) ∨ (SqT K H p ys ∧ Q (.ref p) H))
theorem c_tuple {X : Cx} : CallR X (.type "tuple") (rTuple X.K) := call_tuple_of
theorem v_tuple {K : PySem.W.Frag} {H : Hp} {Q : VK} {p : Addr} {ys : List V} (h : H p = some (.lst ys)) (q : ∀ l H', H l = none → Same H H' → H' l = some (.tup ys) → Q (.ref l) H') : rTuple K [.ref p] H Q :=
  ⟨p, ys, rfl, .inl ⟨SqL.of h, fun l hl => q l _ hl (Same.new hl) upd_same⟩⟩
def rList (K : PySem.W.Frag) : List V → Hp → VK → Prop := fun xs H Q => ∃ p ys, xs = [.ref p] ∧ (SqL K H p ys ∨ SqT K H p ys) ∧ ∀ l, H l = none → Q (.ref l) (upd H l (.lst ys))
theorem c_list {X : Cx} : CallR X (.type "list") (rList X.K) := call_list_of
theorem v_list {K : PySem.W.Frag} {H : Hp} {Q : VK} {p : Addr} {ys : List V} (h : SqL K H p ys) (q : ∀ l H', H l = none → Same H H' → H' l = some (.lst ys) → Q (.ref l) H') : rList K [.ref p] H Q :=
  ⟨p, ys, rfl, .inl h, fun l hl => q l _ hl (Same.new hl) upd_same⟩
section
variable {σ : L2.St} {H : Hp} {Q : VK} {K : PySem.W.Frag}
theorem e_bm {T : String} {r : V → List V → Hp → VK → Prop} {to : TE} {t : TA} (q : to σ H fun x H1 => tyV K T x H1 ∧ t σ H1 fun xs H2 => r x xs H2 Q) : tBM K T r to t σ H Q := q
theorem e_bm0 {T : String} {r : V → List V → Hp → VK → Prop} {to : TE} (q : to σ H fun x H1 => tyV K T x H1 ∧ r x [] H1 Q) : tBM0 K T r to σ H Q := q
theorem v_tyL {P : Prop} {p : Addr} {xs : List V} (h : H p = some (.lst xs)) (q : P) : tyV K "list" (.ref p) H ∧ P := ⟨.inl ⟨rfl, _, SqL.of h⟩, q⟩
theorem v_app {p : Addr} {xs : List V} {y : V} (h : H p = some (.lst xs)) (hl : xs.length < 1000000) (q : ∀ H', Keep p H H' → H' p = some (.lst (xs ++ [y])) → Q .non H') : rAppend (.ref p) [y] H Q :=
  ⟨p, xs, y, rfl, rfl, h, szlt hl, q _ Keep.put upd_same⟩
end
/-! ### rules with the written part named (in a comprehension's block too) -/
section
variable {X : Cx} {K : PySem.W.Frag}
theorem op_inLK (h : X.K = K) : OpR X (compareOp .In) (rIn K false) := h ▸ op_in_seq
theorem ix_LK (h : X.K = K) : IxR X (rIxL K) := h ▸ ix_list
theorem ix_TK (h : X.K = K) : IxR X (rIxT K) := h ▸ ix_tup
theorem pe_flK {e : Expr} {f : Str} {pos : PySem.Pos} {ta : TE} (h : X.K = K) (he : PE X e ta) (hb : attributeBase e f X.env (eval e X.env) = eval e X.env) : PE X (.Attribute e f pos) (tFld K ta f) := h ▸ pe_fld he hb
theorem ps_flK {o value : Expr} {f : Str} {pos pos' : PySem.Pos} {ta tv : TE} (h : X.K = K) (ha : PE X o ta) (hv : PE X value tv) (hs : swapsWith value (some (.Attribute o f pos')) pos.line X.env = pure false) : PS X (.Assign [.Attribute o f pos'] value pos) (sFld K ta tv f) := h ▸ ps_fld ha hv hs
theorem pe_joinK {o e : Expr} {to te : TE} {apos pos : PySem.Pos} (h : X.K = K) (ho : PE X o to) (he : PE X e te) (hs : starEach [e] X.env = [(false, eval e X.env)] := by rfl) (hbase : attributeBase o "join" X.env (eval o X.env) = eval o X.env := by rfl) (hline : (apos.endLine == pos.line) = true := by rfl) :
    PE X (.Call (.Attribute o "join" apos) [e] [] pos) (tM1 (rJoinT K) to te) := h ▸ pe_joinT ho he hs hbase hline
theorem c_lenK (h : X.K = K) : CallR X (.builtin "len") (rLen K) := h ▸ c_len
theorem c_isiK (h : X.K = K) : CallR X (.builtin "isinstance") (rIsi K) := h ▸ call_isi
theorem c_isiTK (h : X.K = K) : CallR X (.builtin "isinstance") (rIsiT K) := h ▸ call_isiT
theorem c_listK (h : X.K = K) : CallR X (.type "list") (rList K) := h ▸ c_list
theorem c_tupleK (h : X.K = K) : CallR X (.type "tuple") (rTuple K) := h ▸ c_tuple
theorem c_allK (h : X.K = K) (hc : X.calm = true) : CallR X (.builtin "all") (rAll K) := h ▸ cr_all hc
theorem sl_LK (h : X.K = K) : SlR X (rSlL K) := h ▸ sl_list
theorem op_eqDK (h : X.K = K) (hu : X.A.units + 64 < cLine) : OpR X (compareOp .Eq) (rEqD K) := h ▸ op_eqD hu
theorem op_neDK (h : X.K = K) (hu : X.A.units + 64 < cLine) : OpR X (compareOp .NotEq) (rNeD K) := h ▸ op_neD hu
theorem pi_listK {tg e : Expr} {te : TE} (h : X.K = K) (he : PE X e te) : PI X tg e (iList K te) := h ▸ pi_list he
theorem pi_tupK {tg e : Expr} {te : TE} (h : X.K = K) (he : PE X e te) : PI X tg e (iTup K te) := h ▸ pi_tup he
theorem pe_appK {o e : Expr} {to te : TE} {apos cpos : PySem.Pos} (h : X.K = K) (ho : PE X o to) (he : PE X e te) (hbase : attributeBase o "append" X.env (eval o X.env) = eval o X.env := by rfl)
    (hfew : ((backTo cpos (starEach [e] X.env)).all (fun x => !x.1) && (backToKw cpos (keywordEach [] X.env)).all (fun x => x.1.isSome) && decide ([e].length + ([] : List Keyword).length + (if ([] : List Keyword).isEmpty then 0 else 1) < 30)) = true := by rfl)
    (hline : (apos.endLine == cpos.line) = true := by rfl) (hs : starEach [e] X.env = (false, eval e X.env) :: starEach [] X.env := by rfl) (hplain : (backTo cpos (starEach [] X.env)).any (·.1) = false := by rfl) :
    PE X (.Call (.Attribute o "append" apos) [e] [] cpos) (tBM K "list" rAppend to (tCons te tNil)) := h ▸ pe_bm PySem.F.plainAttrs_list PySem.F.slot_list_append PySem.F.type_list_append mt_append ho (pa_cons he pa_nil hs) hbase hfew hline hs hplain
end
/-- two readings of one walk -/
def iOr (a b : TI) : TI := fun σ H R => a σ H R ∨ b σ H R
theorem pi_or {X : Cx} {tg e : Expr} {a b : TI} (h1 : PI X tg e a) (h2 : PI X tg e b) : PI X tg e (iOr a b) :=
  ⟨fun pos s σ H R I h => h.elim (h1.run pos s σ H R I) (h2.run pos s σ H R I)⟩
/-- a list or a tuple, or the empty tuple of the top -/
def SeqO (K : PySem.W.Frag) (H : Hp) (p : Addr) (xs : List V) : Prop := H p = some (.lst xs) ∨ H p = some (.tup xs) ∨ (xs = [] ∧ ∃ o n, K.lookup p = some o ∧ o.cls = .type "tuple" ∧ o.data = .seq #[] n)
section
variable {K : PySem.W.Frag} {H H' : Hp} {p x : Addr} {xs : List V}
theorem SeqO.go (h : SeqO K H p xs) (s : ∀ o, H p = some o → H' p = some o) : SeqO K H' p xs := h.imp (s _) (fun z => z.imp (s _) id)
theorem SeqO.same (h : SeqO K H p xs) (s : Same H H') : SeqO K H' p xs := h.go (s _)
theorem SeqO.keepI {C dx : Addr} {fs : List (Str × V)} (h : SeqO K H p xs) (s : Keep x H H') (hx : H x = some (.ins C dx fs)) : SeqO K H' p xs := by
  rcases h with h | h | h
  · exact .inl (s _ _ h (ne_of h hx (by intro z; cases z)))
  · exact .inr (.inl (s _ _ h (ne_of h hx (by intro z; cases z))))
  · exact .inr (.inr h)
theorem v_isiQ {Q : VK} {t : Addr} (h : SeqO K H p xs) (ht : H t = some (.tup [.ty "list", .ty "tuple"])) (q : Q (.bl true) H) : rIsiT K [.ref p, .ref t] H Q := by
  have key : TyX K H (.ref p) (.type "tuple") → rIsiT K [.ref p, .ref t] H Q := fun ty => ⟨.ref p, t, _, .type "tuple", [.type "list", .type "tuple"], true, rfl, ht, .cons (.ty _) (.cons (.ty _) .nil), ty, kitAny_cons (b := false) (kit_ty (by decide +kernel)) (fun _ => kitAny_cons (b := true) (kit_ty (by decide +kernel)) (fun z => nomatch z) (fun _ => rfl)) (fun z => nomatch z), q⟩
  rcases h with h | h | ⟨_, o, n, h, c, _⟩
  · exact v_isiL h ht q
  · exact key (.base (.tup h))
  · exact key (.kTuple h c)
/-- a for over a list or a tuple -/
theorem e_forSeq {te : TE} {g : TG} {tb : TS} {D : Ends} {σ : L2.St} {H0 : Hp} (hp : SeqO K H0 p xs) (s0 : Same H0 H) (ht : ∀ Q : VK, Q (.ref p) H → te σ H Q) (Pv : Nat → L2.St → Hp → Prop) (h0 : Pv 0 σ H) (hG : ∀ i σ' H', Pv i σ' H' → Same H0 H')
    (hs : ∀ i x σ H H', i < xs.length → Pv i σ H → YAt xs i H x H' → g x σ H' fun σ2 H2 => tb { D with nx := Pv (i + 1), ct := Pv (i + 1), bk := D.nx } σ2 H2) (hd : ∀ σ H, Pv xs.length σ H → D.nx σ H) : tFor (iOr (iList K te) (iTup K te)) g tb D σ H := by
  rcases hp with hp | hp | ⟨rfl, o, n, h, c, e⟩
  · exact Or.inl (ht _ ⟨p, rfl, ⟨xs, SqL.of (s0 _ _ hp)⟩, for_it walk_list Pv h0 (fun i σ' H' _ z => SqL.of (hG i σ' H' z _ _ hp)) hs hd⟩)
  · exact Or.inr (ht _ ⟨p, rfl, ⟨xs, SqT.of (s0 _ _ hp)⟩, for_it walk_tup Pv h0 (fun i σ' H' _ z => SqT.of (hG i σ' H' z _ _ hp)) hs hd⟩)
  · have k : ∀ H', SqT K H' p [] := fun H' => .inr ⟨o, #[], n, h, c, e, by decide, .nil⟩
    exact Or.inr (ht _ ⟨p, rfl, ⟨[], k _⟩, for_it walk_tup Pv h0 (fun i σ' H' _ z => k _) hs hd⟩)
end
theorem DPut.cross {H : Hp} {a : Addr} {kvs : List (Key × V)} {l : List Nat} {v : V} (e : H a = some (.dK kvs)) (hn : valV kvs (Sum.inr (tx l)) = none) (hl : kvs.length < 1000000) : DPut H a (.str (tx l)) v (upd H a (.dK (kvs ++ [(Sum.inr (tx l), v)]))) := by
  have h := DPut.k (k := Sum.inr (tx l)) (v := v) e (szlt hl)
  rw [putK_new v hn] at h
  exact h
theorem key_tx {a b : List Nat} : (Sum.inr (tx a) : Key) = Sum.inr (tx b) ↔ a = b := by
  constructor
  · intro h
    injection h with h
    exact tx_inj.mp h
  · intro h
    rw [h]
/-- a dict by letters -/
theorem letV_none {g : Nat → V} {k : Nat} : ∀ {l : List Nat}, ¬ k ∈ l → valV (l.map fun c => ((Sum.inr (tx [c]) : Key), g c)) (Sum.inr (tx [k])) = none
  | [], _ => rfl
  | c :: r, h => by
    rw [List.map_cons, valV_neg, letV_none fun z => h (List.mem_cons_of_mem _ z)]
    intro e
    have := key_tx.mp e
    injection this with e _
    exact h (e ▸ List.mem_cons_self ..)
theorem letV_some {g : Nat → V} {k : Nat} : ∀ {l : List Nat}, k ∈ l → valV (l.map fun c => ((Sum.inr (tx [c]) : Key), g c)) (Sum.inr (tx [k])) = some (g k)
  | [], h => by cases h
  | c :: r, h => by
    by_cases e : c = k
    · subst e
      rw [List.map_cons, valV_pos rfl]
    · rw [List.map_cons, valV_neg, letV_some ((List.mem_cons.mp h).resolve_left fun z => e z.symm)]
      intro z
      have := key_tx.mp z
      injection this with z _
      exact e z
theorem dget_let {H : Hp} {d : Addr} {g : Nat → V} {k : Nat} {l : List Nat} (h : H d = some (.dK (l.map fun c => ((Sum.inr (tx [c]) : Key), g c)))) (hk : k ∈ l) : DGet H d (.str (tx [k])) (some (g k)) := by
  have e := DGet.k (k := Sum.inr (tx [k])) h
  rw [letV_some hk] at e
  exact e
theorem take_notin {l : List Nat} (h : l.Nodup) {i : Nat} (hi : i < l.length) : ¬ l.getD i 0 ∈ l.take i := by
  intro m
  obtain ⟨j, hj, e⟩ := List.mem_iff_getElem.mp m
  rw [List.length_take] at hj
  rw [List.getElem_take, List.getD_eq_getElem?_getD, List.getElem?_eq_getElem hi] at e
  have := (List.getElem_inj h).mp e
  omega
end Cw
set_option Elab.async false
set_option linter.all false
set_option maxRecDepth 100000
set_option maxHeartbeats 4000000
/-! the same steps, what is to be found asked behind the match -/
namespace Cw
open PySem PySem.Spec L2
section
variable {σ : St} {H : Hp} {Q : VK} {i : Nat} {y : V} {K : PySem.W.Frag}
theorem e_varG (q : ∃ v, σ[i]? = some (some v) ∧ Q v H) : tVar i σ H Q := q
theorem v_lenG {p : Addr} (q : ∃ ys, H p = some (.lst ys) ∧ Q (.int (ys.length : Nat)) H) : rLen K [.ref p] H Q := by
  obtain ⟨ys, h, q⟩ := q
  exact v_len h q
theorem v_inLG {x : List Nat} {p : Addr} (q : ∃ ls : List (List Nat), H p = some (.lst (ls.map fun l => V.str (tx l))) ∧ Q (.bl (decide (x ∈ ls))) H) : rIn K false (.str (tx x)) (.ref p) H Q := by
  obtain ⟨ys, h, q⟩ := q
  exact v_inL h q
theorem v_lenSetG {P : Program} {w : World} {p : Addr} (q : ∃ l : List Str, H p = some (SetT P w p l) ∧ Q (.int (l.length : Nat)) H) : rLenSet P w [.ref p] H Q := by
  obtain ⟨ys, h, q⟩ := q
  exact v_lenSet h q
theorem v_tyLG {P : Prop} {p : Addr} (q : ∃ xs, H p = some (.lst xs) ∧ P) : tyV K "list" (.ref p) H ∧ P := by
  obtain ⟨ys, h, q⟩ := q
  exact v_tyL h q
theorem v_iLG {P : Addr → Prop} {a : Addr} (q : ∃ xs, H a = some (.lst xs) ∧ P a) : ∃ a', V.ref a = .ref a' ∧ (∃ xs, SqL K H a' xs) ∧ P a' := by
  obtain ⟨ys, h, q⟩ := q
  exact v_iL h q
theorem v_dgetG {P : V → Prop} {a : Addr} (q : ∃ v, DGet H a y (some v) ∧ P v) : ∃ a' v, V.ref a = .ref a' ∧ DGet H a' y (some v) ∧ P v := by
  obtain ⟨v, h, q⟩ := q
  exact v_dget h q
end
end Cw
set_option Elab.async false
set_option linter.all false
set_option maxRecDepth 100000
set_option maxHeartbeats 4000000
/-! C(..) as a call with a promise of its own -/
namespace Cw
open PySem PySem.Spec L2
/-- from what a caller wants of C(..) to what __init__ promises -/
def Conv (C : Addr) (sp0 sp : Sp) : Prop := ∀ vs H Q E, sp vs H Q E → ∀ x dx, H x = none → H dx = none → dx ≠ x → sp0 (.ref x :: vs) (upd (upd H dx (.own x)) x (.ins C dx [])) (fun v H2 => v = .non ∧ Q (.ref x) H2) E
structure CDef (P : Program) (w : World) (K : PySem.W.Frag) (mg : Str → Option Value) (base : Heap) (CX : CXT) (k : Nat) (x : Str) (C : Addr) (sp : Sp) : Prop where
  ex : ∃ f fd ps sp0, mg x = some (.ref C) ∧ Mk K C f ∧ Binds K fd ps [] ∧ FnOk P w K mg base CX k f fd ps sp0 ∧ Conv C sp0 sp
section
variable {X : Cx} {CX : CXT} {k : Nat} {sp : Sp} {E : XK} {x : Str} {C : Addr} {p pos : PySem.Pos} {e : Expr} {es : List Expr} {t : TA}
theorem pe_mk (D : CDef X.prog X.w X.K X.mg X.base CX k x C sp) (hr : Room (k + 1) X.A) (hx : Passes CX X E) (ha : PA X (e :: es) t) (hg : Gl X x := by rfl) (hdb : (x == ("__debug__" : Str)) = false := by decide)
    (he : starEach (e :: es) X.env = (false, eval e X.env) :: starEach es X.env := by rfl) (hpl : (backTo pos (starEach es X.env)).any (·.1) = false := by rfl) : PE X (.Call (.Name x p) (e :: es) [] pos) (tCall sp [] E t) := by
  obtain ⟨f, fd, ps, sp0, hm, M, hb, F, cv⟩ := D.ex
  refine ⟨fun pins s σ H Q I h => ?_⟩
  refine wpAny_Call_Name_kw (ld_glob I hg hm ?_ hdb)
  refine PySem.W.callWith_K (h₀ := X.base) I.ok.mod.kin M.kp (thn (ha.run pos pins s σ H _ I h) fun us s1 ⟨vs, H1, I1, r, q⟩ => ⟨I1.kIn, ?_⟩) he hpl
  refine run_make M F hr hb .nil hx I1 r fun a da n1 n2 n3 => ?_
  have q : sp (vs ++ []) H1 Q E := q
  rw [List.append_nil] at q ⊢
  exact cv vs H1 Q E q a da n1 n2 n3
end
/-- a method with defaults, all parameters given -/
structure MAtD (K : PySem.W.Frag) (C : Addr) (m qual : Str) (st : Stmt) (dvs : List V) : Prop where
  ex : ∃ f fd, PySem.W.findIn K (.ref C) m = some (some (.ref f)) ∧ PySem.W.isFn K (.ref f) = true ∧ FunD K m qual (defArgs st) (defBody st) (defScope st) dvs [] f fd
section
variable {P : Program} {w : World} {K : PySem.W.Frag} {mg : Str → Option Value} {base : Heap} {CX : CXT} {k : Nat} {C : Addr} {x qual : Str} {ps N : List Str} {sp sp0 : Sp} {st : Stmt} {dvs : List V}
/-- C(..) by its __init__ -/
structure CMk (P : Program) (w : World) (K : PySem.W.Frag) (mg : Str → Option Value) (base : Heap) (CX : CXT) (k : Nat) (x : Str) (C : Addr) (sp : Sp) (ps : List Str) (qual : Str) (st : Stmt) (dvs : List V) : Prop where
  ex : ∃ f fd sp0, mg x = some (.ref C) ∧ Mk K C f ∧ Binds K fd ps [] ∧ FnOk P w K mg base CX k f fd ps sp0 ∧ Conv C sp0 sp ∧ FunD K "__init__" qual (defArgs st) (defBody st) (defScope st) dvs [] f fd
theorem CMk.cdef (D : CMk P w K mg base CX k x C sp ps qual st dvs) : CDef P w K mg base CX k x C sp := by
  obtain ⟨f, fd, sp0, a, b, c, d, e, _⟩ := D.ex
  exact ⟨f, fd, ps, sp0, a, b, c, d, e⟩
/-- C(..) by its __init__, that lets nothing out; h: how the arguments bind where all are given -/
theorem MAtD.make (F : MAtD K C "__init__" qual st dvs) (cf : ClsF K mg x C) (S : FnScope N ps (defScope st)) (hd : dvs ≠ [])
    (hb : ∀ (T : Addr) (kV doc pm : Value) (an : Option Addr) (cdv ct : Value) (us its : List Value), us.length = ps.length → its.length = dvs.length →
      ∃ k, bindArgs (PySem.W.fnOf "__init__" qual (defArgs st) (defBody st) (defScope st) (.ref T) kV doc pm an cdv ct) ⟨us, []⟩ = seqItems? (.ref T) >>= k ∧ k (some its.toArray) = pure (ps.zip (us ++ its.drop dvs.length)))
    (len : ∀ vs H Q E, sp0 vs H Q E → vs.length = ps.length) (cv : Conv C sp0 sp)
    (hbody : ∀ (f : Addr) (cdv : Value) (A : Around) (outer : List Env) (s : Shared) (H : Hp) (vs : List V) (Q : VK) (E : XK), Room k (A.deeper (PyProof.Rows.envOfC qual (defScope st) s.heap.objs.size f cdv)) → sp0 vs H Q E →
      ∃ t, PSs (cxOf CX0 P w K mg base N qual (defScope st) f cdv A outer s H E).nox (defBody st) t ∧ t { nx := fun _ H' => Q .non H', rt := Q } (start N vs) H) : CMk P w K mg base CX0 (k + 1) x C sp ps qual st dvs := by
  obtain ⟨f, fd, h1, h2, F⟩ := F.ex
  have B : Binds K fd ps [] := by
    obtain ⟨ds, r, b⟩ := F.binds1 (ps := ps) ps.length dvs.length hd (by omega) fun T kV doc pm an cdv ct us its l1 l2 => hb T kV doc pm an cdv ct us its l1 l2
    rw [List.drop_of_length_le (Nat.le_refl _)] at r
    cases r
    exact b
  refine ⟨f, fd, sp0, cf.at, ⟨cf.mks, h1, h2, cf.kp⟩, B, F.ok S len fun cdv A outer s H vs Q E hr h => ?_, cv, F⟩
  obtain ⟨t, a, b⟩ := hbody f cdv A outer s H vs Q E hr h
  exact ⟨t, a.nox, b⟩
theorem CDef.mono {j : Nat} (D : CDef P w K mg base CX j x C sp) (h : j ≤ k) : CDef P w K mg base CX k x C sp := by
  obtain ⟨f, fd, ps, sp0, a, b, c, d, e⟩ := D.ex
  exact ⟨f, fd, ps, sp0, a, b, c, d.mono h, e⟩
end
end Cw
set_option Elab.async false
set_option linter.all false
set_option maxRecDepth 100000
set_option maxHeartbeats 4000000
/-! enumerate(text) -/
namespace Cw
open PySem PySem.Spec L2
def Itx (l : List Nat) : It := ⟨fun i _ => i < l.length, fun i H v H' => ∃ T c, v = .ref T ∧ H T = none ∧ H' = upd H T (.tup [.int (i : Nat), .str (tx [c])]) ∧ l[i]? = some c, fun i _ => l.length ≤ i⟩
theorem turn_enumS {P : Program} {w : World} {K : PySem.W.Frag} {elts : List Expr} {kk : Nat} {tpos : PySem.Pos} (l : List Nat) (t : Tok) (e it : Addr) (hne : e ≠ it) :
    Turn P w K (.Tuple elts kk tpos) (Itx l) [e, it] e (fun i h => i ≤ l.length ∧ (∃ old, IsEnum h e it (i : Nat) old) ∧ h.IsStrIter it (strIterType (tx l)) (tx l) t i) where
  mem := by simp
  obj := fun i h st b hb => by
    obtain ⟨_, ⟨old, he⟩, ⟨o, ho, hc, hd⟩⟩ := st
    simp only [List.mem_cons, List.not_mem_nil, or_false] at hb
    rcases hb with z | z
    · subst z; exact ⟨_, he, fun v q => nomatch q⟩
    · subst z; exact ⟨o, ho, fun v q => by rw [hd] at q; cases q⟩
  keep := fun i h h' st k => by
    obtain ⟨a, ⟨old, he⟩, ⟨o, ho, r⟩⟩ := st
    exact ⟨a, ⟨old, k e (by simp) _ he⟩, ⟨o, k it (by simp) o ho, r⟩⟩
  item := by
    intro X hP hw hK hc i pins s σ H E I hf st hg
    subst hP hw hK
    obtain ⟨hi, st⟩ := st
    have hg : i < l.length := hg
    have W := WalksT.enumerateD (A := X.A) (Draws.text (prog := X.prog) (w := X.w) (A := X.A.in1) (I.ok.hd hc) it (tx l) t) e hne (by simp [hne]) (by simp)
    have hel : e < s.heap.objs.size := by obtain ⟨⟨_, he⟩, _⟩ := st; exact Heap.lt_size he
    have hil : it < s.heap.objs.size := by obtain ⟨_, ⟨_, q, _⟩⟩ := st; exact Heap.lt_size q
    refine W.item i s _ E (by simpa using hg) st fun T vals h' tk hv hT isT mid kp => ⟨_, rfl, W.go elts kk tpos i T { s with heap := h', toks := tk } _ E mid fun h2 st2 kp2 => ?_⟩
    obtain ⟨t', x, hx, rfl⟩ := hv
    obtain ⟨c, u, hc', rfl⟩ := hx
    have hTw := W.apart i T h' mid
    obtain ⟨o, ho, r⟩ := isT
    have isT2 : h2.IsTuple T #[.int i t', .str ⟨#[c]⟩ u] := ⟨o, kp2 T o hTw ho, r⟩
    have new : ObjOk X.prog X.w (upd H T (.tup [.int (i : Nat), .str (tx [c])])) h2 T (.tup [.int (i : Nat), .str (tx [c])]) := ⟨by show 2 ≤ sizeLine; decide, [.int i t', .str ⟨#[c]⟩ u], .cons ⟨_, rfl⟩ (.cons ⟨_, rfl⟩ .nil), isT2⟩
    refine ⟨.ref T, _, I.turnedNew (ch := [e, it]) (t' := tk) (fun b ob hb q => kp2 b ob hb (kp b ob hb q)) hf hT new, rfl, ⟨T, c, rfl, I.hok.fresh hT, rfl, by simpa using hc'⟩, ⟨hg, st2⟩, fun b hb => ?_⟩
    have hb2 : b < T := by
      simp only [List.mem_cons, List.not_mem_nil, or_false] at hb
      rcases hb with z | z
      · rw [z]; exact Nat.lt_of_lt_of_le hel hT
      · rw [z]; exact Nat.lt_of_lt_of_le hil hT
    rw [upd_ne (Nat.ne_of_lt hb2)]
    exact (hf b hb).1
  done := by
    intro X hP hw hK hc i pins s σ H E I hf st hg
    subst hP hw hK
    obtain ⟨hi, st⟩ := st
    have hg : l.length ≤ i := hg
    have e1 : i = (tx l).cps.size := by
      have : (tx l).cps.size = l.length := by simp
      omega
    subst e1
    have W := WalksT.enumerateD (A := X.A) (Draws.text (prog := X.prog) (w := X.w) (A := X.A.in1) (I.ok.hd hc) it (tx l) t) e hne (by simp [hne]) (by simp)
    exact W.done s _ E st fun h' tk kp => ⟨rfl, I.turnedL kp hf⟩
  self := fun A i s Q E st h => by
    obtain ⟨_, ⟨_, he⟩, _⟩ := st
    exact wpAny_pyIter_enum he h
def iEnumS (ta : TA) : TI := fun σ H R => ta σ H fun vs H1 => ∃ l : List Nat, vs = [.str (tx l)] ∧ R (Itx l) H1
theorem pi_enumS {X : Cx} {e : Expr} {ta : TA} {p pos tpos : PySem.Pos} {elts : List Expr} {kk : Nat} (hg : Gl X "enumerate") (hm : X.mg "enumerate" = none) (ha : PA X [e] ta) (hs : starEach [e] X.env = [(false, eval e X.env)] := by rfl) :
    PI X (.Tuple elts kk tpos) (.Call (.Name "enumerate" p) [e] [] pos) (iEnumS ta) := by
  refine ⟨fun pins s σ H R I h => ?_⟩
  refine PyProof.Rows.Call_ (ld_blt I hg hm PyProof.Rows.boot_enumerate (PyProof.Rows.callWith_type1 (thn (ha.run pos pins s σ H _ I h) fun us s1 ⟨vs, H1, I1, r1, l, ex, q⟩ => ?_) hs rfl))
  subst ex
  obtain ⟨u, rfl, t, rfl⟩ := vals1 r1
  refine call_enumerate_str fun h' he hit hsz hk => wpAny_pyIter_enum he ?_
  have I2 : L2.Inv X pins σ H1 { s1 with heap := h' } := I1.kept (t' := s1.toks) hk
  refine ⟨s1.heap.objs.size + 1, [s1.heap.objs.size + 1, s1.heap.objs.size], _, _, H1, rfl, I2, turn_enumS l t (s1.heap.objs.size + 1) s1.heap.objs.size (Nat.succ_ne_self _), ⟨Nat.zero_le _, ⟨.none, he⟩, hit⟩, fun b hb => ?_, q⟩
  have hle : s1.heap.objs.size ≤ b := by
    simp only [List.mem_cons, List.not_mem_nil, or_false] at hb
    rcases hb with z | z
    · rw [z]; exact Nat.le_succ _
    · rw [z]; exact Nat.le_refl _
  exact I1.fpOk hle (I1.hok.fresh hle)
theorem walk_enumS (l : List Nat) : Walk (Itx l) l.length (fun _ => True) (fun i H v H' => ∃ T c, v = .ref T ∧ H T = none ∧ H' = upd H T (.tup [.int (i : Nat), .str (tx [c])]) ∧ l[i]? = some c) :=
  ⟨fun _ _ hi _ => hi, fun _ _ => Nat.le_refl _, fun _ _ _ _ _ _ y => y⟩
section
variable {σ : St} {H : Hp}
theorem e_iEnumS {ta : TA} {R : It → Hp → Prop} (q : ta σ H fun vs H1 => ∃ l : List Nat, vs = [.str (tx l)] ∧ R (Itx l) H1) : iEnumS ta σ H R := q
theorem v_iEnumS {P : List Nat → Prop} {l : List Nat} (q : P l) : ∃ l' : List Nat, [V.str (tx l)] = [.str (tx l')] ∧ P l' := ⟨l, rfl, q⟩
end
end Cw
set_option Elab.async false
set_option linter.all false
set_option maxRecDepth 100000
set_option maxHeartbeats 4000000
/-! pairs of a number and a text, compared -/
namespace Cw
open PySem PySem.Spec L2
section
variable {X : Cx} {op : CmpOp} {ri : Int → Int → Bool} {rs : List Nat → List Nat → Bool} {z : Bool}
end
end Cw
set_option Elab.async false
set_option linter.all false
set_option maxRecDepth 100000
set_option maxHeartbeats 4000000
/-! names: one step, as a plain function -/
namespace Cw
open PySem PySem.Spec L2
/-- the name (turned about) without its last letters out of part, and these -/
def splitB (part : List Nat) : List Nat → List Nat → List Nat × List Nat
  | [], b => ([], b)
  | x :: r, b => if x ∈ part then splitB part r (x :: b) else (x :: r, b)
def putIn (k : Nat) (b : List Nat) : List Nat := b.takeWhile (fun c => decide (c < k)) ++ k :: b.dropWhile (fun c => decide (c < k))
def stepAt (k : Nat) (ra b : List Nat) : List Nat := if ra.head? = some k then ra.tail.reverse ++ b else ra.reverse ++ putIn k b
def stepOf (part name : List Nat) (k : Nat) : List Nat := stepAt k (splitB part name.reverse []).1 (splitB part name.reverse []).2
def joinOf (ks : List Nat) (ps : List (List Nat)) (name way : List Nat) : List Nat := way.foldl (fun n k => stepOf (crossOf ks ps k) n k) name
def backOf (ks : List Nat) (ps : List (List Nat)) (name : List Nat) : List Nat := joinOf ks ps [] name.reverse
def wayOf (ks : List Nat) (ps : List (List Nat)) (name goal : List Nat) : List Nat := joinOf ks ps (backOf ks ps name) goal
theorem splitB_eq (part : List Nat) : ∀ ra b : List Nat, (splitB part ra b).1.reverse ++ (splitB part ra b).2 = ra.reverse ++ b
  | [], b => rfl
  | x :: r, b => by
    unfold splitB
    by_cases h : x ∈ part
    · rw [if_pos h, splitB_eq part r (x :: b), List.reverse_cons, List.append_assoc]
      rfl
    · rw [if_neg h]
theorem putIn_len (k : Nat) (b : List Nat) : (putIn k b).length = b.length + 1 := by
  unfold putIn
  have h : (b.takeWhile (fun c => decide (c < k)) ++ b.dropWhile (fun c => decide (c < k))).length = b.length := by rw [List.takeWhile_append_dropWhile]
  rw [List.length_append] at h
  rw [List.length_append, List.length_cons]
  omega
theorem putIn_mem {k c : Nat} {b : List Nat} (h : c ∈ putIn k b) : c = k ∨ c ∈ b := by
  unfold putIn at h
  rw [List.mem_append, List.mem_cons] at h
  rcases h with h | h | h
  · exact .inr (List.takeWhile_sublist _ |>.subset h)
  · exact .inl h
  · exact .inr (List.dropWhile_sublist _ |>.subset h)
theorem stepAt_len (k : Nat) (ra b : List Nat) : (stepAt k ra b).length ≤ ra.length + b.length + 1 := by
  unfold stepAt
  split
  · rw [List.length_append, List.length_reverse, List.length_tail]
    omega
  · rw [List.length_append, List.length_reverse, putIn_len]
    omega
theorem stepAt_mem {k c : Nat} {ra b : List Nat} (h : c ∈ stepAt k ra b) : c = k ∨ c ∈ ra.reverse ++ b := by
  unfold stepAt at h
  split at h
  · rw [List.mem_append, List.mem_reverse] at h
    rcases h with h | h
    · exact .inr (List.mem_append_left _ (List.mem_reverse.mpr (List.mem_of_mem_tail h)))
    · exact .inr (List.mem_append_right _ h)
  · rw [List.mem_append] at h
    rcases h with h | h
    · exact .inr (List.mem_append_left _ h)
    · rcases putIn_mem h with e | e
      · exact .inl e
      · exact .inr (List.mem_append_right _ e)
theorem stepOf_len (part name : List Nat) (k : Nat) : (stepOf part name k).length ≤ name.length + 1 := by
  have h := congrArg List.length (splitB_eq part name.reverse [])
  simp only [List.length_append, List.length_reverse, List.length_nil] at h
  have := stepAt_len k (splitB part name.reverse []).1 (splitB part name.reverse []).2
  unfold stepOf
  omega
theorem stepOf_mem {part name : List Nat} {k c : Nat} (h : c ∈ stepOf part name k) : c = k ∨ c ∈ name := by
  have := stepAt_mem h
  rw [splitB_eq, List.reverse_reverse, List.append_nil] at this
  exact this
theorem joinOf_len (ks : List Nat) (ps : List (List Nat)) : ∀ (way name : List Nat), (joinOf ks ps name way).length ≤ name.length + way.length
  | [], name => Nat.le_refl _
  | k :: r, name => by
    show (joinOf ks ps (stepOf (crossOf ks ps k) name k) r).length ≤ _
    have := joinOf_len ks ps r (stepOf (crossOf ks ps k) name k)
    have := stepOf_len (crossOf ks ps k) name k
    rw [List.length_cons]
    omega
theorem joinOf_mem {ks : List Nat} {ps : List (List Nat)} {c : Nat} : ∀ {way name : List Nat}, c ∈ joinOf ks ps name way → c ∈ name ∨ c ∈ way
  | [], name, h => .inl h
  | k :: r, name, h => by
    rcases joinOf_mem (way := r) (name := stepOf (crossOf ks ps k) name k) h with z | z
    · rcases stepOf_mem z with e | e
      · exact .inr (e ▸ List.mem_cons_self ..)
      · exact .inl e
    · exact .inr (List.mem_cons_of_mem _ z)
theorem joinOf_snoc {ks : List Nat} {ps : List (List Nat)} {name way : List Nat} {k : Nat} : joinOf ks ps name (way ++ [k]) = stepOf (crossOf ks ps k) (joinOf ks ps name way) k := by
  unfold joinOf
  rw [List.foldl_append]
  rfl
theorem backOf_len (ks : List Nat) (ps : List (List Nat)) (name : List Nat) : (backOf ks ps name).length ≤ name.length := by
  have := joinOf_len ks ps name.reverse []
  rw [List.length_reverse, List.length_nil] at this
  unfold backOf
  omega
/-! ### letters at their places -/
theorem at_last {x : Nat} {r b : List Nat} : atI ((x :: r).reverse ++ b) (((x :: r).length : Int) - 1) = some x := by
  have e : (((x :: r).length : Int) - 1) = ((r.length : Nat) : Int) := by
    rw [List.length_cons]
    omega
  rw [e]
  refine atI_nat ?_
  rw [List.reverse_cons, List.append_assoc, List.getElem?_append_right (by rw [List.length_reverse]; exact Nat.le_refl _), List.length_reverse, Nat.sub_self]
  rfl
theorem at_mid {x : Nat} {a b : List Nat} : atI (a ++ x :: b) ((a.length : Nat) : Int) = some x := by
  refine atI_nat ?_
  rw [List.getElem?_append_right (Nat.le_refl _), Nat.sub_self]
  rfl
theorem lt_one {a k : Nat} : decide ([a] < [k]) = decide (a < k) := by
  refine decide_eq_decide.mpr ⟨fun h => ?_, fun h => List.Lex.rel h⟩
  cases h with
  | rel h => exact h
  | cons h => cases h
section
variable {σ : St} {H : Hp} {tb : TS} {D : Ends} {tt : TT}
theorem g_nm {i : Nat} {v : V} {Q : St → Hp → Prop} (q : Q (σ.set i (some v)) H) : gName i v σ H Q := q
theorem s_while (W : Nat → St → Hp → Prop) (m : Nat) (h0 : W m σ H) (hs : ∀ m σ H, W m σ H → tt σ H fun b H1 => if b = true then ∃ N : St → Hp → Prop, (∀ σ' H', N σ' H' → ∃ m', m' < m ∧ W m' σ' H') ∧ tb { D with nx := N, ct := N, bk := D.nx } σ H1 else D.nx σ H1) : tWhile tt tb D σ H := ⟨W, ⟨m, h0⟩, hs⟩
theorem v_turn {W : Nat → St → Hp → Prop} {m : Nat} (q : tb { D with nx := fun σ' H' => ∃ m', m' < m ∧ W m' σ' H', ct := fun σ' H' => ∃ m', m' < m ∧ W m' σ' H', bk := D.nx } σ H) : ∃ N : St → Hp → Prop, (∀ σ' H', N σ' H' → ∃ m', m' < m ∧ W m' σ' H') ∧ tb { D with nx := N, ct := N, bk := D.nx } σ H := ⟨_, fun _ _ h => h, q⟩
end
section
variable {H : Hp} {Q : VK} {K : PySem.W.Frag} {p q : Addr}
theorem ok_strs {ls : List (List Nat)} (h : ∀ l ∈ ls, ∀ c ∈ l, c < 1000) : ∀ x ∈ ls.map tx, PyData.strOk x = true := by
  intro x hx
  obtain ⟨l, hl, rfl⟩ := List.mem_map.mp hx
  exact ok_tx (h l hl)
theorem map_tx_inj {a b : List (List Nat)} : a.map tx = b.map tx ↔ a = b := by
  constructor
  · intro h
    induction a generalizing b with
    | nil => cases b with
      | nil => rfl
      | cons y b => cases h
    | cons x a ih => cases b with
      | nil => cases h
      | cons y b =>
        rw [List.map_cons, List.map_cons] at h
        injection h with h1 h2
        rw [tx_inj.mp h1, ih h2]
  · intro h
    rw [h]
theorem strsV_map (ls : List (List Nat)) : strsV ls = (ls.map tx).map V.str := by
  unfold strsV
  rw [List.map_map]
  rfl
theorem v_eqT {a b : List (List Nat)} (h1 : H p = some (.tup (strsV a))) (h2 : H q = some (.tup (strsV b))) (ha : ∀ l ∈ a, ∀ c ∈ l, c < 1000) (hb : ∀ l ∈ b, ∀ c ∈ l, c < 1000) (k : Q (.bl (decide (a = b))) H) : rEqD K (.ref p) (.ref q) H Q := by
  rw [strsV_map] at h1 h2
  refine ⟨.tuple ((a.map tx).map PyData.str), .tuple ((b.map tx).map PyData.str), .tup (SqT.of h1) (dp_strs _), .tup (SqT.of h2) (dp_strs _), shaped_strsT _ (ok_strs ha), shaped_strsT _ (ok_strs hb), ?_⟩
  have e : PyData.eqv (.tuple ((a.map tx).map PyData.str)) (.tuple ((b.map tx).map PyData.str)) = decide (a = b) := by
    show PyData.eqvAll _ _ = _
    rw [eqvAll_strs, decide_eq_decide]
    exact map_tx_inj
  rw [e]
  exact k
end
end Cw
set_option Elab.async false
set_option linter.all false
set_option maxRecDepth 100000
set_option maxHeartbeats 4000000
/-! errors of one's own without values -/
namespace Cw
open PySem PySem.Spec L2
/-- an error class of the text, down from ValueError, without an __init__ -/
structure ExcF (K : PySem.W.Frag) (mg : Str → Option Value) (x : Str) (C : Addr) : Prop where
  «at» : mg x = some (.ref C)
  exc : PySem.W.excIn K C [.type "ValueError", .type "Exception", .type "BaseException", .type "object"] "ValueError.__new__" = true
  kp : PySem.W.keepIn K (.ref C) = true
  ty : PySem.W.typeIn K (.ref C) = some (.type "type")
  ec : ExcC K C
section
variable {X : Cx} {C : Addr} {x : Str} {p pos : PySem.Pos}
theorem pmk_own0 (F : ExcF X.K X.mg x C) (hg : Gl X x := by rfl) (hdb : (x == ("__debug__" : Str)) = false := by decide) : PMk X (.Call (.Name x p) [] [] pos) (fun _ H Q => Q (.ref C) none H) := by
  intro pins s σ H Q I h
  refine PySem.wpAny_Call_Name_kw (ld_glob I hg F.at ?_ hdb)
  refine PySem.W.callWith_K0 I.kIn F.kp ?_
  show wpAny _ _ (call (.ref C) []) _ _ _
  obtain ⟨bm, N, nm, qn, bs, hdct, sn, sub, ab, col, dd, k0, k1, k2, k3, k5, mN, hC, hN, hni, T⟩ := exc_obj I.kIn F.exc
  refine wpAny_call_exc_subT PySem.F.excBase_ValueError T hC hN hni (fun h' e hm => ?_) (Nat.zero_le _)
  exact mk_of I hm (raises_own F.ec.hs F.ty) h (I.hok.gone hm.new)
end
theorem v_gTup2 {K : PySem.W.Frag} {n i j : Nat} {σ : St} {H : Hp} {Q : St → Hp → Prop} {p : Addr} {a b : V} (hn : n = 2) (h : H p = some (.tup [a, b])) (q : Q ((σ.set i (some a)).set j (some b)) H) : gTup K n (gCons (gName i) (gCons (gName j) gNil)) (.ref p) σ H Q :=
  ⟨p, _, rfl, SqT.of h, hn.symm, a, [b], rfl, b, [], rfl, rfl, q⟩
theorem e_md {C : Addr} {m : Str} {sp : Sp} {E : XK} {ta : TE} {t : TA} {σ : St} {H : Hp} {Q : VK} (q : ta σ H fun x H1 => ∃ a dx fs, x = .ref a ∧ H1 a = some (.ins C dx fs) ∧ fs.lookup m = none ∧ t σ H1 fun vs H2 => sp (x :: vs) H2 Q E) : tMeth C m sp [] E ta t σ H Q := by
  have e : tMeth C m sp [] E ta t = fun σ H Q => ta σ H fun x H1 => ∃ a dx fs, x = .ref a ∧ H1 a = some (.ins C dx fs) ∧ fs.lookup m = none ∧ t σ H1 fun vs H2 => sp (x :: vs) H2 Q E := by
    unfold tMeth
    simp only [List.append_nil]
  rw [e]
  exact q
theorem v_md {P : Addr → Prop} {C a dx : Addr} {fs : List (Str × V)} {m : Str} {H : Hp} (h : H a = some (.ins C dx fs)) (hn : fs.lookup m = none) (q : P a) : ∃ a' dx fs, V.ref a = .ref a' ∧ H a' = some (.ins C dx fs) ∧ fs.lookup m = none ∧ P a' := ⟨a, dx, fs, rfl, h, hn, q⟩
/-- a suite that is walked only where q holds -/
theorem pss_given {X : Cx} {b : List Stmt} {t : TS} {q : Prop} (h : q → PSs X b t) : PSs X b (fun D σ H => q ∧ t D σ H) := by
  by_cases e : q
  · exact ⟨fun pins s σ H D I z => (h e).run pins s σ H D I z.2⟩
  · exact ⟨fun pins s σ H D I z => absurd z.1 e⟩
end Cw
set_option Elab.async false
set_option linter.all false
set_option maxRecDepth 100000
set_option maxHeartbeats 4000000
/-! what the laws' own helpers need: copies of dicts, pop, several names at once, walks over dicts -/
namespace Cw
open PySem PySem.Spec L2
section
variable {σ : St} {H : Hp} {Q : VK} {D : Ends} {K : PySem.W.Frag} {X : Cx}
theorem v_listD {a : Addr} {kvs : List (Key × V)} (h : H a = some (.dK kvs)) (q : ∀ p H', H p = none → Same H H' → H' p = some (.lst (kvs.map fun kv => kV kv.1)) → Q (.ref p) H') : rListD [.ref a] H Q := ⟨a, kvs, rfl, h, fun p hp => q p _ hp (Same.new hp) upd_same⟩
theorem pe_popK {o e : Expr} {to te : TE} {apos cpos : PySem.Pos} (h : X.K = K) (ho : PE X o to) (he : PE X e te) (hbase : attributeBase o "pop" X.env (eval o X.env) = eval o X.env := by rfl)
    (hfew : ((backTo cpos (starEach [e] X.env)).all (fun x => !x.1) && (backToKw cpos (keywordEach [] X.env)).all (fun x => x.1.isSome) && decide ([e].length + ([] : List Keyword).length + (if ([] : List Keyword).isEmpty then 0 else 1) < 30)) = true := by rfl)
    (hline : (apos.endLine == cpos.line) = true := by rfl) (hs : starEach [e] X.env = (false, eval e X.env) :: starEach [] X.env := by rfl) (hplain : (backTo cpos (starEach [] X.env)).any (·.1) = false := by rfl) :
    PE X (.Call (.Attribute o "pop" apos) [e] [] cpos) (tBM K "list" rPopAt to (tCons te tNil)) := h ▸ pe_bm PySem.F.plainAttrs_list PySem.F.slot_list_pop PySem.F.type_list_pop mt_popAt ho (pa_cons he pa_nil hs) hbase hfew hline hs hplain
theorem v_pop {p : Addr} {xs : List V} {i : Int} {y : V} (h : H p = some (.lst xs)) (h0 : 0 ≤ i) (h1 : i < xs.length) (h2 : xs.length ≤ 1000000) (hy : xs[i.toNat]? = some y) (q : ∀ H', Keep p H H' → H' p = some (.lst (xs.eraseIdx i.toNat)) → Q y H') : rPopAt (.ref p) [.int i] H Q := by
  refine ⟨p, xs, i, i.toNat, y, rfl, rfl, h, by omega, by omega, ?_, hy, q _ Keep.put upd_same⟩
  unfold seqIndex?
  simp only [if_neg (show ¬ i < 0 by omega)]
  first
    | rw [if_pos (by omega)]
    | simp [h0, h1]
theorem e_par {i j : Nat} {ta : TA} (q : ta σ H fun vs H1 => ∃ v w, vs = [v, w] ∧ D.nx ((σ.set i (some v)).set j (some w)) H1) : tPar i j ta D σ H := q
theorem v_par {v w : V} {P : V → V → Prop} (q : P v w) : ∃ v' w', [v, w] = [v', w'] ∧ P v' w' := ⟨v, w, rfl, q⟩
theorem e_par3 {i j l : Nat} {ta : TA} (q : ta σ H fun vs H1 => ∃ u v w, vs = [u, v, w] ∧ D.nx (((σ.set i (some u)).set j (some v)).set l (some w)) H1) : tPar3 i j l ta D σ H := q
theorem v_par3 {u v w : V} {P : V → V → V → Prop} (q : P u v w) : ∃ u' v' w', [u, v, w] = [u', v', w'] ∧ P u' v' w' := ⟨u, v, w, rfl, q⟩
theorem e_lock {t : TS} {d : Addr} {u : HO} (h : H d = some u) (m : Mut (some u)) (q : ∀ od, t ⟨fun σ' H' => H' d = some (.frz od u) ∧ D.nx σ' (upd H' d u), fun v H' => H' d = some (.frz od u) ∧ D.rt v (upd H' d u), fun σ' H' => H' d = some (.frz od u) ∧ D.bk σ' (upd H' d u), fun σ' H' => H' d = some (.frz od u) ∧ D.ct σ' (upd H' d u)⟩ σ (upd H d (.frz od u))) : tLock t D σ H := ⟨d, u, h, m, q⟩
theorem e_iK {td : TE} {R : It → Hp → Prop} (q : td σ H fun x H1 => ∃ d o, x = .ref d ∧ ((∃ kvs, H1 d = some (.frz o (.dK kvs)) ∧ R (Itk d o kvs) H1) ∨ ∃ kvs, H1 d = some (.frz o (.dT kvs)) ∧ R (Itkt d o kvs) H1)) : iKeys td σ H R := q
theorem e_dnotin {ty td : TE} (q : ty σ H fun y H1 => td σ H1 fun x H2 => ∃ a o, x = .ref a ∧ DGet H2 a y o ∧ Q (.bl (!o.isSome)) H2) : tDNotIn ty td σ H Q := q
end
theorem erase_perm {α : Type} : ∀ (l : List α) (i : Nat) (h : i < l.length), (l[i] :: l.eraseIdx i).Perm l
  | x :: r, 0, _ => .refl _
  | x :: r, i + 1, h => by
    have h' : i < r.length := by simpa using h
    have ih := erase_perm r i h'
    show (r[i] :: x :: r.eraseIdx i).Perm (x :: r)
    exact (List.Perm.swap x _ _).trans (ih.cons x)
theorem erase_map {α β : Type} (f : α → β) : ∀ (l : List α) (i : Nat), (l.map f).eraseIdx i = (l.eraseIdx i).map f
  | [], _ => rfl
  | x :: r, 0 => rfl
  | x :: r, i + 1 => by
    show f x :: (r.map f).eraseIdx i = f x :: (r.eraseIdx i).map f
    rw [erase_map f r i]
/-! ### tables by letters -/
def tabKV (ls : List Nat) (f : Nat → List Nat) : List (Key × V) := ls.map fun c => ((Sum.inr (tx [c]) : Key), V.str (tx (f c)))
structure Tab (ls : List Nat) (f : Nat → List Nat) : Prop where
  nd : ls.Nodup
  lt : ∀ c ∈ ls, c ∈ LET
  len : ls.length ≤ 8
  sub : ∀ a ∈ ls, ∀ b ∈ f a, b ∈ ls ∧ b ≠ a ∧ a ∈ f b
  gl : ∀ a ∈ ls, (f a).length ≤ 8
def tabPairs (ls : List Nat) (f : Nat → List Nat) : List (List Nat) := pairsOf (ls.flatMap fun a => (f a).map fun b => ascOf [a, b])
theorem tab_get {H : Hp} {d : Addr} {ls : List Nat} {f : Nat → List Nat} {k : Nat} (h : H d = some (.dK (tabKV ls f))) (hk : k ∈ ls) : DGet H d (.str (tx [k])) (some (.str (tx (f k)))) := dget_let (g := fun c => V.str (tx (f c))) h hk
theorem tab_getF {H : Hp} {d : Addr} {o : Obj} {ls : List Nat} {f : Nat → List Nat} {k : Nat} (h : H d = some (.frz o (.dK (tabKV ls f)))) (hk : k ∈ ls) : DGet H d (.str (tx [k])) (some (.str (tx (f k)))) :=
  .inl ⟨_, Sum.inr (tx [k]), .inr ⟨o, h⟩, rfl, (letV_some (g := fun c => V.str (tx (f c))) hk).symm⟩
theorem tab_keys (ls : List Nat) (f : Nat → List Nat) : ((tabKV ls f).map fun kv => kV kv.1) = ls.map fun c => V.str (tx [c]) := by
  unfold tabKV
  rw [List.map_map]
  rfl
theorem putTab {f : Nat → List Nat} {k : Nat} {z : List Nat} : ∀ {ls : List Nat}, k ∈ ls → putK (tabKV ls f) (Sum.inr (tx [k])) (V.str (tx z)) = tabKV ls (fun c => if c = k then z else f c) := by
  intro ls hk
  unfold putK
  have h1 : valV (tabKV ls f) (Sum.inr (tx [k])) = some (V.str (tx (f k))) := letV_some (g := fun c => V.str (tx (f c))) hk
  rw [if_pos (by rw [valV_any, h1]; rfl)]
  unfold tabKV
  rw [List.map_map]
  refine List.map_congr_left fun c _ => ?_
  show (if (Sum.inr (tx [c]) : Key) = Sum.inr (tx [k]) then _ else _) = _
  by_cases e : c = k
  · subst e
    rw [if_pos rfl]
    show (_, _) = (_, V.str (tx (if c = c then z else f c)))
    rw [if_pos rfl]
  · rw [if_neg (fun z => e (by have := key_tx.mp z; injection this))]
    show (_, _) = (_, V.str (tx (if c = k then z else f c)))
    rw [if_neg e]
theorem tab_put {H : Hp} {d : Addr} {ls : List Nat} {f : Nat → List Nat} {k : Nat} {z : List Nat} (h : H d = some (.dK (tabKV ls f))) (hk : k ∈ ls) (hl : ls.length < 1000000) : DPut H d (.str (tx [k])) (.str (tx z)) (upd H d (.dK (tabKV ls (fun c => if c = k then z else f c)))) := by
  have e := DPut.k (k := Sum.inr (tx [k])) (v := V.str (tx z)) h (szlt (by unfold tabKV; rw [List.length_map]; exact hl))
  rw [putTab hk] at e
  exact e
theorem tab_new {H : Hp} {d : Addr} {ls : List Nat} {f : Nat → List Nat} {k : Nat} (h : H d = some (.dK (tabKV ls f))) (hk : ¬ k ∈ ls) (hf : f k = []) (hl : ls.length < 1000000) : DPut H d (.str (tx [k])) (.str (tx [])) (upd H d (.dK (tabKV (ls ++ [k]) f))) := by
  have e := DPut.cross (l := [k]) (v := V.str (tx [])) h (letV_none (g := fun c => V.str (tx (f c))) hk) (by unfold tabKV; rw [List.length_map]; exact hl)
  have e2 : tabKV (ls ++ [k]) f = tabKV ls f ++ [((Sum.inr (tx [k]) : Key), V.str (tx []))] := by
    unfold tabKV
    rw [List.map_append]
    show _ ++ [((Sum.inr (tx [k]) : Key), V.str (tx (f k)))] = _
    rw [hf]
  rw [e2]
  exact e
theorem asc2_all : ∀ a ∈ LET, ∀ b ∈ LET, a < b → ascOf [a, b] = [a, b] ∧ ascOf [b, a] = [a, b] := by decide +kernel
theorem asc2 {a b : Nat} (ha : a ∈ LET) (hb : b ∈ LET) (h : a < b) : ascOf [a, b] = [a, b] ∧ ascOf [b, a] = [a, b] := asc2_all a ha b hb h
theorem pairsOf_small (f : List (List Nat)) : ∀ l ∈ pairsOf f, ∀ c ∈ l, c < 1000 := by
  intro l hl c hc
  obtain ⟨a, b, rfl, ha, hb, _⟩ := pairsOf_mem.mp hl
  have h1 := LET_lt ha
  have h2 := LET_lt hb
  simp only [List.mem_cons, List.not_mem_nil, or_false] at hc
  rcases hc with rfl | rfl <;> omega
end Cw
set_option Elab.async false
set_option linter.all false
set_option maxRecDepth 100000
set_option maxHeartbeats 4000000
/-! the drawn tables, in plain words -/
namespace Cw
open PySem PySem.Spec L2
def ABC : List (List Nat) := [[97, 98, 99, 100, 101, 102, 103, 104], [98, 100, 102, 104, 106, 108, 110, 112], [115, 116, 117, 118, 119, 120, 121, 122]]
def addRel (rel : Nat → Nat → Bool) (x y : Nat) : Nat → Nat → Bool := fun a b => rel a b || (a == x && b == y) || (a == y && b == x)
/-- which kinds cross: both ways, never with itself, kinds alone -/
structure RelOk (ls : List Nat) (rel : Nat → Nat → Bool) : Prop where
  sym : ∀ a b, rel a b = rel b a
  «in» : ∀ a b, rel a b = true → a ∈ ls ∧ b ∈ ls ∧ a ≠ b
/-- only pairs up to here -/
def Upto (ls : List Nat) (rel : Nat → Nat → Bool) (i j : Nat) : Prop := ∀ i1 j1, i1 < j1 → j1 < ls.length → rel (ls.getD i1 0) (ls.getD j1 0) = true → i1 < i ∨ (i1 = i ∧ j1 < j)
def crossBy (ls : List Nat) (rel : Nat → Nat → Bool) (c : Nat) : List Nat := ls.filter (rel c)
theorem getD_inj {ls : List Nat} (h : ls.Nodup) {i j : Nat} (hi : i < ls.length) (hj : j < ls.length) (e : ls.getD i 0 = ls.getD j 0) : i = j := by
  rw [List.getD_eq_getElem?_getD, List.getD_eq_getElem?_getD, List.getElem?_eq_getElem hi, List.getElem?_eq_getElem hj] at e
  exact (List.getElem_inj h).mp e
theorem filter_snoc {ls : List Nat} {p : Nat → Bool} {j : Nat} (hn : ls.Nodup) (hj : j < ls.length) (hz : ∀ j', j ≤ j' → j' < ls.length → p (ls.getD j' 0) = false) : ls.filter (fun c => p c || c == ls.getD j 0) = ls.filter p ++ [ls.getD j 0] := by
  have e : ls = ls.take j ++ ls.getD j 0 :: ls.drop (j + 1) := by
    rw [List.getD_eq_getElem?_getD, List.getElem?_eq_getElem hj]
    show ls = ls.take j ++ ls[j] :: ls.drop (j + 1)
    rw [← List.drop_eq_getElem_cons hj, List.take_append_drop]
  have hd : ∀ c ∈ ls.drop (j + 1), p c = false ∧ c ≠ ls.getD j 0 := by
    intro c hc
    obtain ⟨k, hk, e⟩ := List.mem_iff_getElem.mp hc
    rw [List.length_drop] at hk
    rw [List.getElem_drop] at e
    have hk2 : j + 1 + k < ls.length := by omega
    have e2 : ls.getD (j + 1 + k) 0 = c := by
      rw [List.getD_eq_getElem?_getD, List.getElem?_eq_getElem hk2]
      exact e
    refine ⟨e2 ▸ hz _ (by omega) hk2, fun z => ?_⟩
    have := getD_inj hn hk2 hj (e2.trans z)
    omega
  have ht : ∀ c ∈ ls.take j, c ≠ ls.getD j 0 := fun c hc z => take_notin hn hj (z ▸ hc)
  have hpy : p (ls.getD j 0) = false := hz j (Nat.le_refl _) hj
  generalize ls.getD j 0 = y at *
  have h1 : ls.filter (fun c => p c || c == y) = (ls.take j).filter p ++ [y] := by
    conv => lhs; rw [e]
    rw [List.filter_append, List.filter_cons_of_pos (by simp)]
    congr 1
    · refine List.filter_congr fun c hc => ?_
      have := ht c hc
      simp [this]
    · congr 1
      rw [List.filter_eq_nil_iff]
      intro c hc
      obtain ⟨a, b⟩ := hd c hc
      simp [a, b]
  have h2 : ls.filter p = (ls.take j).filter p := by
    conv => lhs; rw [e]
    rw [List.filter_append, List.filter_cons_of_neg (by rw [hpy]; decide)]
    have : (ls.drop (j + 1)).filter p = [] := by
      rw [List.filter_eq_nil_iff]
      intro c hc
      rw [(hd c hc).1]
      decide
    rw [this, List.append_nil]
  rw [h1, h2]
section
variable {ls : List Nat} {rel : Nat → Nat → Bool} {i j : Nat}
theorem tabStep (hn : ls.Nodup) (ok : RelOk ls rel) (hij : i < j) (hj : j < ls.length) (up : Upto ls rel i j) :
    ∀ c ∈ ls, (if c = ls.getD j 0 then (if ls.getD j 0 = ls.getD i 0 then crossBy ls rel (ls.getD i 0) ++ [ls.getD j 0] else crossBy ls rel (ls.getD j 0)) ++ [ls.getD i 0] else if c = ls.getD i 0 then crossBy ls rel (ls.getD i 0) ++ [ls.getD j 0] else crossBy ls rel c) = crossBy ls (addRel rel (ls.getD i 0) (ls.getD j 0)) c := by
  intro c hc
  have hi : i < ls.length := by omega
  have ne : ls.getD j 0 ≠ ls.getD i 0 := fun z => by have := getD_inj hn hj hi z; omega
  by_cases e1 : c = ls.getD j 0
  · subst e1
    rw [if_pos rfl, if_neg ne]
    unfold crossBy
    rw [← filter_snoc hn hi]
    · refine List.filter_congr fun b _ => ?_
      unfold addRel
      have e : (ls.getD j 0 == ls.getD i 0) = false := beq_eq_false_iff_ne.mpr ne
      rw [e]
      simp
    · intro j' h1 h2
      by_cases h3 : j' = j
      · subst h3
        cases z : rel (ls.getD j' 0) (ls.getD j' 0) with
        | false => rfl
        | true => exact absurd rfl (ok.in _ _ z).2.2
      · cases z : rel (ls.getD j 0) (ls.getD j' 0) with
        | false => rfl
        | true =>
          rcases Nat.lt_or_gt_of_ne h3 with h4 | h4
          · rw [ok.sym] at z
            have := up j' j h4 hj z
            omega
          · have := up j j' h4 h2 z
            omega
  · rw [if_neg e1]
    by_cases e2 : c = ls.getD i 0
    · subst e2
      rw [if_pos rfl]
      unfold crossBy
      rw [← filter_snoc hn hj]
      · refine List.filter_congr fun b _ => ?_
        unfold addRel
        have e : (ls.getD i 0 == ls.getD j 0) = false := beq_eq_false_iff_ne.mpr e1
        rw [e]
        simp
      · intro j' h1 h2
        cases z : rel (ls.getD i 0) (ls.getD j' 0) with
        | false => rfl
        | true =>
          have := up i j' (by omega) h2 z
          omega
    · rw [if_neg e2]
      unfold crossBy
      refine List.filter_congr fun b _ => ?_
      unfold addRel
      have a1 : (c == ls.getD i 0) = false := beq_eq_false_iff_ne.mpr e2
      have a2 : (c == ls.getD j 0) = false := beq_eq_false_iff_ne.mpr e1
      rw [a1, a2]
      simp
theorem RelOk.add (ok : RelOk ls rel) {x y : Nat} (hx : x ∈ ls) (hy : y ∈ ls) (ne : x ≠ y) : RelOk ls (addRel rel x y) where
  sym a b := by
    unfold addRel
    rw [ok.sym a b, Bool.or_assoc, Bool.or_assoc]
    congr 1
    rw [Bool.or_comm, Bool.and_comm, Bool.and_comm (a == x)]
  «in» a b h := by
    unfold addRel at h
    simp only [Bool.or_eq_true, Bool.and_eq_true, beq_iff_eq] at h
    rcases h with (h | ⟨rfl, rfl⟩) | ⟨rfl, rfl⟩
    · exact ok.in a b h
    · exact ⟨hx, hy, ne⟩
    · exact ⟨hy, hx, ne.symm⟩
theorem Upto.add (hn : ls.Nodup) (hij : i < j) (hj : j < ls.length) (up : Upto ls rel i j) : Upto ls (addRel rel (ls.getD i 0) (ls.getD j 0)) i (j + 1) := by
  intro i1 j1 h1 h2 h3
  unfold addRel at h3
  simp only [Bool.or_eq_true, Bool.and_eq_true, beq_iff_eq] at h3
  rcases h3 with (h | ⟨h4, h5⟩) | ⟨h4, h5⟩
  · have := up i1 j1 h1 h2 h
    omega
  · have a := getD_inj hn (by omega) (by omega) h4
    have b := getD_inj hn h2 hj h5
    omega
  · have a := getD_inj hn (by omega) hj h4
    have b := getD_inj hn h2 (by omega) h5
    omega
theorem Upto.more (up : Upto ls rel i j) : Upto ls rel i (j + 1) := fun i1 j1 h1 h2 h3 => by
  have := up i1 j1 h1 h2 h3
  omega
theorem Upto.turn {k : Nat} (up : Upto ls rel i j) (h : ls.length ≤ j) : Upto ls rel (i + 1) k := fun i1 j1 h1 h2 h3 => by
  have := up i1 j1 h1 h2 h3
  omega
end
theorem walk_rI {lo : Int} {n : Nat} (f : Nat → Int) (h : ∀ k : Nat, lo + (k : Int) = f k) : Walk (Itr lo n) n (fun _ => True) (YFn fun k => .int (f k)) :=
  walk_range.mono (fun _ h => h) fun i H x H' _ _ y => ⟨y.1, by show x = V.int (f i); rw [← h i]; exact y.2⟩
theorem at_getD {ls : List Nat} {i : Nat} (h : i < ls.length) : atI ls ((i : Nat) : Int) = some (ls.getD i 0) := by
  refine atI_nat ?_
  rw [List.getD_eq_getElem?_getD, List.getElem?_eq_getElem h]
  rfl
theorem tabKV_congr {ls : List Nat} {f g : Nat → List Nat} (h : ∀ c ∈ ls, f c = g c) : tabKV ls f = tabKV ls g := by
  unfold tabKV
  refine List.map_congr_left fun c hc => ?_
  rw [h c hc]
theorem ascOf_congr {a b : List Nat} (h : ∀ c, c ∈ a ↔ c ∈ b) : ascOf a = ascOf b := by
  unfold ascOf
  exact List.filter_congr fun c _ => decide_eq_decide.mpr (h c)
/-- the pairs that the laws tell a plan by -/
theorem tabPairs_eq {ls : List Nat} {f : Nat → List Nat} {ps : List (List Nat)} (T : Tab ls f) (h1 : ∀ p ∈ ps, ∃ a b, p = [a, b] ∧ a ∈ ls ∧ b ∈ f a) (h2 : ∀ a ∈ ls, ∀ b ∈ f a, a < b → [a, b] ∈ ps) : pairsOf (ps.map ascOf) = tabPairs ls f := by
  unfold tabPairs
  refine pairsOf_congr fun a b _ _ => ?_
  rw [List.mem_map, List.mem_flatMap]
  constructor
  · rintro ⟨p, hp, e⟩
    obtain ⟨x, y, rfl, hx, hy⟩ := h1 p hp
    exact ⟨x, hx, List.mem_map.mpr ⟨y, hy, e⟩⟩
  · rintro ⟨x, hx, hm⟩
    obtain ⟨y, hy, e⟩ := List.mem_map.mp hm
    obtain ⟨y1, y2, y3⟩ := T.sub x hx y hy
    by_cases h : x < y
    · exact ⟨_, h2 x hx y hy h, e⟩
    · have hlt : y < x := by omega
      refine ⟨_, h2 y y1 x y3 hlt, ?_⟩
      have := asc2 (T.lt y y1) (T.lt x hx) hlt
      rw [this.1, ← this.2]
      exact e
/-- a drawn table: a beginning of one of the three texts -/
structure Flr (num : Nat) (ls : List Nat) (rel : Nat → Nat → Bool) : Prop where
  cut : ∃ t ∈ ABC, ∃ m, 1 ≤ m ∧ m ≤ num ∧ ls = t.take m
  ok : RelOk ls rel
theorem abc_ok : ∀ t ∈ ABC, t.Nodup ∧ (∀ c ∈ t, c ∈ LET) ∧ t.length = 8 ∧ t.Pairwise (· < ·) := by decide +kernel
section
variable {num : Nat} {ls : List Nat} {rel : Nat → Nat → Bool}
theorem cut_nd (h : ∃ t ∈ ABC, ∃ m, 1 ≤ m ∧ m ≤ num ∧ ls = t.take m) : ls.Nodup := by
  obtain ⟨t, ht, m, h1, h2, rfl⟩ := h
  exact (List.take_sublist m t).nodup (abc_ok t ht).1
theorem cut_lt (h : ∃ t ∈ ABC, ∃ m, 1 ≤ m ∧ m ≤ num ∧ ls = t.take m) : ∀ c ∈ ls, c ∈ LET := by
  obtain ⟨t, ht, m, h1, h2, rfl⟩ := h
  exact fun c hc => (abc_ok t ht).2.1 c ((List.take_sublist m t).subset hc)
theorem cut_len (h : ∃ t ∈ ABC, ∃ m, 1 ≤ m ∧ m ≤ num ∧ ls = t.take m) : ls.length ≤ 8 ∧ ls.length ≤ num ∧ 1 ≤ ls.length := by
  obtain ⟨t, ht, m, h1, h2, rfl⟩ := h
  have := (abc_ok t ht).2.2.1
  rw [List.length_take]
  omega
theorem cut_lt' (h : ∃ t ∈ ABC, ∃ m, 1 ≤ m ∧ m ≤ num ∧ ls = t.take m) : ls.Pairwise (· < ·) := by
  obtain ⟨t, ht, m, h1, h2, rfl⟩ := h
  exact List.Pairwise.sublist (List.take_sublist m t) (abc_ok t ht).2.2.2
theorem Flr.tab (h : Flr num ls rel) : Tab ls (crossBy ls rel) where
  nd := cut_nd h.cut
  lt := cut_lt h.cut
  len := (cut_len h.cut).1
  sub a ha b hb := by
    obtain ⟨h1, h2⟩ := List.mem_filter.mp hb
    refine ⟨h1, (h.ok.in a b h2).2.2.symm, List.mem_filter.mpr ⟨ha, ?_⟩⟩
    rw [h.ok.sym]
    exact h2
  gl a ha := Nat.le_trans (List.length_filter_le _ _) (cut_len h.cut).1
end
end Cw
set_option Elab.async false
set_option linter.all false
set_option maxRecDepth 100000
set_option maxHeartbeats 4000000
/-! calls within a try; calls that raise nothing after all -/
namespace Cw
open PySem PySem.Spec L2
section
variable {P : Program} {w : World} {K : PySem.W.Frag} {mg : Str → Option Value} {base : Heap} {k : Nat} {f : Addr} {fd : FuncData} {ps : List Str} {sp : Sp}
/-- a promise whose wishes for errors are none -/
def calmOf (sp : Sp) : Sp := fun vs H Q _ => sp vs H Q fun _ _ _ => False
theorem calm_fn (F : FnOk P w K mg base (L2.CX P w) k f fd ps sp) : FnOk P w K mg base CX0 k f fd ps (calmOf sp) := by
  refine ⟨fun vs H Q E h => F.len _ _ _ _ h, fun A outer s H args us vs Q E hr e0 hb hv h => ?_⟩
  refine codeAny_mono (F.run A outer s H args us vs Q (fun _ _ _ => False) hr e0 hb hv h) fun r s' q => ?_
  cases r with
  | ok fl => cases fl <;> exact q
  | error e =>
    obtain ⟨a, B, H', cls, d, _, _, _, _, _, _, _, z⟩ := q
    exact z.elim
theorem Def.calm {x : Str} (D : Def P w K mg base (L2.CX P w) k x ps sp) : Def P w K mg base CX0 k x ps (calmOf sp) := by
  obtain ⟨f, fd, a, b, c, d⟩ := D.ex
  exact ⟨f, fd, a, b, c, calm_fn d⟩
theorem MDef.calm {C : Addr} {m : Str} (D : MDef P w K mg base (L2.CX P w) k C m ps sp) : MDef P w K mg base CX0 k C m ps (calmOf sp) := by
  obtain ⟨f, fd, a, b, c, d, e⟩ := D.ex
  exact ⟨f, fd, a, b, c, d, calm_fn e⟩
end
section
variable {X : Cx} {CX : CXT} {k : Nat} {C : Addr} {x m : Str} {ps : List Str} {sp : Sp} {E : St → XK} {p pos apos : PySem.Pos} {o e : Expr} {es : List Expr} {ta : TE} {t : TA}
def tMethS (C : Addr) (m : Str) (sp : Sp) (E : St → XK) (ta : TE) (t : TA) : TE := fun σ H Q => ta σ H fun x H1 => ∃ a dx fs, x = .ref a ∧ H1 a = some (.ins C dx fs) ∧ fs.lookup m = none ∧ t σ H1 fun vs H2 => sp (x :: vs) H2 Q (E σ)
end
/-- a try with one clause, its reading by name -/
def tTryA (K : PySem.W.Frag) (c : Value) (i : Nat) (ts : Addr → Value → Option Addr → TS) (Wout : WX) (tb : WX → TS) : TS := fun D σ H => tb (wAs K c i ts Wout D) D σ H
theorem e_tryA {K : PySem.W.Frag} {c : Value} {i : Nat} {ts : Addr → Value → Option Addr → TS} {Wout : WX} {tb : WX → TS} {D : Ends} {σ : St} {H : Hp} (q : tb (wAs K c i ts Wout D) D σ H) : tTryA K c i ts Wout tb D σ H := q
section
variable {σ : St} {H : Hp} {Q : VK} {C : Addr} {m : Str} {sp : Sp} {E : St → XK} {ta : TE} {t : TA}
theorem e_callS (q : t σ H fun vs H1 => sp vs H1 Q (E σ)) : tCallS sp E t σ H Q := q
theorem e_mdS (q : ta σ H fun x H1 => ∃ a dx fs, x = .ref a ∧ H1 a = some (.ins C dx fs) ∧ fs.lookup m = none ∧ t σ H1 fun vs H2 => sp (x :: vs) H2 Q (E σ)) : tMethS C m sp E ta t σ H Q := q
end
theorem s_asgT {te : TE} {K : PySem.W.Frag} {n : Nat} {t : TGs} {D : Ends} {σ : St} {H : Hp} (q : te σ H fun v H1 => gTup K n t v σ H1 fun σ' H' => D.nx σ' H') : tAsg te (gTup K n t) D σ H := q
theorem e_pr {tk tv : TE} {r : List (TE × TE)} {σ : St} {H : Hp} {Q : List (V × V) → Hp → Prop} (q : tk σ H fun x H1 => tv σ H1 fun y H2 => tPairs r σ H2 fun ps H3 => Q ((x, y) :: ps) H3) : tPairs ((tk, tv) :: r) σ H Q := q
theorem e_pr0 {σ : St} {H : Hp} {Q : List (V × V) → Hp → Prop} (q : Q [] H) : tPairs [] σ H Q := q
theorem e_disp {trs : List (TE × TE)} {σ : St} {H : Hp} {Q : VK} (q : ∀ p, H p = none → tPairs trs σ (upd H p (.dK [])) fun ps H2 => H2 p = some (.dK []) ∧ ∃ kvs : List (Key × V), ps = kvs.map (fun kv => (kV kv.1, kv.2)) ∧ kvs.length ≤ 15 ∧ Q (.ref p) (upd H2 p (.dK (mergeK [] kvs)))) : tDisp trs σ H Q := q
theorem sqL_same {K : PySem.W.Frag} {H H' : Hp} {a : Addr} {xs : List V} (h : SqL K H a xs) (s : Same H H') : SqL K H' a xs := by
  rcases h with (h | ⟨o, h⟩) | h
  · exact .inl (.inl (s _ _ h))
  · exact .inl (.inr ⟨o, s _ _ h⟩)
  · exact .inr h
theorem v_slL {K : PySem.W.Frag} {H : Hp} {Q : VK} {a : Addr} {xs : List V} {lo hi : Option Int} (h : SqL K H a xs) (q : ∀ p H', H p = none → Same H H' → H' p = some (.lst (cutV xs lo hi)) → Q (.ref p) H') : rSlL K (.ref a) lo hi H Q := ⟨a, xs, rfl, h, fun p hp => q p _ hp (Same.new hp) upd_same⟩
end Cw
set_option Elab.async false
set_option linter.all false
set_option maxRecDepth 100000
set_option maxHeartbeats 4000000
/-! plans that are not equal, in plain words -/
namespace Cw
open PySem PySem.Spec L2
/-- the end of a body, by a name: smaller goals -/
theorem s_hide {t : TS} {D0 : Ends} {σ : St} {H : Hp} (h : ∀ D : Ends, (∀ σ H, D0.nx σ H → D.nx σ H) → t D σ H) : t D0 σ H := h D0 fun _ _ z => z
theorem tabPairs_lt {ls : List Nat} {f : Nat → List Nat} (T : Tab ls f) {p : List Nat} (h : p ∈ tabPairs ls f) : ∃ a b, p = [a, b] ∧ a < b ∧ a ∈ ls ∧ b ∈ ls ∧ b ∈ f a := by
  obtain ⟨a, b, rfl, ha, hb, hm⟩ := pairsOf_mem.mp h
  obtain ⟨x, hx, hm⟩ := List.mem_flatMap.mp hm
  obtain ⟨y, hy, e⟩ := List.mem_map.mp hm
  obtain ⟨y1, y2, y3⟩ := T.sub x hx y hy
  by_cases hl : x < y
  · rw [(asc2 (T.lt x hx) (T.lt y y1) hl).1] at e
    injection e with e1 e2
    injection e2 with e2
    subst e1 e2
    exact ⟨_, _, rfl, hl, hx, y1, hy⟩
  · have hl : y < x := by omega
    rw [(asc2 (T.lt y y1) (T.lt x hx) hl).2] at e
    injection e with e1 e2
    injection e2 with e2
    subst e1 e2
    exact ⟨_, _, rfl, hl, y1, hx, y3⟩
section
variable {K : PySem.W.Frag} {H : Hp} {Q : VK} {p q : Addr} {n m : Int} {a b : List Nat}
end
end Cw
set_option Elab.async false
set_option linter.all false
set_option maxRecDepth 100000
set_option maxHeartbeats 4000000
/-! calls with keywords and with defaults, by where each parameter comes from -/
namespace Cw
open PySem PySem.Spec L2
/-- a parameter's value: the i-th that is given, a default, a keyword's -/
inductive Src where
  | pos (i : Nat)
  | dfl (i : Nat)
  | kw (i : Nat)
def Src.up : Src → Src
  | .pos i => .pos (i + 1)
  | .dfl i => .dfl i
  | .kw i => .kw i
def getS {α : Type} (us its ws : List α) : Src → Option α
  | .pos i => us[i]?
  | .dfl i => its[i]?
  | .kw i => ws[i]?
def gS (ss : List Src) {α : Type} (us its ws : List α) : List α := ss.filterMap (getS us its ws)
theorem vals_get : ∀ {vs : List V} {us : List Value}, Vals vs us → ∀ i : Nat, (vs[i]? = none ∧ us[i]? = none) ∨ ∃ v u, vs[i]? = some v ∧ us[i]? = some u ∧ RelV v u
  | _, _, .nil, i => .inl ⟨rfl, rfl⟩
  | _, _, .cons r t, 0 => .inr ⟨_, _, rfl, rfl, r⟩
  | _, _, .cons r t, i + 1 => by
    have := vals_get t i
    simpa using this
theorem gS_rel {vs ds zs : List V} {us its ws : List Value} (r1 : Vals vs us) (r2 : Vals ds its) (r3 : Vals zs ws) : ∀ ss : List Src, Vals (gS ss vs ds zs) (gS ss us its ws)
  | [] => .nil
  | s :: ss => by
    have ih := gS_rel r1 r2 r3 ss
    have key : (getS vs ds zs s = none ∧ getS us its ws s = none) ∨ ∃ v u, getS vs ds zs s = some v ∧ getS us its ws s = some u ∧ RelV v u := by
      cases s with
      | pos i => exact vals_get r1 i
      | dfl i => exact vals_get r2 i
      | kw i => exact vals_get r3 i
    unfold gS at ih ⊢
    rcases key with ⟨a, b⟩ | ⟨v, u, a, b, r⟩
    · rw [List.filterMap_cons_none a, List.filterMap_cons_none b]
      exact ih
    · rw [List.filterMap_cons_some a, List.filterMap_cons_some b]
      exact .cons r ih
theorem gS_up {α : Type} {x : α} {vs ds zs : List α} : ∀ ss : List Src, gS (.pos 0 :: ss.map Src.up) (x :: vs) ds zs = x :: gS ss vs ds zs := by
  intro ss
  unfold gS
  rw [List.filterMap_cons_some (show getS (x :: vs) ds zs (.pos 0) = some x from rfl), List.filterMap_map]
  congr 1
  congr 1
  funext s
  cases s <;> rfl
/-- how a call binds its n values and its keywords ks -/
abbrev KB (K : PySem.W.Frag) (fd : FuncData) (ps : List Str) (n : Nat) (ks : List Str) (ss : List Src) (dvs : List V) : Prop := ∃ g, KBn K fd ps n ks g (fun vs zs => gS ss vs dvs zs)
section
variable {K : PySem.W.Frag} {x qual : Str} {params : Arguments} {body : List Stmt} {scope : Scope} {dvs : List V} {f : Addr} {fd : FuncData} {ps : List Str}
theorem FunD.kb (F : FunD K x qual params body scope dvs [] f fd) (n : Nat) (ks : List Str) (ss : List Src) (hd : dvs ≠ [])
    (h : ∀ (T : Addr) (kV doc pm : Value) (an : Option Addr) (cdv ct : Value) (us its ws : List Value), us.length = n → its.length = dvs.length → ws.length = ks.length →
      ∃ k, bindArgs (PySem.W.fnOf x qual params body scope (.ref T) kV doc pm an cdv ct) ⟨us, ks.zip ws⟩ = seqItems? (.ref T) >>= k ∧ k (some its.toArray) = pure (ps.zip (gS ss us its ws))) : KB K fd ps n ks ss dvs := by
  obtain ⟨its, b⟩ := F.kbindsD (ps := ps) n ks (fun {_} vs ds zs => gS ss vs ds zs) hd (fun r1 r2 r3 => gS_rel r1 r2 r3 ss) h
  exact ⟨_, b⟩
end
/-- C(..) by n values and the keywords ks -/
structure CDefN (P : Program) (w : World) (K : PySem.W.Frag) (mg : Str → Option Value) (base : Heap) (CX : CXT) (k : Nat) (x : Str) (C : Addr) (sp : Sp) (n : Nat) (ks : List Str) (ss : List Src) (dvs : List V) : Prop where
  ex : ∃ f fd ps sp0, mg x = some (.ref C) ∧ Mk K C f ∧ KB K fd ps (n + 1) ks (.pos 0 :: ss.map Src.up) dvs ∧ FnOk P w K mg base CX k f fd ps sp0 ∧ Conv C sp0 sp
/-- the reading of such a call -/
def tCN (sp : Sp) (n m : Nat) (ss : List Src) (dvs : List V) (E : XK) (t tk : TA) : TE := fun σ H Q => t σ H fun vs H1 => tk σ H1 fun zs H2 => vs.length = n ∧ zs.length = m ∧ sp (gS ss vs dvs zs) H2 Q E
section
variable {P : Program} {w : World} {K : PySem.W.Frag} {mg : Str → Option Value} {base : Heap} {CX : CXT} {k : Nat} {C : Addr} {x qual : Str} {sp : Sp} {st : Stmt} {dvs : List V} {n : Nat} {ks : List Str} {ss : List Src}
theorem CDefN.mono {j : Nat} (D : CDefN P w K mg base CX j x C sp n ks ss dvs) (h : j ≤ k) : CDefN P w K mg base CX k x C sp n ks ss dvs := by
  obtain ⟨f, fd, ps, sp0, a, b, c, d, e⟩ := D.ex
  exact ⟨f, fd, ps, sp0, a, b, c, d.mono h, e⟩
theorem CMk.kw {ps : List Str} (D : CMk P w K mg base CX k x C sp ps qual st dvs) (n : Nat) (ks : List Str) (ss : List Src) (hd : dvs ≠ [])
    (h : ∀ (T : Addr) (kV doc pm : Value) (an : Option Addr) (cdv ct : Value) (us its ws : List Value), us.length = n + 1 → its.length = dvs.length → ws.length = ks.length →
      ∃ k, bindArgs (PySem.W.fnOf "__init__" qual (defArgs st) (defBody st) (defScope st) (.ref T) kV doc pm an cdv ct) ⟨us, ks.zip ws⟩ = seqItems? (.ref T) >>= k ∧ k (some its.toArray) = pure (ps.zip (gS (.pos 0 :: ss.map Src.up) us its ws))) : CDefN P w K mg base CX k x C sp n ks ss dvs := by
  obtain ⟨f, fd, sp0, a, b, c, d, e, G⟩ := D.ex
  exact ⟨f, fd, ps, sp0, a, b, FunD.kb G (n + 1) ks _ hd h, d, e⟩
end
section
variable {X : Cx} {CX : CXT} {k n : Nat} {sp : Sp} {E : XK} {x : Str} {C : Addr} {p pos : PySem.Pos} {e : Expr} {es : List Expr} {kws : List Keyword} {t tk : TA} {ks : List Str} {ss : List Src} {dvs : List V}
theorem run_mkN {pins : List (Addr × Obj)} {σ : St} {H : Hp} {s : Shared} {Q : VK} {us ws : List Value} {vs zs : List V} {f : Addr} {fd : FuncData} {ps : List Str} {sp0 : Sp} {g : List Value → List Value → List Value} (M : Mk X.K C f) (F : FnOk X.prog X.w X.K X.mg X.base CX k f fd ps sp0) (cv : Conv C sp0 sp) (hr : Room (k + 1) X.A) (hb : KBn X.K fd ps (n + 1) ks g (fun vs zs => gS (.pos 0 :: ss.map Src.up) vs dvs zs))
    (hx : Passes CX X E) (I : Inv X pins σ H s) (r : Vals vs us) (rz : Vals zs ws) (l1 : vs.length = n) (l2 : zs.length = ks.length) (h : sp (gS ss vs dvs zs) H Q E) :
    wpAny (model X.prog X.w) X.A (call (.ref C) us (ks.zip ws)) (EP X pins σ Q) X.xe s := by
  refine run_makeN M F hr hb hx I r rz l1 l2 fun a da n1 n2 n3 => ?_
  rw [gS_up]
  exact cv _ H Q E h a da n1 n2 n3
theorem pe_mkN (D : CDefN X.prog X.w X.K X.mg X.base CX k x C sp n ks ss dvs) (hr : Room (k + 1) X.A) (hx : Passes CX X E) (ha : PA X (e :: es) t) (hkw : PK X kws tk) (hg : Gl X x := by rfl)
    (hall : (backToKw pos (keywordEach kws X.env)).all (·.1.isSome) = true := by rfl) (hks : (backToKw pos (keywordEach kws X.env)).filterMap (·.1) = ks := by rfl)
    (hdb : (x == ("__debug__" : Str)) = false := by decide) (he : starEach (e :: es) X.env = (false, eval e X.env) :: starEach es X.env := by rfl)
    (hpl : ((backTo pos (starEach (e :: es) X.env)).any (·.1) || (backToKw pos (keywordEach kws X.env)).any (·.1.isNone)) = false := by rfl) :
    PE X (.Call (.Name x p) (e :: es) kws pos) (tCN sp n ks.length ss dvs E t tk) := by
  obtain ⟨f, fd, ps, sp0, a, M, ⟨g, kb⟩, F, cv⟩ := D.ex
  refine ⟨fun pins s σ H Q I h => ?_⟩
  refine wpAny_Call_Name_kw (ld_glob I hg a ?_ hdb)
  refine PySem.W.callWith_KW (h₀ := X.base) I.ok.mod.kin M.kp hall (thn (ha.run pos pins s σ H _ I h) fun us s1 ⟨vs, H1, I1, r, q⟩ => ?_) hpl he
  refine thn (hkw.run pos pins s1 σ H1 _ I1 q) fun ws s2 ⟨zs, H2, I2, rz, l1, l2, q2⟩ => ⟨I2.kIn, ?_⟩
  rw [hks]
  exact run_mkN M F cv hr kb hx I2 r rz l1 l2 q2
theorem pe_mkN0 (D : CDefN X.prog X.w X.K X.mg X.base CX k x C sp 0 ks ss dvs) (hr : Room (k + 1) X.A) (hx : Passes CX X E) (hkw : PK X kws tk) (hg : Gl X x := by rfl)
    (hall : (backToKw pos (keywordEach kws X.env)).all (·.1.isSome) = true := by rfl) (hks : (backToKw pos (keywordEach kws X.env)).filterMap (·.1) = ks := by rfl)
    (hdb : (x == ("__debug__" : Str)) = false := by decide)
    (hpl : ((backTo pos (starEach [] X.env)).any (·.1) || (backToKw pos (keywordEach kws X.env)).any (·.1.isNone)) = false := by rfl) :
    PE X (.Call (.Name x p) [] kws pos) (tCN sp 0 ks.length ss dvs E tNil tk) := by
  obtain ⟨f, fd, ps, sp0, a, M, ⟨g, kb⟩, F, cv⟩ := D.ex
  refine ⟨fun pins s σ H Q I h => ?_⟩
  refine wpAny_Call_Name_kw (ld_glob I hg a ?_ hdb)
  refine PySem.W.callWith_KW0 (h₀ := X.base) I.ok.mod.kin M.kp hall ?_ hpl
  refine thn (hkw.run pos pins s σ H _ I h) fun ws s2 ⟨zs, H2, I2, rz, l1, l2, q2⟩ => ⟨I2.kIn, ?_⟩
  rw [hks]
  exact run_mkN (us := []) (vs := []) M F cv hr kb hx I2 .nil rz rfl l2 q2
end
/-! ### defs and methods by keywords -/
structure DefN (P : Program) (w : World) (K : PySem.W.Frag) (mg : Str → Option Value) (base : Heap) (CX : CXT) (k : Nat) (x : Str) (sp : Sp) (n : Nat) (ks : List Str) (ss : List Src) (dvs : List V) : Prop where
  ex : ∃ f fd ps, mg x = some (.ref f) ∧ PySem.W.keepIn K (.ref f) = true ∧ KB K fd ps n ks ss dvs ∧ FnOk P w K mg base CX k f fd ps sp
structure MDefN (P : Program) (w : World) (K : PySem.W.Frag) (mg : Str → Option Value) (base : Heap) (CX : CXT) (k : Nat) (C : Addr) (m : Str) (sp : Sp) (n : Nat) (ks : List Str) (ss : List Src) (dvs : List V) : Prop where
  ex : ∃ f fd ps, PySem.W.findIn K (.ref C) m = some (some (.ref f)) ∧ PySem.W.isFn K (.ref f) = true ∧ PySem.W.keepIn K (.ref f) = true ∧ KB K fd ps (n + 1) ks (.pos 0 :: ss.map Src.up) dvs ∧ FnOk P w K mg base CX k f fd ps sp
section
variable {P : Program} {w : World} {K : PySem.W.Frag} {mg : Str → Option Value} {base : Heap} {CX : CXT} {k : Nat} {C : Addr} {x m qual : Str} {sp : Sp} {st : Stmt} {dvs : List V} {n : Nat} {ks ps : List Str} {ss : List Src}
theorem DefN.mono {j : Nat} (D : DefN P w K mg base CX j x sp n ks ss dvs) (h : j ≤ k) : DefN P w K mg base CX k x sp n ks ss dvs := by
  obtain ⟨f, fd, ps, a, b, c, d⟩ := D.ex
  exact ⟨f, fd, ps, a, b, c, d.mono h⟩
theorem MDefN.mono {j : Nat} (D : MDefN P w K mg base CX j C m sp n ks ss dvs) (h : j ≤ k) : MDefN P w K mg base CX k C m sp n ks ss dvs := by
  obtain ⟨f, fd, ps, a, b, c, d, e⟩ := D.ex
  exact ⟨f, fd, ps, a, b, c, d, e.mono h⟩
theorem kb_of {fd : FuncData} (h : ∀ us ws : List Value, us.length = n → ws.length = ks.length → bindArgs fd ⟨us, ks.zip ws⟩ = pure (ps.zip (gS ss us [] ws))) : KB K fd ps n ks ss [] :=
  ⟨fun us ws => gS ss us [] ws, ⟨fun s us ws _ l1 l2 => .of_eq (h us ws l1 l2), fun r1 r2 => gS_rel r1 .nil r2 ss⟩⟩
theorem fd_eq {f : Addr} {fd fd' : FuncData} (h : ∃ oc od osl, K.lookup f = some ⟨oc, od, .func fd, osl⟩) (h' : ∃ oc od osl, K.lookup f = some ⟨oc, od, .func fd', osl⟩) : fd = fd' := by
  obtain ⟨_, _, _, h⟩ := h
  obtain ⟨_, _, _, h'⟩ := h'
  rw [h] at h'
  injection h' with h'
  injection h' with _ _ h' _
  injection h'
theorem Def.kw (D : Def P w K mg base CX k x ps sp) (F : FnAt K mg x st) (n : Nat) (ks : List Str) (ss : List Src)
    (h : ∀ (kV doc pm : Value) (an : Option Addr) (cdv ct : Value) (us ws : List Value), us.length = n → ws.length = ks.length → bindArgs (PySem.W.fnOf x x (defArgs st) (defBody st) (defScope st) .none kV doc pm an cdv ct) ⟨us, ks.zip ws⟩ = pure (ps.zip (gS ss us [] ws))) : DefN P w K mg base CX k x sp n ks ss [] := by
  obtain ⟨f, fd, a, b, c, d⟩ := D.ex
  obtain ⟨f', fd', a', G⟩ := F.ex
  rw [a] at a'
  injection a' with a'
  injection a' with a'
  subst a'
  have e := fd_eq c.lk (funLk G)
  subst e
  refine ⟨f, fd, ps, a, b, ?_, d⟩
  obtain ⟨oc, od, kV, doc, pm, an, cdv, ct, osl, rfl, _⟩ := G.ex
  exact kb_of (h kV doc pm an cdv ct)
theorem MDef.kw (D : MDef P w K mg base CX k C m ps sp) (F : MAt K C m qual st) (n : Nat) (ks : List Str) (ss : List Src)
    (h : ∀ (kV doc pm : Value) (an : Option Addr) (cdv ct : Value) (us ws : List Value), us.length = n + 1 → ws.length = ks.length → bindArgs (PySem.W.fnOf m qual (defArgs st) (defBody st) (defScope st) .none kV doc pm an cdv ct) ⟨us, ks.zip ws⟩ = pure (ps.zip (gS (.pos 0 :: ss.map Src.up) us [] ws))) : MDefN P w K mg base CX k C m sp n ks ss [] := by
  obtain ⟨f, fd, a, b, kp, c, d⟩ := D.ex
  obtain ⟨f', fd', a', b', G⟩ := F.ex
  rw [a] at a'
  injection a' with a'
  injection a' with a'
  injection a' with a'
  subst a'
  have e := fd_eq c.lk (funLk G)
  subst e
  refine ⟨f, fd, ps, a, b, kp, ?_, d⟩
  obtain ⟨oc, od, kV, doc, pm, an, cdv, ct, osl, rfl, _⟩ := G.ex
  exact kb_of (h kV doc pm an cdv ct)
end
section
variable {X : Cx} {CX : CXT} {k n : Nat} {sp : Sp} {E : XK} {x m : Str} {C : Addr} {p pos apos : PySem.Pos} {o e : Expr} {es : List Expr} {kws : List Keyword} {ta : TE} {t tk : TA} {ks : List Str} {ss : List Src} {dvs : List V}
theorem run_fN {pins : List (Addr × Obj)} {σ : St} {H : Hp} {s : Shared} {Q : VK} {us ws : List Value} {vs zs : List V} {f : Addr} {fd : FuncData} {ps : List Str} {g : List Value → List Value → List Value} {gV : List V → List V → List V} (F : FnOk X.prog X.w X.K X.mg X.base CX k f fd ps sp) (hr : Room k X.A) (hb : KBn X.K fd ps n ks g gV)
    (hx : Passes CX X E) (I : Inv X pins σ H s) (r : Vals vs us) (rz : Vals zs ws) (l1 : vs.length = n) (l2 : zs.length = ks.length) (h : sp (gV vs zs) H Q E) :
    wpAny (model X.prog X.w) X.A (call (.ref f) us (ks.zip ws)) (EP X pins σ Q) X.xe s := by
  have r2 := hb.rel r rz
  refine wpAny_call (codeAny_mono (F.run X.A X.stack s H ⟨us, ks.zip ws⟩ (g us ws) (gV vs zs) Q E hr I.env0 (hb.to s us ws I.kIn (r.length.symm.trans l1) (rz.length.symm.trans l2)) r2 h) fun r s' hq => ?_)
  cases r with
  | error e => exact hx pins σ H s e s' I hq
  | ok fl =>
    cases fl with
    | ret u => exact I.after hq
    | next => exact False.elim hq
    | brk => exact False.elim hq
    | cont => exact False.elim hq
/-- o.m(.., k = v) -/
def tMN (C : Addr) (m : Str) (sp : Sp) (n l : Nat) (ss : List Src) (dvs : List V) (E : XK) (ta : TE) (t tk : TA) : TE := fun σ H Q => ta σ H fun x H1 => ∃ a dx fs, x = .ref a ∧ H1 a = some (.ins C dx fs) ∧ fs.lookup m = none ∧ t σ H1 fun vs H2 => tk σ H2 fun zs H3 => vs.length = n ∧ zs.length = l ∧ sp (x :: gS ss vs dvs zs) H3 Q E
theorem pe_mdN0 {pl : Sem Bool} (D : MDefN X.prog X.w X.K X.mg X.base CX k C m sp 0 ks ss dvs) (c : Cls X.K C) (hr : Room k X.A) (hx : Passes CX X E) (he : PE X o ta) (hkw : PK X kws tk)
    (hall : (backToKw pos (keywordEach kws X.env)).all (·.1.isSome) = true := by rfl) (hks : (backToKw pos (keywordEach kws X.env)).filterMap (·.1) = ks := by rfl)
    (hpl : ((backTo pos (starEach [] X.env)).any (·.1) || (backToKw pos (keywordEach kws X.env)).any (·.1.isNone)) = false := by rfl)
    (ht : eval (.Call (.Attribute o m apos) [] kws pos) X.env = (do
      let ov ← eval o X.env
      standAt apos.atName
      let (f, first) ← holding [ov] (getMethod ov m pl)
      callWith pos f first (backTo pos (starEach [] X.env)) (backToKw pos (keywordEach kws X.env))) := by rfl) :
    PE X (.Call (.Attribute o m apos) [] kws pos) (tMN C m sp 0 ks.length ss dvs E ta tNil tk) := by
  obtain ⟨f, fd, ps, a1, a2, a3, ⟨g, kb⟩, F⟩ := D.ex
  refine ⟨fun pins s σ H Q I h => ?_⟩
  refine PySem.W.methodCall_KW (pl := pl) (thn (he.run pins s σ H _ I h) fun u s1 ⟨x, H1, I1, rx, a, dx, fs, ex, ea, l, q⟩ => ?_) ht
  subst ex
  obtain rfl : u = Value.ref a := rx
  refine getmeth_ok I1 ea c ⟨a1, a2, a3⟩ l ?_
  refine PySem.W.callWith_KW0 (first := [.ref a]) (h₀ := X.base) I.ok.mod.kin a3 hall ?_ hpl
  refine thn (hkw.run pos pins s1 σ H1 _ I1 q) fun ws s2 ⟨zs, H2, I2, rz, l1, l2, q2⟩ => ⟨I2.kIn, ?_⟩
  rw [hks]
  refine run_fN (us := [.ref a]) (vs := [.ref a]) F hr kb hx I2 (.cons rfl .nil) rz rfl l2 ?_
  show sp (gS (.pos 0 :: ss.map Src.up) [V.ref a] dvs zs) _ _ _
  rw [gS_up]
  exact q2
end
section
variable {X : Cx} {CX : CXT} {k : Nat} {C : Addr} {m : Str} {ps : List Str} {sp : Sp} {E : XK} {pos apos : PySem.Pos} {o : Expr} {ta : TE}
/-- o.m() -/
theorem pe_md0 {pl : Sem Bool} (D : MDef X.prog X.w X.K X.mg X.base CX k C m ps sp) (c : Cls X.K C) (hr : Room k X.A) (hx : Passes CX X E) (he : PE X o ta)
    (ht : eval (.Call (.Attribute o m apos) [] [] pos) X.env = (do
      let ov ← eval o X.env
      standAt apos.atName
      let (f, first) ← holding [ov] (getMethod ov m pl)
      callWith pos f first (backTo pos (starEach [] X.env)) (backToKw pos (keywordEach [] X.env))) := by rfl) :
    PE X (.Call (.Attribute o m apos) [] [] pos) (tMeth C m sp [] E ta tNil) := by
  obtain ⟨f, fd, a, b, kp, ⟨d, _⟩, g⟩ := D.ex
  exact pe_meth0 (pl := pl) he c ⟨a, b, kp⟩ g hr d .nil hx ht
/-- dict(xs) of pairs -/
def rDictP (K : PySem.W.Frag) : List V → Hp → VK → Prop := fun xs H Q => ∃ (a : Addr) (ps : List Addr) (kvs : List (Key × V)), xs = [.ref a] ∧ SqL K H a (ps.map V.ref) ∧ Paired (fun p kv => SqT K H p [kV kv.1, kv.2]) ps kvs ∧ ∀ p, H p = none → Q (.ref p) (upd H p (.dK (mergeK [] kvs)))
theorem c_dictPK {K : PySem.W.Frag} (h : X.K = K) (hc : X.calm = true) : CallR X (.type "dict") (rDictP K) := h ▸ call_dictP hc
end
theorem merge_new : ∀ {more acc : List (Key × V)}, (∀ q ∈ more, valV acc q.1 = none) → more.Pairwise (fun a b => a.1 ≠ b.1) → mergeK acc more = acc ++ more
  | [], acc, _, _ => (List.append_nil acc).symm
  | q :: more, acc, h, p => by
    have p' := List.pairwise_cons.mp p
    show mergeK (putK acc q.1 q.2) more = _
    rw [putK_new q.2 (h q (List.mem_cons_self ..)), merge_new (fun r hr => ?_) p'.2, List.append_assoc]
    · rfl
    · have h1 := h r (List.mem_cons_of_mem _ hr)
      have h2 := p'.1 r hr
      clear h p p'
      induction acc with
      | nil =>
        show valV [q] r.1 = none
        obtain ⟨a, b⟩ := q
        rw [valV_neg h2]
        rfl
      | cons c acc ih =>
        obtain ⟨a, b⟩ := c
        by_cases e : a = r.1
        · rw [e, valV_pos rfl] at h1
          cases h1
        · rw [valV_neg e] at h1
          rw [List.cons_append, valV_neg e]
          exact ih h1
section
variable {σ : St} {H : Hp} {Q : VK}
theorem e_CN {sp : Sp} {n m : Nat} {ss : List Src} {dvs : List V} {E : XK} {t tk : TA} (q : t σ H fun vs H1 => tk σ H1 fun zs H2 => vs.length = n ∧ zs.length = m ∧ sp (gS ss vs dvs zs) H2 Q E) : tCN sp n m ss dvs E t tk σ H Q := q
end
end Cw
set_option Elab.async false
set_option linter.all false
set_option maxRecDepth 100000
set_option maxHeartbeats 4000000
/-! names in plain words: no letter stands behind a greater or an equal one that it could be exchanged back to -/
namespace Cw
structure CrOk (cr : Nat → List Nat) : Prop where
  sym : ∀ a b, a ∈ cr b → b ∈ cr a
  irr : ∀ a, ¬ a ∈ cr a
/-- s may stand behind the letters of the list (the nearest first) -/
def okAt (cr : Nat → List Nat) (s : Nat) : List Nat → Prop
  | [] => True
  | t :: r => t ≠ s ∧ (t ∈ cr s → t < s ∧ okAt cr s r)
/-- a name, its last letter first -/
def NFr (cr : Nat → List Nat) : List Nat → Prop
  | [] => True
  | s :: r => okAt cr s r ∧ NFr cr r
def NF (cr : Nat → List Nat) (w : List Nat) : Prop := NFr cr w.reverse
section
variable {cr : Nat → List Nat} {s k x : Nat} {d e : List Nat}
theorem okAt_app : ∀ {q : List Nat}, okAt cr s (q ++ e) → (∀ y ∈ q, y ∈ cr s) → okAt cr s e
  | [], h, _ => h
  | y :: q, h, hq => okAt_app (q := q) (h.2 (hq y (List.mem_cons_self ..))).2 fun z hz => hq z (List.mem_cons_of_mem _ hz)
theorem okAt_lt : ∀ {q : List Nat}, okAt cr s (q ++ e) → (∀ y ∈ q, y ∈ cr s) → ∀ y ∈ q, y < s
  | [], _, _, y, hy => nomatch hy
  | z :: q, h, hq, y, hy => by
    have h2 := h.2 (hq z (List.mem_cons_self ..))
    rcases List.mem_cons.mp hy with rfl | hy
    · exact h2.1
    · exact okAt_lt h2.2 (fun z hz => hq z (List.mem_cons_of_mem _ hz)) y hy
theorem okAt_remove (hk : k ∈ cr s) : ∀ {q : List Nat}, okAt cr s (q ++ k :: e) → okAt cr s (q ++ e)
  | [], h => (h.2 hk).2
  | y :: q, h => ⟨h.1, fun z => ⟨(h.2 z).1, okAt_remove hk (h.2 z).2⟩⟩
theorem okAt_insert (hk : k ≠ s) : ∀ {q : List Nat}, okAt cr s (q ++ e) → ((∀ y ∈ q, y ∈ cr s) → k < s) → okAt cr s (q ++ k :: e)
  | [], h, hl => ⟨hk, fun _ => ⟨hl (fun _ z => nomatch z), h⟩⟩
  | y :: q, h, hl => ⟨h.1, fun z => ⟨(h.2 z).1, okAt_insert hk (h.2 z).2 fun hq => hl fun w hw => by
      rcases List.mem_cons.mp hw with rfl | hw
      · exact z
      · exact hq w hw⟩⟩
theorem NFr_right : ∀ {a b : List Nat}, NFr cr (a ++ b) → NFr cr b
  | [], _, h => h
  | _ :: a, b, h => NFr_right (a := a) h.2
theorem NFr_remove (ok : CrOk cr) : ∀ {d : List Nat}, (∀ y ∈ d, y ∈ cr k) → NFr cr (d ++ k :: e) → NFr cr (d ++ e)
  | [], _, h => h.2
  | y :: d, hd, h => ⟨okAt_remove (ok.sym _ _ (hd y (List.mem_cons_self ..))) h.1, NFr_remove ok (fun z hz => hd z (List.mem_cons_of_mem _ hz)) h.2⟩
theorem NFr_insert (ok : CrOk cr) {h0 : Nat} (hh : k < h0) (hok : okAt cr k e) : ∀ {d : List Nat}, (∀ y ∈ d, y ∈ cr k) → NFr cr (d ++ h0 :: e) → h0 ∈ cr k → NFr cr (d ++ h0 :: k :: e)
  | [], _, h, hc => ⟨okAt_insert (q := []) (by omega) h.1 fun _ => hh, hok, h.2⟩
  | y :: d, hd, h, hc => by
    have hy := hd y (List.mem_cons_self ..)
    refine ⟨?_, NFr_insert ok hh hok (fun z hz => hd z (List.mem_cons_of_mem _ hz)) h.2 hc⟩
    have h1 : okAt cr y ((d ++ [h0]) ++ e) := by
      rw [List.append_assoc]
      exact h.1
    have h2 : okAt cr y ((d ++ [h0]) ++ k :: e) := okAt_insert (fun z : k = y => ok.irr k (by rw [← z] at hy; exact hy)) h1 fun hq => by
      have := okAt_lt h1 hq h0 (by simp)
      omega
    rw [List.append_assoc] at h2
    exact h2
/-! ### what a step does -/
theorem splitB_spec (part : List Nat) : ∀ ra b : List Nat, ∃ c, (splitB part ra b).2 = c ++ b ∧ (∀ y ∈ c, y ∈ part) ∧ ra = c.reverse ++ (splitB part ra b).1 ∧ ∀ y, (splitB part ra b).1.head? = some y → ¬ y ∈ part
  | [], b => ⟨[], rfl, fun _ z => (nomatch z), rfl, fun _ z => (nomatch z)⟩
  | y :: r, b => by
    unfold splitB
    by_cases h : y ∈ part
    · rw [if_pos h]
      obtain ⟨c, h1, h2, h3, h4⟩ := splitB_spec part r (y :: b)
      refine ⟨c ++ [y], by rw [h1, List.append_assoc]; rfl, fun z hz => ?_, ?_, h4⟩
      · rcases List.mem_append.mp hz with z | z
        · exact h2 _ z
        · rw [List.mem_singleton.mp z]
          exact h
      · rw [List.reverse_append]
        show y :: r = y :: (c.reverse ++ _)
        rw [← h3]
    · rw [if_neg h]
      refine ⟨[], rfl, fun _ z => (nomatch z), rfl, fun z hz => ?_⟩
      injection hz with hz
      exact hz ▸ h
/-- the two ways of a step, the name's last letter first: d are exchanged, then the kind is found or not -/
theorem stepOf_cases (part name : List Nat) (k : Nat) : ∃ d e : List Nat, name.reverse = d ++ e ∧ (∀ y ∈ d, y ∈ part) ∧ (∀ y, e.head? = some y → ¬ y ∈ part) ∧
    ((∃ e', e = k :: e' ∧ (stepOf part name k).reverse = d ++ e') ∨ (e.head? ≠ some k ∧ (stepOf part name k).reverse = (putIn k d.reverse).reverse ++ e)) := by
  obtain ⟨c, h1, h2, h3, h4⟩ := splitB_spec part name.reverse []
  rw [List.append_nil] at h1
  refine ⟨c.reverse, (splitB part name.reverse []).1, h3, fun y hy => h2 y (List.mem_reverse.mp hy), h4, ?_⟩
  unfold stepOf
  rw [h1]
  generalize (splitB part name.reverse []).1 = ra
  unfold stepAt
  by_cases hc : ra.head? = some k
  · rw [if_pos hc]
    cases ra with
    | nil => cases hc
    | cons y r =>
      injection hc with hc
      subst hc
      exact .inl ⟨r, rfl, by simp⟩
  · rw [if_neg hc]
    exact .inr ⟨hc, by simp⟩
/-- the letters below k, the others -/
theorem putIn_split (k : Nat) (b : List Nat) : ∃ b1 b2, b = b1 ++ b2 ∧ putIn k b = b1 ++ k :: b2 ∧ (∀ y ∈ b1, y < k) ∧ ∀ y, b2.head? = some y → ¬ y < k := by
  refine ⟨b.takeWhile (fun c => decide (c < k)), b.dropWhile (fun c => decide (c < k)), List.takeWhile_append_dropWhile.symm, rfl, fun y hy => ?_, fun y hy => ?_⟩
  · have := List.all_eq_true.mp (List.all_takeWhile (p := fun c => decide (c < k)) (l := b)) y hy
    exact of_decide_eq_true this
  · have := List.head?_dropWhile_not (fun c => decide (c < k)) b
    rw [hy] at this
    simpa using this
theorem okAt_all : ∀ {q : List Nat}, (∀ y ∈ q, y < k) → okAt cr k e → (∀ y ∈ q, y ∈ cr k) → okAt cr k (q ++ e)
  | [], _, h, _ => h
  | y :: q, hl, h, hq => ⟨by have := hl y (List.mem_cons_self ..); omega, fun _ => ⟨hl y (List.mem_cons_self ..), okAt_all (fun z hz => hl z (List.mem_cons_of_mem _ hz)) h fun z hz => hq z (List.mem_cons_of_mem _ hz)⟩⟩
theorem okAt_stop (h1 : e.head? ≠ some k) (h2 : ∀ y, e.head? = some y → ¬ y ∈ cr k) : okAt cr k e := by
  cases e with
  | nil => trivial
  | cons y r => exact ⟨fun z => h1 (by rw [z]; rfl), fun z => absurd z (h2 y rfl)⟩
theorem NF_step (ok : CrOk cr) {name : List Nat} (h : NF cr name) : NF cr (stepOf (cr k) name k) := by
  obtain ⟨d, e, e1, hd, he, hc⟩ := stepOf_cases (cr k) name k
  unfold NF at h ⊢
  rw [e1] at h
  rcases hc with ⟨e', rfl, e2⟩ | ⟨hk, e2⟩
  · rw [e2]
    exact NFr_remove ok hd h
  · rw [e2]
    obtain ⟨b1, b2, eb, ep, hb1, hb2⟩ := putIn_split k d.reverse
    have ed : d = b2.reverse ++ b1.reverse := by
      have := congrArg List.reverse eb
      rw [List.reverse_reverse, List.reverse_append] at this
      exact this
    rw [ep, List.reverse_append, List.reverse_cons]
    have hd1 : ∀ y ∈ b1.reverse, y ∈ cr k := fun y hy => hd y (by rw [ed]; exact List.mem_append_right _ hy)
    have hok : okAt cr k (b1.reverse ++ e) := okAt_all (fun y hy => hb1 y (List.mem_reverse.mp hy)) (okAt_stop hk he) hd1
    have hn : NFr cr (b1.reverse ++ e) := by
      rw [ed, List.append_assoc] at h
      exact NFr_right h
    cases b2 with
    | nil =>
      show NFr cr (([] ++ [k] ++ b1.reverse) ++ e)
      exact ⟨hok, hn⟩
    | cons y r =>
      have hy : ¬ y < k := hb2 y rfl
      have hyc : y ∈ cr k := hd y (by rw [ed]; simp)
      have hne : y ≠ k := fun z => ok.irr k (z ▸ hyc)
      have e3 : ((y :: r).reverse ++ [k] ++ b1.reverse) ++ e = r.reverse ++ y :: k :: (b1.reverse ++ e) := by simp
      rw [e3]
      refine NFr_insert ok (by omega) hok (fun z hz => hd z (by rw [ed, List.reverse_cons]; exact List.mem_append_left _ (List.mem_append_left _ hz))) ?_ hyc
      rw [ed] at h
      have e4 : ((y :: r).reverse ++ b1.reverse) ++ e = r.reverse ++ y :: (b1.reverse ++ e) := by simp
      rw [e4] at h
      exact h
/-- a name with one letter more, if it is one -/
theorem step_snoc {name : List Nat} (h : okAt cr k name.reverse) : stepOf (cr k) name k = name ++ [k] := by
  obtain ⟨d, e, e1, hd, he, hc⟩ := stepOf_cases (cr k) name k
  rw [e1] at h
  have h2 := okAt_app h hd
  have h3 := okAt_lt h hd
  rcases hc with ⟨e', rfl, e2⟩ | ⟨hk, e2⟩
  · exact absurd rfl h2.1
  · obtain ⟨b1, b2, eb, ep, hb1, hb2⟩ := putIn_split k d.reverse
    have : b2 = [] := by
      cases b2 with
      | nil => rfl
      | cons y r =>
        have hy := hb2 y rfl
        have : y ∈ d := List.mem_reverse.mp (by rw [eb]; simp)
        exact absurd (h3 y this) hy
    rw [this] at ep eb
    rw [List.append_nil] at eb
    rw [ep, ← eb] at e2
    have e5 := congrArg List.reverse e2
    rw [List.reverse_reverse] at e5
    rw [e5]
    have e6 := congrArg List.reverse e1
    rw [List.reverse_reverse] at e6
    rw [e6]
    simp
end
/-! ### ways -/
def joinC (cr : Nat → List Nat) (name way : List Nat) : List Nat := way.foldl (fun n k => stepOf (cr k) n k) name
theorem joinOf_C (ks : List Nat) (ps : List (List Nat)) (name way : List Nat) : joinOf ks ps name way = joinC (crossOf ks ps) name way := rfl
section
variable {cr : Nat → List Nat}
theorem joinC_app (name a b : List Nat) : joinC cr name (a ++ b) = joinC cr (joinC cr name a) b := by
  unfold joinC
  rw [List.foldl_append]
theorem NF_join (ok : CrOk cr) : ∀ {way name : List Nat}, NF cr name → NF cr (joinC cr name way)
  | [], _, h => h
  | k :: r, name, h => NF_join (way := r) ok (NF_step ok h)
theorem NF_nil : NF cr [] := trivial
theorem NF_left {a b : List Nat} (h : NF cr (a ++ b)) : NF cr a := by
  unfold NF at h ⊢
  rw [List.reverse_append] at h
  exact NFr_right h
theorem join_NF : ∀ {way name : List Nat}, NF cr (name ++ way) → joinC cr name way = name ++ way
  | [], name, _ => (List.append_nil name).symm
  | k :: r, name, h => by
    have e : name ++ k :: r = (name ++ [k]) ++ r := by simp
    rw [e] at h ⊢
    have h1 : NF cr (name ++ [k]) := NF_left h
    have h2 : okAt cr k name.reverse := by
      unfold NF at h1
      rw [List.reverse_append] at h1
      exact h1.1
    show joinC cr (stepOf (cr k) name k) r = _
    rw [step_snoc h2]
    exact join_NF h
theorem is_NF (ok : CrOk cr) {w : List Nat} : joinC cr [] w = w ↔ NF cr w := ⟨fun h => h ▸ NF_join ok NF_nil, fun h => join_NF (name := []) h⟩
/-- the same by any two letters -/
theorem NF.two {w : List Nat} (h : NF cr w) {p q r : List Nat} {t s : Nat} (e : w = p ++ t :: (q ++ s :: r)) (hq : ∀ y ∈ q, y ∈ cr s) : t ≠ s ∧ (t ∈ cr s → t < s) := by
  unfold NF at h
  have e2 : w.reverse = r.reverse ++ s :: (q.reverse ++ t :: p.reverse) := by rw [e]; simp
  rw [e2] at h
  have h1 := (NFr_right h).1
  have h2 := okAt_app h1 fun y hy => hq y (List.mem_reverse.mp hy)
  exact ⟨h2.1, fun z => (h2.2 z).1⟩
end
end Cw
set_option Elab.async false
set_option linter.all false
set_option maxRecDepth 100000
set_option maxHeartbeats 4000000
/-! the vectors of the laws, in plain words -/
namespace Cw
/-- one coordinate of the marks, behind the door d -/
def thr (cr : Nat → List Nat) (d : Nat) (f : Nat → Int) : Nat → Int := fun e => if e = d then - f d else if e ∈ cr d then f e else f e + 2 * f d
/-- the first letter of the list is the last door -/
def act (cr : Nat → List Nat) (w : List Nat) (f : Nat → Int) : Nat → Int := w.foldr (thr cr) f
def unit (x : Nat) : Nat → Int := fun e => if e = x then 1 else 0
section
variable {cr : Nat → List Nat} {a b d e k : Nat} {f : Nat → Int} {w : List Nat}
theorem act_app (u v : List Nat) (f : Nat → Int) : act cr (u ++ v) f = act cr u (act cr v f) := by
  unfold act
  rw [List.foldr_append]
theorem thr_self : thr cr d f d = - f d := if_pos rfl
theorem thr_cr (ok : CrOk cr) (h : e ∈ cr d) : thr cr d f e = f e := by
  unfold thr
  rw [if_neg (fun z : e = d => ok.irr d (by rw [z] at h; exact h)), if_pos h]
theorem thr_not (h : e ≠ d) (h2 : ¬ e ∈ cr d) : thr cr d f e = f e + 2 * f d := by
  unfold thr
  rw [if_neg h, if_neg h2]
theorem thr_thr (ok : CrOk cr) : thr cr d (thr cr d f) = f := by
  funext e
  by_cases h : e = d
  · subst h
    rw [thr_self, thr_self]
    omega
  · by_cases h2 : e ∈ cr d
    · rw [thr_cr ok h2, thr_cr ok h2]
    · rw [thr_not h h2, thr_not h h2, thr_self]
      omega
theorem thr_comm (ok : CrOk cr) (h : a ∈ cr b) : thr cr a (thr cr b f) = thr cr b (thr cr a f) := by
  have h' := ok.sym _ _ h
  have ne : a ≠ b := fun z => ok.irr b (z ▸ h)
  funext e
  by_cases e1 : e = a
  · subst e1
    rw [thr_self, thr_cr ok h, thr_cr ok h, thr_self]
  · by_cases e2 : e = b
    · subst e2
      rw [thr_cr ok h', thr_self, thr_self, thr_cr ok h']
    · by_cases c1 : e ∈ cr a
      · by_cases c2 : e ∈ cr b
        · rw [thr_cr ok c1, thr_cr ok c2, thr_cr ok c2, thr_cr ok c1]
        · rw [thr_cr ok c1, thr_not e2 c2, thr_not e2 c2, thr_cr ok c1, thr_cr ok h']
      · by_cases c2 : e ∈ cr b
        · rw [thr_not e1 c1, thr_cr ok c2, thr_cr ok h, thr_cr ok c2, thr_not e1 c1]
        · rw [thr_not e1 c1, thr_not e2 c2, thr_cr ok h, thr_not e2 c2, thr_not e1 c1, thr_cr ok h']
          omega
theorem act_comm (ok : CrOk cr) : ∀ {q : List Nat}, (∀ y ∈ q, y ∈ cr k) → act cr q (thr cr k f) = thr cr k (act cr q f)
  | [], _ => rfl
  | y :: q, h => by
    show thr cr y (act cr q (thr cr k f)) = thr cr k (thr cr y (act cr q f))
    rw [act_comm ok fun z hz => h z (List.mem_cons_of_mem _ hz), thr_comm ok (h y (List.mem_cons_self ..))]
theorem act_step (ok : CrOk cr) (name : List Nat) (k : Nat) (f : Nat → Int) : act cr (stepOf (cr k) name k) f = act cr (name ++ [k]) f := by
  obtain ⟨d, e, e1, hd, he, hc⟩ := stepOf_cases (cr k) name k
  have e1' := congrArg List.reverse e1
  rw [List.reverse_reverse, List.reverse_append] at e1'
  have hd' : ∀ y ∈ d.reverse, y ∈ cr k := fun y hy => hd y (List.mem_reverse.mp hy)
  rcases hc with ⟨e', rfl, e2⟩ | ⟨hk, e2⟩
  · have e3 := congrArg List.reverse e2
    rw [List.reverse_reverse, List.reverse_append] at e3
    rw [e3, e1', List.reverse_cons, act_app, act_app, act_app, act_app]
    show _ = act cr e'.reverse (thr cr k (act cr d.reverse (thr cr k f)))
    rw [act_comm ok hd', thr_thr ok]
  · have e3 := congrArg List.reverse e2
    rw [List.reverse_reverse, List.reverse_append, List.reverse_reverse] at e3
    obtain ⟨b1, b2, eb, ep, hb1, hb2⟩ := putIn_split k d.reverse
    rw [e3, e1', ep, eb]
    have h2 : ∀ y ∈ b2, y ∈ cr k := fun y hy => hd' y (by rw [eb]; exact List.mem_append_right _ hy)
    simp only [act_app]
    show act cr e.reverse (act cr b1 (thr cr k (act cr b2 f))) = act cr e.reverse (act cr b1 (act cr b2 (thr cr k f)))
    rw [act_comm ok h2]
theorem act_join (ok : CrOk cr) : ∀ (way name : List Nat) (f : Nat → Int), act cr (joinC cr name way) f = act cr (name ++ way) f
  | [], name, f => by rw [List.append_nil]; rfl
  | k :: r, name, f => by
    show act cr (joinC cr (stepOf (cr k) name k) r) f = _
    rw [act_join ok r, act_app, act_step ok, ← act_app, List.append_assoc]
    rfl
/-! ### doors that lead back -/
def desc (cr : Nat → List Nat) (s : Nat) : List Nat → Prop
  | [] => False
  | t :: r => t = s ∨ (t ∈ cr s ∧ desc cr s r)
def Red (cr : Nat → List Nat) : List Nat → Prop
  | [] => True
  | t :: r => ¬ desc cr t r ∧ Red cr r
theorem desc_split {s : Nat} : ∀ {w : List Nat}, desc cr s w → ∃ p q, w = p ++ s :: q ∧ ∀ y ∈ p, y ∈ cr s
  | [], h => h.elim
  | t :: r, h => by
    rcases h with rfl | ⟨h1, h2⟩
    · exact ⟨[], r, rfl, fun _ z => (nomatch z)⟩
    · obtain ⟨p, q, rfl, hp⟩ := desc_split h2
      refine ⟨t :: p, q, rfl, fun y hy => ?_⟩
      rcases List.mem_cons.mp hy with rfl | hy
      · exact h1
      · exact hp y hy
theorem desc_of {s : Nat} : ∀ {p q : List Nat}, (∀ y ∈ p, y ∈ cr s) → desc cr s (p ++ s :: q)
  | [], _, _ => .inl rfl
  | y :: p, q, h => .inr ⟨h y (List.mem_cons_self ..), desc_of fun z hz => h z (List.mem_cons_of_mem _ hz)⟩
theorem desc_pass {s : Nat} (ok : CrOk cr) {q : List Nat} : ∀ {p : List Nat}, (∀ y ∈ p, y ∈ cr s) → (desc cr s (p ++ q) ↔ desc cr s q)
  | [], _ => Iff.rfl
  | y :: p, h => by
    have hy := h y (List.mem_cons_self ..)
    have ih := desc_pass (q := q) ok (p := p) fun z hz => h z (List.mem_cons_of_mem _ hz)
    constructor
    · rintro (rfl | ⟨_, h2⟩)
      · exact absurd hy (ok.irr _)
      · exact ih.mp h2
    · exact fun z => .inr ⟨hy, ih.mpr z⟩
/-- taken out: the door before its letter keeps what it is -/
theorem desc_out {s t : Nat} (ok : CrOk cr) (h : s ∈ cr t) {q : List Nat} : ∀ {p : List Nat}, desc cr t (p ++ q) → desc cr t (p ++ s :: q)
  | [], z => .inr ⟨h, z⟩
  | y :: p, z => by
    rcases z with z | ⟨z1, z2⟩
    · exact .inl z
    · exact .inr ⟨z1, desc_out ok h z2⟩
theorem Red_out {s : Nat} (ok : CrOk cr) {q : List Nat} : ∀ {p : List Nat}, (∀ y ∈ p, y ∈ cr s) → Red cr (p ++ s :: q) → Red cr (p ++ q)
  | [], _, h => h.2
  | y :: p, hp, h => ⟨fun z => h.1 (desc_out ok (ok.sym _ _ (hp y (List.mem_cons_self ..))) z), Red_out ok (fun z hz => hp z (List.mem_cons_of_mem _ hz)) h.2⟩
theorem Red_right : ∀ {p q : List Nat}, Red cr (p ++ q) → Red cr q
  | [], _, h => h
  | _ :: p, _, h => Red_right (p := p) h.2
/-- what is taken out of a reduced way -/
theorem Red_desc {s : Nat} (ok : CrOk cr) (h : Red cr w) (hs : desc cr s w) : ∃ u, Red cr u ∧ ¬ desc cr s u ∧ u.length + 1 = w.length ∧ (∀ f, act cr w f = thr cr s (act cr u f)) ∧ ∀ y ∈ u, y ∈ w := by
  obtain ⟨p, q, rfl, hp⟩ := desc_split hs
  refine ⟨p ++ q, Red_out ok hp h, ?_, by simp; omega, fun f => ?_, fun y hy => ?_⟩
  · rw [desc_pass ok hp]
    exact (Red_right h).1
  · rw [act_app, act_app]
    show act cr p (thr cr s (act cr q f)) = _
    rw [act_comm ok hp]
  · rcases List.mem_append.mp hy with z | z
    · exact List.mem_append_left _ z
    · exact List.mem_append_right _ (List.mem_cons_of_mem _ z)
end
/-- all coordinates are at least nought, one is above -/
def Pos (ls : List Nat) (v : Nat → Int) : Prop := (∀ x ∈ ls, 0 ≤ v x) ∧ ∃ x ∈ ls, 0 < v x
theorem mul_nn {c x : Int} (h : 0 ≤ c) (h2 : 0 ≤ x) : 0 ≤ c * x := Int.mul_nonneg h h2
theorem Pos.comb {ls : List Nat} {u v : Nat → Int} {c b : Int} (hu : Pos ls u) (hv : Pos ls v) (hc : 0 ≤ c) (hb : 0 < b) : Pos ls fun x => c * u x + b * v x := by
  refine ⟨fun x hx => ?_, ?_⟩
  · have := mul_nn hc (hu.1 x hx)
    have := mul_nn (Int.le_of_lt hb) (hv.1 x hx)
    show 0 ≤ c * u x + b * v x
    omega
  · obtain ⟨x, hx, h⟩ := hv.2
    refine ⟨x, hx, ?_⟩
    have := mul_nn hc (hu.1 x hx)
    have := Int.mul_pos hb h
    show 0 < c * u x + b * v x
    omega
theorem Pos.congr {ls : List Nat} {u v : Nat → Int} (hu : Pos ls u) (h : ∀ x ∈ ls, v x = u x) : Pos ls v := by
  refine ⟨fun x hx => h x hx ▸ hu.1 x hx, ?_⟩
  obtain ⟨x, hx, p⟩ := hu.2
  exact ⟨x, hx, h x hx ▸ p⟩
/-- the mark of the door e behind the way w, coordinate by coordinate -/
def mark (cr : Nat → List Nat) (w : List Nat) (e : Nat) : Nat → Int := fun x => act cr w (unit x) e
section
variable {cr : Nat → List Nat} {ls : List Nat}
theorem mark_pos (ok : CrOk cr) : ∀ (n : Nat) (w : List Nat), w.length = n → Red cr w → (∀ y ∈ w, y ∈ ls) →
    (∀ s ∈ ls, ¬ desc cr s w → Pos ls (mark cr w s)) ∧
    (∀ s ∈ ls, ∀ t ∈ ls, s ≠ t → ¬ s ∈ cr t → desc cr s w → ¬ desc cr t w → ∀ a b : Int, 0 ≤ a → a ≤ b → 0 < b → Pos ls fun x => a * mark cr w s x + b * mark cr w t x) := by
  intro n
  induction n using Nat.strongRecOn with
  | ind n ih =>
    intro w hn hr hw
    refine ⟨fun s hs hd => ?_, fun s hs t ht ne nc hd hd2 a b ha hab hb => ?_⟩
    · cases w with
      | nil =>
        refine ⟨fun x _ => ?_, s, hs, ?_⟩
        · show 0 ≤ unit x s
          unfold unit
          split <;> omega
        · show 0 < unit s s
          unfold unit
          rw [if_pos rfl]
          omega
      | cons t r =>
        have hr' : r.length < n := by rw [← hn]; simp
        have ht : t ∈ ls := hw t (List.mem_cons_self ..)
        have ne : s ≠ t := fun z => hd (.inl z.symm)
        obtain ⟨i1, i2⟩ := ih r.length hr' r rfl hr.2 fun y hy => hw y (List.mem_cons_of_mem _ hy)
        by_cases hc : s ∈ cr t
        · have hsr : ¬ desc cr s r := fun z => hd (.inr ⟨ok.sym _ _ hc, z⟩)
          refine (i1 s hs hsr).congr fun x _ => ?_
          show thr cr t (act cr r (unit x)) s = _
          rw [thr_cr ok hc]
          rfl
        · have key : ∀ x ∈ ls, mark cr (t :: r) s x = 1 * mark cr r s x + 2 * mark cr r t x := by
            intro x _
            show thr cr t (act cr r (unit x)) s = _
            rw [thr_not ne hc]
            show mark cr r s x + 2 * mark cr r t x = _
            omega
          by_cases hsr : desc cr s r
          · exact (i2 s hs t ht ne hc hsr hr.1 1 2 (by decide) (by decide) (by decide)).congr key
          · exact ((i1 s hs hsr).comb (i1 t ht hr.1) (by decide) (by decide)).congr key
    · obtain ⟨u, ru, du, lu, au, mu⟩ := Red_desc ok hr hd
      obtain ⟨i1, i2⟩ := ih u.length (by omega) u rfl ru fun y hy => hw y (mu y hy)
      have nc' : ¬ t ∈ cr s := fun z => nc (ok.sym _ _ z)
      have key : ∀ x ∈ ls, a * mark cr w s x + b * mark cr w t x = b * mark cr u t x + (2 * b - a) * mark cr u s x := by
        intro x _
        have e1 : mark cr w s x = - mark cr u s x := by
          show act cr w (unit x) s = _
          rw [au, thr_self]
          rfl
        have e2 : mark cr w t x = mark cr u t x + 2 * mark cr u s x := by
          show act cr w (unit x) t = _
          rw [au, thr_not ne.symm nc']
          rfl
        rw [e1, e2, Int.mul_neg, Int.mul_add, Int.sub_mul, ← Int.mul_assoc, Int.mul_comm b 2]
        omega
      by_cases htu : desc cr t u
      · exact (i2 t ht s hs ne.symm nc' htu du b (2 * b - a) (by omega) (by omega) (by omega)).congr key
      · exact ((i1 t ht htu).comb (i1 s hs du) (by omega) (by omega)).congr key
/-- a door leads back just if a coordinate of its mark is below nought -/
theorem mark_neg (ok : CrOk cr) {w : List Nat} (hr : Red cr w) (hw : ∀ y ∈ w, y ∈ ls) {s : Nat} (hs : s ∈ ls) : (∃ x ∈ ls, mark cr w s x < 0) ↔ desc cr s w := by
  constructor
  · rintro ⟨x, hx, h⟩
    by_cases hd : desc cr s w
    · exact hd
    · have := ((mark_pos ok _ w rfl hr hw).1 s hs hd).1 x hx
      omega
  · intro hd
    obtain ⟨u, ru, du, lu, au, mu⟩ := Red_desc ok hr hd
    obtain ⟨x, hx, h⟩ := ((mark_pos ok _ u rfl ru fun y hy => hw y (mu y hy)).1 s hs du).2
    refine ⟨x, hx, ?_⟩
    show act cr w (unit x) s < 0
    rw [au, thr_self]
    have : 0 < act cr u (unit x) s := h
    omega
/-! ### names by marks -/
theorem NF.tail {c : Nat} {r : List Nat} (h : NF cr (c :: r)) : NF cr r := by
  unfold NF at h ⊢
  rw [List.reverse_cons] at h
  have key : ∀ {a b : List Nat}, NFr cr (a ++ b) → NFr cr a := by
    intro a b
    induction a with
    | nil => intro _; trivial
    | cons s a ih =>
      intro h
      refine ⟨?_, ih h.2⟩
      have h1 := h.1
      clear h ih
      induction a with
      | nil => trivial
      | cons t a ih => exact ⟨h1.1, fun z => ⟨(h1.2 z).1, ih (h1.2 z).2⟩⟩
  exact key h
theorem NF.red : ∀ {w : List Nat}, NF cr w → Red cr w
  | [], _ => trivial
  | t :: r, h => by
    refine ⟨fun z => ?_, NF.red h.tail⟩
    obtain ⟨p, q, rfl, hp⟩ := desc_split z
    exact (h.two (p := []) (q := p) (r := q) rfl hp).1 rfl
/-- the first letter is the least door back -/
theorem NF.least {c s : Nat} {r : List Nat} (h : NF cr (c :: r)) (hs : desc cr s (c :: r)) : c ≤ s := by
  rcases hs with rfl | ⟨h1, h2⟩
  · exact Nat.le_refl _
  · obtain ⟨p, q, rfl, hp⟩ := desc_split h2
    exact Nat.le_of_lt ((h.two (p := []) (q := p) (r := q) rfl hp).2 h1)
/-- two names with the same marks are the same -/
theorem NF.uniq (ok : CrOk cr) : ∀ {w v : List Nat}, NF cr w → NF cr v → (∀ y ∈ w, y ∈ ls) → (∀ y ∈ v, y ∈ ls) → (∀ x ∈ ls, ∀ s, act cr w (unit x) s = act cr v (unit x) s) → w = v
  | [], [], _, _, _, _, _ => rfl
  | [], c :: v, h, h', hw, hv, he => by
    have := (mark_neg ok h'.red hv (hv c (List.mem_cons_self ..))).mpr (.inl rfl)
    obtain ⟨x, hx, z⟩ := this
    have := (mark_neg ok h.red hw (hv c (List.mem_cons_self ..))).mp ⟨x, hx, by unfold mark; rw [he x hx]; exact z⟩
    exact this.elim
  | c :: w, [], h, h', hw, hv, he => by
    have := (mark_neg ok h.red hw (hw c (List.mem_cons_self ..))).mpr (.inl rfl)
    obtain ⟨x, hx, z⟩ := this
    have := (mark_neg ok h'.red hv (hw c (List.mem_cons_self ..))).mp ⟨x, hx, by unfold mark; rw [← he x hx]; exact z⟩
    exact this.elim
  | c :: w, b :: v, h, h', hw, hv, he => by
    have hc := hw c (List.mem_cons_self ..)
    have hb := hv b (List.mem_cons_self ..)
    have h1 : desc cr c (b :: v) := by
      obtain ⟨x, hx, z⟩ := (mark_neg ok h.red hw hc).mpr (.inl rfl)
      exact (mark_neg ok h'.red hv hc).mp ⟨x, hx, by unfold mark; rw [← he x hx]; exact z⟩
    have h2 : desc cr b (c :: w) := by
      obtain ⟨x, hx, z⟩ := (mark_neg ok h'.red hv hb).mpr (.inl rfl)
      exact (mark_neg ok h.red hw hb).mp ⟨x, hx, by unfold mark; rw [he x hx]; exact z⟩
    have e1 := h.least h2
    have e2 := h'.least h1
    have e : c = b := by omega
    subst e
    congr 1
    refine NF.uniq ok h.tail h'.tail (fun y hy => hw y (List.mem_cons_of_mem _ hy)) (fun y hy => hv y (List.mem_cons_of_mem _ hy)) fun x hx s => ?_
    have e3 : act cr (c :: w) (unit x) = act cr (c :: v) (unit x) := funext (he x hx)
    have e4 := congrArg (thr cr c) e3
    have e5 : thr cr c (thr cr c (act cr w (unit x))) = thr cr c (thr cr c (act cr v (unit x))) := e4
    rw [thr_thr ok, thr_thr ok] at e5
    rw [e5]
end
end Cw
set_option Elab.async false
set_option linter.all false
set_option maxRecDepth 100000
set_option maxHeartbeats 4000000
/-! a drawn floor, in plain words -/
namespace Cw
theorem splitB_congr {p p' : List Nat} : ∀ {a b : List Nat}, (∀ c ∈ a, c ∈ p ↔ c ∈ p') → splitB p a b = splitB p' a b
  | [], b, _ => rfl
  | x :: r, b, h => by
    have hx := h x (List.mem_cons_self ..)
    unfold splitB
    by_cases c : x ∈ p
    · rw [if_pos c, if_pos (hx.mp c)]
      exact splitB_congr fun c hc => h c (List.mem_cons_of_mem _ hc)
    · rw [if_neg c, if_neg (fun z => c (hx.mpr z))]
theorem stepOf_congr {p p' name : List Nat} {k : Nat} (h : ∀ c ∈ name, c ∈ p ↔ c ∈ p') : stepOf p name k = stepOf p' name k := by
  unfold stepOf
  rw [splitB_congr (p' := p') fun c hc => h c (List.mem_reverse.mp hc)]
theorem joinC_congr {f f' : Nat → List Nat} {ls : List Nat} (h : ∀ k ∈ ls, ∀ c ∈ ls, c ∈ f k ↔ c ∈ f' k) : ∀ {way name : List Nat}, (∀ c ∈ name, c ∈ ls) → (∀ c ∈ way, c ∈ ls) → joinC f name way = joinC f' name way
  | [], name, _, _ => rfl
  | k :: r, name, hn, hw => by
    show joinC f (stepOf (f k) name k) r = joinC f' (stepOf (f' k) name k) r
    have hk := hw k (List.mem_cons_self ..)
    rw [stepOf_congr (p' := f' k) fun c hc => h k hk c (hn c hc)]
    refine joinC_congr h (fun c hc => ?_) fun c hc => hw c (List.mem_cons_of_mem _ hc)
    rcases stepOf_mem hc with e | e
    · rw [e]
      exact hk
    · exact hn c e
/-- the letters of a drawn floor and which cross -/
structure Fl (ls : List Nat) (f : Nat → List Nat) : Prop where
  tab : Tab ls f
  ok : CrOk f
  asc : ls.Pairwise (· < ·)
  pos : 0 < ls.length
theorem Flr.fl {num : Nat} {ls : List Nat} {rel : Nat → Nat → Bool} (h : Flr num ls rel) : Fl ls (crossBy ls rel) where
  tab := h.tab
  asc := cut_lt' h.cut
  pos := (cut_len h.cut).2.2
  ok := by
    refine ⟨fun a b hab => ?_, fun a ha => ?_⟩
    · obtain ⟨h1, h2⟩ := List.mem_filter.mp hab
      have h3 := h.ok.in b a h2
      refine List.mem_filter.mpr ⟨h3.1, ?_⟩
      rw [h.ok.sym]
      exact h2
    · obtain ⟨h1, h2⟩ := List.mem_filter.mp ha
      exact (h.ok.in a a h2).2.2 rfl
theorem Fl.plain {ls : List Nat} {f : Nat → List Nat} (h : Fl ls f) : Fl ls (fun _ => []) where
  tab := ⟨h.tab.nd, h.tab.lt, h.tab.len, fun _ _ _ z => (nomatch z), fun _ _ => by simp⟩
  ok := ⟨fun _ _ z => (nomatch z), fun _ z => (nomatch z)⟩
  asc := h.asc
  pos := h.pos
section
variable {ls : List Nat} {f : Nat → List Nat}
theorem cross_tab (T : Tab ls f) {k c : Nat} (hk : k ∈ ls) (hc : c ∈ ls) : c ∈ crossOf (ascOf ls) (tabPairs ls f) k ↔ c ∈ f k := by
  unfold crossOf
  rw [List.mem_filter, Bool.or_eq_true, decide_eq_true_iff, decide_eq_true_iff]
  have mk : ∀ a b, a ∈ ls → b ∈ f a → b ∈ ls → ascOf [a, b] ∈ ls.flatMap fun a => (f a).map fun b => ascOf [a, b] := fun a b ha hb _ => List.mem_flatMap.mpr ⟨a, ha, List.mem_map.mpr ⟨b, hb, rfl⟩⟩
  constructor
  · rintro ⟨_, h | h⟩
    · obtain ⟨a, b, e, _, _, _, hb⟩ := tabPairs_lt T h
      injection e with e1 e2
      injection e2 with e2
      rw [e1, e2]
      exact hb
    · obtain ⟨a, b, e, _, ha, _, hb⟩ := tabPairs_lt T h
      injection e with e1 e2
      injection e2 with e2
      rw [e1, e2]
      exact (T.sub a ha b hb).2.2
  · intro h
    refine ⟨ascOf_mem.mpr ⟨T.lt c hc, hc⟩, ?_⟩
    have s := T.sub k hk c h
    rcases Nat.lt_or_gt_of_ne s.2.1 with l | l
    · refine .inr (pairsOf_mem.mpr ⟨c, k, rfl, T.lt c hc, T.lt k hk, ?_⟩)
      have := mk k c hk h hc
      rw [(asc2 (T.lt c hc) (T.lt k hk) l).2] at this
      exact this
    · refine .inl (pairsOf_mem.mpr ⟨k, c, rfl, T.lt k hk, T.lt c hc, ?_⟩)
      have := mk k c hk h hc
      rw [(asc2 (T.lt k hk) (T.lt c hc) l).1] at this
      exact this
theorem joinOf_tab (T : Tab ls f) {name way : List Nat} (hn : ∀ c ∈ name, c ∈ ls) (hw : ∀ c ∈ way, c ∈ ls) : joinOf (ascOf ls) (tabPairs ls f) name way = joinC f name way := by
  rw [joinOf_C]
  exact joinC_congr (fun k hk c hc => cross_tab T hk hc) hn hw
theorem stepOf_tab (T : Tab ls f) {name : List Nat} {k : Nat} (hk : k ∈ ls) (hn : ∀ c ∈ name, c ∈ ls) : stepOf (crossOf (ascOf ls) (tabPairs ls f) k) name k = stepOf (f k) name k := stepOf_congr fun c hc => cross_tab T hk (hn c hc)
theorem tabPairs_plain (ls : List Nat) : tabPairs ls (fun _ => []) = [] := by
  unfold tabPairs
  have : (ls.flatMap fun a => ([] : List Nat).map fun b => ascOf [a, b]) = [] := by
    induction ls with
    | nil => rfl
    | cons a r ih => simp
  rw [this]
  decide +kernel
theorem joinC_mem' {cr : Nat → List Nat} {c : Nat} : ∀ {way name : List Nat}, c ∈ joinC cr name way → c ∈ name ∨ c ∈ way
  | [], name, h => .inl h
  | k :: r, name, h => by
    rcases joinC_mem' (way := r) (name := stepOf (cr k) name k) h with z | z
    · rcases stepOf_mem z with e | e
      · exact .inr (e ▸ List.mem_cons_self ..)
      · exact .inl e
    · exact .inr (List.mem_cons_of_mem _ z)
/-- the name of a way -/
abbrev nameOf (f : Nat → List Nat) (w : List Nat) : List Nat := joinC f [] w
theorem name_mem {w : List Nat} {c : Nat} (h : c ∈ nameOf f w) : c ∈ w := (joinC_mem' h).elim (fun z => (nomatch z)) id
theorem name_len (f : Nat → List Nat) (w : List Nat) : (nameOf f w).length ≤ w.length := by
  have key : ∀ (way name : List Nat), (joinC f name way).length ≤ name.length + way.length := by
    intro way
    induction way with
    | nil => intro name; exact Nat.le_refl _
    | cons k r ih =>
      intro name
      have := ih (stepOf (f k) name k)
      have := stepOf_len (f k) name k
      show (joinC f (stepOf (f k) name k) r).length ≤ _
      rw [List.length_cons]
      omega
  have := key w []
  rw [List.length_nil] at this
  show (joinC f [] w).length ≤ _
  omega
theorem name_NF (ok : CrOk f) (w : List Nat) : NF f (nameOf f w) := NF_join ok NF_nil
theorem name_name (ok : CrOk f) (w : List Nat) : nameOf f (nameOf f w) = nameOf f w := (is_NF ok).mpr (name_NF ok w)
theorem name_app (ok : CrOk f) (a b : List Nat) : nameOf f (joinC f (nameOf f a) b) = nameOf f (a ++ b) := by
  rw [← joinC_app]
  exact name_name ok _
/-- two ways with the same marks have one name -/
theorem name_eq (ok : CrOk f) {v w : List Nat} (h : ∀ g, act f v g = act f w g) : nameOf f v = nameOf f w := by
  refine NF.uniq (ls := v ++ w) ok (name_NF ok v) (name_NF ok w) (fun y hy => List.mem_append_left _ (name_mem hy)) (fun y hy => List.mem_append_right _ (name_mem hy)) fun x _ s => ?_
  have e1 := act_join ok v [] (unit x)
  have e2 := act_join ok w [] (unit x)
  rw [List.nil_append] at e1 e2
  rw [show act f (nameOf f v) (unit x) = act f v (unit x) from e1, show act f (nameOf f w) (unit x) = act f w (unit x) from e2, h]
theorem name_act (ok : CrOk f) (w : List Nat) (g : Nat → Int) : act f (nameOf f w) g = act f w g := act_join ok w [] g
theorem name_twice (ok : CrOk f) (a : List Nat) (k : Nat) : nameOf f (a ++ [k] ++ [k]) = nameOf f a := by
  refine name_eq ok fun g => ?_
  rw [List.append_assoc, act_app]
  show act f a (thr f k (thr f k g)) = _
  rw [thr_thr ok]
end
end Cw
set_option Elab.async false
set_option linter.all false
set_option maxRecDepth 100000
set_option maxHeartbeats 4000000
/-! more operators of classes of one's own: o + text, o[text], o == text -/
namespace PySem.W
open PySem PySem.Calls PyProof.Rows Builtin
section
variable {prog : Program} {w : World} {A : Around} {E : Value → Shared → Prop} {s : Shared} {K : Frag} {x C L f : Addr} {h0 : Heap} {m : Str → Option Value} {ox : Obj} {od : Option Obj}
theorem binop_own {b : Value} {T : String} {Q : Value → Shared → Prop} (F : Fr h0 L s.heap m) (X0 : K.In h0) (I : InstAt s.heap x ox C od) (hb : Looks (model prog w) s.heap (typeOf b) (.type T)) (hno : fillsNumberSlot (.type T) "add" = pure false) (hc : selfFirst K C = true)
    (hs : findIn K (.ref C) (PySem.dunder "add") = some (some (.ref f))) (hf : isFn K (.ref f) = true)
    (h : wpAny (model prog w) A (call (.ref f) [.ref x, b]) (CmpBack Q) E s) : wpAny (model prog w) A (binaryOp .Add (.ref x) b) Q E s := by
  have X := X0.keeps F.keep
  obtain ⟨cd, hcd, hm⟩ := any_some hc
  obtain ⟨rest, hm⟩ : ∃ rest, cd.mro = .ref C :: rest := by
    cases q : cd.mro with
    | nil => rw [q] at hm; cases hm
    | cons a r => rw [q] at hm; exact ⟨r, by rw [List.head?_cons] at hm; cases (beq_iff_eq.mp hm); rfl⟩
  have ne : (Value.ref C == Value.type T) = false := rfl
  unfold binaryOp
  refine wpAny_holding (wpAny_bind ?_)
  unfold binaryOp1
  refine wpAny_bind (I.type.here (wpAny_bind (hb.here (wpAny_bind ((fills_K X hcd hm hs).here ?_)))))
  simp only [ne, Bool.false_eq_true, if_false]
  refine wpAny_bind ?_
  show wpAny (model prog w) A (fillsNumberSlot (.type T) "add") _ _ _
  rw [hno]
  refine wpAny_pure ?_
  simp only [Bool.and_false, Bool.false_eq_true, if_false, Bool.false_and]
  refine wpAny_bind (wpAny_pure ?_)
  simp only [Bool.false_eq_true, if_false, if_true]
  refine wpAny_bind (m := tryMethod (.ref x) _ b) ?_
  unfold tryMethod
  refine wpAny_bind (special_fn X I hs (beq_iff_eq.mp hf) (wpAny_mono h (fun v s' hv => ?_) fun _ _ e => e))
  cases v <;> first | exact hv.elim | exact wpAny_pure (wpAny_pure (wpAny_pure hv))
end
end PySem.W
namespace Cw
open PySem PySem.Spec L2
section
variable {X : Cx} {CX : CXT} {k : Nat} {C : Addr} {m : Str} {ps : List Str} {sp : Sp} {E : XK}
/-- o op text, by the class's own method -/
def rMS (C : Addr) (sp : Sp) (E : XK) : R2 := fun x y H Q => ∃ a dx fs z, x = .ref a ∧ y = .str z ∧ H a = some (.ins C dx fs) ∧ sp [.ref a, .str z] H Q E
theorem op_addM (D : MDef X.prog X.w X.K X.mg X.base CX k C "__add__" ps sp) (hc : PySem.W.selfFirst X.K C = true) (hr : Room k X.A) (hx : Passes CX X E) : OpR X (binaryOp .Add) (rMS C sp E) := by
  obtain ⟨f, fd, h1, h2, kp, ⟨hb, _⟩, F⟩ := D.ex
  intro pins s σ H x y v u Q I rx ry h
  obtain ⟨a, dx, fs, z, rfl, rfl, ha, hq⟩ := h
  cases rx
  obtain ⟨t, rfl⟩ := ry
  obtain ⟨mA, J, _⟩ := ins_get I.hok ha
  obtain ⟨od, J, _⟩ := J.look
  obtain ⟨mm, hF⟩ := I.fr
  refine PySem.W.binop_own (T := "str") hF I.ok.mod.kin J .now PyProof.Rows.noFill_str_add hc h1 h2 ?_
  have z := run_fn (us := [.ref a, .str z t]) (vs := [.ref a, .str z]) (dvs := []) F hr hb .nil hx I (.cons rfl (.cons ⟨t, rfl⟩ .nil)) hq
  refine wpAny_mono z (fun v s' q => ?_) fun _ _ q => q
  obtain ⟨y, H', I', r, q⟩ := q
  have k : EP X pins σ Q v s' := ⟨y, H', I', r, q⟩
  cases v <;> first | exact k | (exfalso; cases y <;> first | (obtain ⟨_, r⟩ := r; cases r) | cases r)
end
section
variable {σ : St} {H : Hp} {Q : VK} {K : PySem.W.Frag}
theorem v_MS {C : Addr} {sp : Sp} {E : XK} {a dx : Addr} {fs : List (Str × V)} {z : Str} (h : H a = some (.ins C dx fs)) (q : sp [.ref a, .str z] H Q E) : rMS C sp E (.ref a) (.str z) H Q := ⟨a, dx, fs, z, rfl, rfl, h, q⟩
end
end Cw
set_option Elab.async false
set_option linter.all false
set_option maxRecDepth 100000
set_option maxHeartbeats 4000000
/-! tables of vectors -/
namespace Cw
open PySem PySem.Spec L2
def marksKV (ls : List Nat) (A : Nat → Addr) : List (Key × V) := ls.map fun c => ((Sum.inr (tx [c]) : Key), V.ref (A c))
def vecV (ls : List Nat) (v : Nat → Int) : List V := ls.map fun x => V.int (v x)
structure MarksAt (H : Hp) (m : Addr) (ls : List Nat) (M : Nat → Nat → Int) : Prop where
  ex : ∃ A : Nat → Addr, H m = some (.dK (marksKV ls A)) ∧ ∀ c ∈ ls, H (A c) = some (.tup (vecV ls (M c)))
theorem MarksAt.same {H H' : Hp} {m : Addr} {ls : List Nat} {M : Nat → Nat → Int} (h : MarksAt H m ls M) (s : Same H H') : MarksAt H' m ls M := by
  obtain ⟨A, a, b⟩ := h.ex
  exact ⟨A, s _ _ a, fun c hc => s _ _ (b c hc)⟩
theorem MarksAt.congr {H : Hp} {m : Addr} {ls : List Nat} {M M' : Nat → Nat → Int} (h : MarksAt H m ls M) (e : ∀ c ∈ ls, ∀ x ∈ ls, M c x = M' c x) : MarksAt H m ls M' := by
  obtain ⟨A, a, b⟩ := h.ex
  refine ⟨A, a, fun c hc => ?_⟩
  rw [b c hc]
  congr 2
  exact List.map_congr_left fun x hx => by rw [e c hc x hx]
theorem marks_get {H : Hp} {d : Addr} {ls : List Nat} {A : Nat → Addr} {k : Nat} (h : H d = some (.dK (marksKV ls A))) (hk : k ∈ ls) : DGet H d (.str (tx [k])) (some (.ref (A k))) := dget_let (g := fun c => V.ref (A c)) h hk
theorem marks_getF {H : Hp} {d : Addr} {o : Obj} {ls : List Nat} {A : Nat → Addr} {k : Nat} (h : H d = some (.frz o (.dK (marksKV ls A)))) (hk : k ∈ ls) : DGet H d (.str (tx [k])) (some (.ref (A k))) :=
  .inl ⟨_, Sum.inr (tx [k]), .inr ⟨o, h⟩, rfl, (letV_some (g := fun c => V.ref (A c)) hk).symm⟩
theorem marks_new {H : Hp} {d p : Addr} {l : List Nat} {A : Nat → Addr} {k : Nat} (h : H d = some (.dK (marksKV l A))) (hk : ¬ k ∈ l) (hl : l.length < 1000000) : DPut H d (.str (tx [k])) (.ref p) (upd H d (.dK (marksKV (l ++ [k]) (fun c => if c = k then p else A c)))) := by
  have e := DPut.cross (l := [k]) (v := V.ref p) h (letV_none (g := fun c => V.ref (A c)) hk) (by unfold marksKV; rw [List.length_map]; exact hl)
  have e2 : marksKV (l ++ [k]) (fun c => if c = k then p else A c) = marksKV l A ++ [((Sum.inr (tx [k]) : Key), V.ref p)] := by
    unfold marksKV
    rw [List.map_append]
    congr 1
    · refine List.map_congr_left fun c hc => ?_
      show (_, V.ref (if c = k then p else A c)) = _
      rw [if_neg (fun z : c = k => hk (z ▸ hc))]
    · show [((Sum.inr (tx [k]) : Key), V.ref (if k = k then p else A k))] = _
      rw [if_pos rfl]
  rw [e2]
  exact e
theorem vecV_len (ls : List Nat) (v : Nat → Int) : (vecV ls v).length = ls.length := by unfold vecV; rw [List.length_map]
/-- the keys of a table by letters -/
theorem walk_let {d : Addr} {o : Obj} {ls : List Nat} {g : Nat → V} : Walk (Itk d o (ls.map fun c => ((Sum.inr (tx [c]) : Key), g c))) ls.length (fun H => H d = some (.frz o (.dK (ls.map fun c => ((Sum.inr (tx [c]) : Key), g c))))) (YFn fun k => .str (tx [ls.getD k 0])) := by
  have w := walk_keys (d := d) (o := o) (kvs := ls.map fun c => ((Sum.inr (tx [c]) : Key), g c))
  rw [List.length_map] at w
  refine w.mono (fun _ z => z) fun i H x H' hi _ y => ?_
  obtain ⟨rfl, kk, vv, hkv, rfl⟩ := y
  refine ⟨rfl, ?_⟩
  rw [List.getElem?_map, List.getElem?_eq_getElem hi] at hkv
  injection hkv with hkv
  injection hkv with a b
  show _ = V.str (tx [ls.getD i 0])
  rw [← a, List.getD_eq_getElem?_getD, List.getElem?_eq_getElem hi]
  rfl
section
variable {K : PySem.W.Frag} {a : Addr} {ls : List Nat} {f : Nat → V}
theorem yat_map {i : Nat} {H H' : Hp} {x : V} (hi : i < ls.length) (y : YAt (ls.map f) i H x H') : YFn (fun k => f (ls.getD k 0)) i H x H' := by
  obtain ⟨rfl, e⟩ := y
  refine ⟨rfl, ?_⟩
  rw [List.getElem?_map, List.getElem?_eq_getElem hi] at e
  injection e with e
  show _ = f (ls.getD i 0)
  rw [List.getD_eq_getElem?_getD, List.getElem?_eq_getElem hi]
  exact e.symm
theorem walk_listM : Walk (Itl K a) ls.length (fun H => SqL K H a (ls.map f)) (YFn fun k => f (ls.getD k 0)) := by
  have w := walk_list (K := K) (a := a) (xs := ls.map f)
  rw [List.length_map] at w
  exact w.mono (fun _ z => z) fun i H x H' hi _ y => yat_map hi y
theorem walk_tupM : Walk (Itt K a) ls.length (fun H => SqT K H a (ls.map f)) (YFn fun k => f (ls.getD k 0)) := by
  have w := walk_tup (K := K) (a := a) (xs := ls.map f)
  rw [List.length_map] at w
  exact w.mono (fun _ z => z) fun i H x H' hi _ y => yat_map hi y
end
section
variable {σ : St} {H : Hp} {Q : VK} {te : TE} {K : PySem.W.Frag}
theorem e_iT {R : It → Hp → Prop} (q : te σ H fun x H1 => ∃ a, x = .ref a ∧ (∃ xs, SqT K H1 a xs) ∧ R (Itt K a) H1) : iTup K te σ H R := q
theorem v_iT {P : Addr → Prop} {a : Addr} {xs : List V} (h : H a = some (.tup xs)) (q : P a) : ∃ a', V.ref a = .ref a' ∧ (∃ xs, SqT K H a' xs) ∧ P a' := ⟨a, rfl, ⟨xs, SqT.of h⟩, q⟩
theorem v_lenT {p : Addr} {ys : List V} (h : H p = some (.tup ys)) (q : Q (.int ys.length) H) : rLen K [.ref p] H Q := ⟨p, ys, rfl, .inr (SqT.of h), q⟩
theorem v_ixT {p : Addr} {xs : List V} {a : Int} {v : V} (h : H p = some (.tup xs)) (c : atI xs a = some v) (q : Q v H) : rIxT K (.ref p) (.int a) H Q := ⟨p, xs, a, v, rfl, rfl, SqT.of h, c, q⟩
theorem at_vec {ls : List Nat} {v : Nat → Int} {i : Nat} (h : i < ls.length) : atI (vecV ls v) ((i : Nat) : Int) = some (V.int (v (ls.getD i 0))) := by
  refine atI_nat ?_
  unfold vecV
  rw [List.getElem?_map, List.getElem?_eq_getElem h, List.getD_eq_getElem?_getD, List.getElem?_eq_getElem h]
  rfl
theorem vals_all {σ : St} {i : Nat} {tt : TT} {te : TE} {P : Addr → Hp → Prop} {J : It} {G : Hp → Prop} {ls : List Nat} {it f : Nat → V} (w : Walk J ls.length G (YFn fun k => it (ls.getD k 0))) (hG : ∀ H', Same H H' → G H') (hn : ls.length ≤ 1000000)
    (ht : ∀ c ∈ ls, ∀ H1, Same H H1 → ∀ R : Bool → Hp → Prop, (∀ H2, Same H1 H2 → R true H2) → tt ((wipe σ [i]).set i (some (it c))) H1 R)
    (he : ∀ c ∈ ls, ∀ H1, Same H H1 → ∀ R : VK, (∀ H2, Same H1 H2 → R (f c) H2) → te ((wipe σ [i]).set i (some (it c))) H1 R)
    (q : ∀ D H', H D = none → Same H H' → H' D = some (.lst (ls.map f)) → P D H') :
    ∀ D, H D = none → ∃ W : Nat → Nat → Hp → Prop, (∃ m, W 0 m (upd H D (.lst []))) ∧ ∀ k m H, W k m H →
      (J.stop k H ∧ P D H) ∨ (J.go k H ∧ ∃ Nx : Hp → Prop, (∀ H', Nx H' → ∃ m', m' < m ∧ W (k + 1) m' H') ∧ ∀ x H', J.yld k H x H' → (gName i) x (wipe σ [i]) H' fun s2 H2 => wipe s2 [i] = wipe σ [i] ∧ tt s2 H2 fun c H3 =>
        if c = true then te s2 H3 fun y H4 => ∃ acc, H4 D = some (.lst acc) ∧ acc.length < sizeLine ∧ Nx (upd H4 D (.lst (acc ++ [y]))) else Nx H3) := by
  refine lc_gen (b := fun _ => true) (f := fun k => f (ls.getD k 0)) w hG hn (fun k hk H1 s1 R r => ht _ (getD_mem hk) H1 s1 R r) (fun k hk c H1 s1 R r => he _ (getD_mem hk) H1 s1 R r) (fun D H' hD s' e => q D H' hD s' ?_)
  rw [e, range_map ls (fun _ => true) f, List.filter_eq_self.mpr (fun _ _ => rfl)]
theorem vals_some {σ : St} {i : Nat} {tt : TT} {te : TE} {P : Addr → Hp → Prop} {J : It} {G : Hp → Prop} {ls : List Nat} {it f : Nat → V} {b : Nat → Bool} (w : Walk J ls.length G (YFn fun k => it (ls.getD k 0))) (hG : ∀ H', Same H H' → G H') (hn : ls.length ≤ 1000000)
    (ht : ∀ c ∈ ls, ∀ H1, Same H H1 → ∀ R : Bool → Hp → Prop, (∀ H2, Same H1 H2 → R (b c) H2) → tt ((wipe σ [i]).set i (some (it c))) H1 R)
    (he : ∀ c ∈ ls, b c = true → ∀ H1, Same H H1 → ∀ R : VK, (∀ H2, Same H1 H2 → R (f c) H2) → te ((wipe σ [i]).set i (some (it c))) H1 R)
    (q : ∀ D H', H D = none → Same H H' → H' D = some (.lst ((ls.filter b).map f)) → P D H') :
    ∀ D, H D = none → ∃ W : Nat → Nat → Hp → Prop, (∃ m, W 0 m (upd H D (.lst []))) ∧ ∀ k m H, W k m H →
      (J.stop k H ∧ P D H) ∨ (J.go k H ∧ ∃ Nx : Hp → Prop, (∀ H', Nx H' → ∃ m', m' < m ∧ W (k + 1) m' H') ∧ ∀ x H', J.yld k H x H' → (gName i) x (wipe σ [i]) H' fun s2 H2 => wipe s2 [i] = wipe σ [i] ∧ tt s2 H2 fun c H3 =>
        if c = true then te s2 H3 fun y H4 => ∃ acc, H4 D = some (.lst acc) ∧ acc.length < sizeLine ∧ Nx (upd H4 D (.lst (acc ++ [y]))) else Nx H3) := by
  refine lc_gen (b := fun k => b (ls.getD k 0)) (f := fun k => f (ls.getD k 0)) w hG hn (fun k hk H1 s1 R r => ht _ (getD_mem hk) H1 s1 R r) (fun k hk c H1 s1 R r => he _ (getD_mem hk) c H1 s1 R r) (fun D H' hD s' e => q D H' hD s' ?_)
  rw [e, range_map ls b f]
end
theorem cr_minK {X : Cx} {K : PySem.W.Frag} (h : X.K = K) (hc : X.calm = true) : CallR X (.builtin "min") (rMin K) := h ▸ cr_min hc
/-- the scope of a comprehension: its own names, the names of the module and those of the def -/
def lcSc (loc glo fre : List String) : Scope := { kind := .function, names := (loc.map fun x => (Str.ofString x, NameKind.local)) ++ (glo.map fun x => (Str.ofString x, NameKind.globalImplicit)) ++ (fre.map fun x => (Str.ofString x, NameKind.cell)), isGenerator := false, isCoroutine := false }
end Cw
namespace Cw
open PySem PySem.Spec L2
/-- [.. for i in range(len(ls))] -/
theorem vals_rng {σ : St} {H : Hp} {i : Nat} {tt : TT} {te : TE} {P : Addr → Hp → Prop} {ls : List Nat} {f : Nat → V} (hn : ls.length ≤ 1000000)
    (ht : ∀ j, j < ls.length → ∀ H1, Same H H1 → ∀ R : Bool → Hp → Prop, (∀ H2, Same H1 H2 → R true H2) → tt ((wipe σ [i]).set i (some (.int (j : Nat)))) H1 R)
    (he : ∀ j, j < ls.length → ∀ H1, Same H H1 → ∀ R : VK, (∀ H2, Same H1 H2 → R (f (ls.getD j 0)) H2) → te ((wipe σ [i]).set i (some (.int (j : Nat)))) H1 R)
    (q : ∀ D H', H D = none → Same H H' → H' D = some (.lst (ls.map f)) → P D H') :
    ∀ D, H D = none → ∃ W : Nat → Nat → Hp → Prop, (∃ m, W 0 m (upd H D (.lst []))) ∧ ∀ k m H, W k m H →
      ((Itr 0 ((ls.length : Nat) : Int).toNat).stop k H ∧ P D H) ∨ ((Itr 0 ((ls.length : Nat) : Int).toNat).go k H ∧ ∃ Nx : Hp → Prop, (∀ H', Nx H' → ∃ m', m' < m ∧ W (k + 1) m' H') ∧ ∀ x H', (Itr 0 ((ls.length : Nat) : Int).toNat).yld k H x H' → (gName i) x (wipe σ [i]) H' fun s2 H2 => wipe s2 [i] = wipe σ [i] ∧ tt s2 H2 fun c H3 =>
        if c = true then te s2 H3 fun y H4 => ∃ acc, H4 D = some (.lst acc) ∧ acc.length < sizeLine ∧ Nx (upd H4 D (.lst (acc ++ [y]))) else Nx H3) := by
  rw [Int.toNat_natCast]
  refine lc_gen (b := fun _ => true) (f := fun k => f (ls.getD k 0)) (it := fun k => .int ((k : Nat) : Int)) (walk_rI (fun k => ((k : Nat) : Int)) (fun k => Int.zero_add _)) (fun _ _ => trivial) hn (fun k hk H1 s1 R r => ht k hk H1 s1 R r) (fun k hk c H1 s1 R r => he k hk H1 s1 R r) (fun D H' hD s' e => q D H' hD s' ?_)
  rw [e, range_map ls (fun _ => true) f, List.filter_eq_self.mpr (fun _ _ => rfl)]
end Cw
set_option Elab.async false
set_option linter.all false
set_option maxRecDepth 100000
set_option maxHeartbeats 4000000
/-! ways turned back; the doors that lead nearer -/
namespace Cw
section
variable {cr f : Nat → List Nat} {ls : List Nat}
theorem act_rev (ok : CrOk f) : ∀ (w : List Nat) (g : Nat → Int), act f w.reverse (act f w g) = g
  | [], g => rfl
  | k :: r, g => by
    rw [List.reverse_cons, act_app]
    show act f r.reverse (thr f k (thr f k (act f r g))) = g
    rw [thr_thr ok, act_rev ok r]
theorem act_rev' (ok : CrOk f) (w : List Nat) (g : Nat → Int) : act f w (act f w.reverse g) = g := by
  have := act_rev ok w.reverse g
  rw [List.reverse_reverse] at this
  exact this
theorem act_rev_eq (ok : CrOk f) {v w : List Nat} (h : ∀ g, act f v g = act f w g) (g : Nat → Int) : act f v.reverse g = act f w.reverse g := by
  have e1 := act_rev' ok w g
  rw [← h] at e1
  have e2 := congrArg (act f v.reverse) e1
  rw [act_rev ok] at e2
  exact e2.symm
/-- the name of a way turned back -/
theorem name_rev (ok : CrOk f) (w : List Nat) : nameOf f (nameOf f w).reverse = nameOf f w.reverse := name_eq ok fun g => act_rev_eq ok (name_act ok w) g
theorem name_cat (ok : CrOk f) (a b : List Nat) : nameOf f (nameOf f a ++ nameOf f b) = nameOf f (a ++ b) := name_eq ok fun g => by
  rw [act_app, act_app, name_act ok, name_act ok]
theorem name_catR (ok : CrOk f) (a b : List Nat) : nameOf f (a ++ nameOf f b) = nameOf f (a ++ b) := name_eq ok fun g => by
  rw [act_app, act_app, name_act ok]
theorem name_back (ok : CrOk f) (a : List Nat) : nameOf f (a.reverse ++ a) = [] := name_eq (w := []) ok fun g => by
  rw [act_app, act_rev ok]
  rfl
theorem name_there (ok : CrOk f) (a b : List Nat) : nameOf f (a ++ (a.reverse ++ b)) = nameOf f b := name_eq ok fun g => by
  rw [act_app, act_app, act_rev' ok]
/-- the way from one room to another one -/
def wayC (f : Nat → List Nat) (a b : List Nat) : List Nat := nameOf f (a.reverse ++ b)
theorem way_rev (ok : CrOk f) (a b : List Nat) : nameOf f (wayC f a b).reverse = wayC f b a := by
  unfold wayC
  rw [name_rev ok, List.reverse_append, List.reverse_reverse]
theorem way_tri (ok : CrOk f) (a b c : List Nat) : (wayC f a b).length ≤ (wayC f a c).length + (wayC f c b).length := by
  have e : wayC f a b = nameOf f (wayC f a c ++ wayC f c b) := by
    unfold wayC
    rw [name_cat ok]
    refine name_eq ok fun g => ?_
    simp only [act_app]
    rw [act_rev' ok]
  rw [e, ← List.length_append]
  exact name_len f _
theorem way_self (ok : CrOk f) (a : List Nat) : wayC f a a = [] := name_back ok a
theorem way_goes (ok : CrOk f) (a b : List Nat) : nameOf f (a ++ wayC f a b) = nameOf f b := by
  unfold wayC
  rw [name_catR ok, name_there ok]
/-! ### odd and even -/
/-! ### doors nearer -/
instance descDec (cr : Nat → List Nat) (s : Nat) : (w : List Nat) → Decidable (desc cr s w)
  | [] => isFalse id
  | t :: r => by
    have := descDec cr s r
    exact inferInstanceAs (Decidable (t = s ∨ (t ∈ cr s ∧ desc cr s r)))
theorem Red_iff : ∀ {w : List Nat}, Red cr w ↔ ∀ p t q r, w = p ++ t :: (q ++ t :: r) → ¬ ∀ y ∈ q, y ∈ cr t
  | [] => ⟨fun _ p t q r e => (by cases p <;> cases e), fun _ => trivial⟩
  | x :: w => by
    constructor
    · intro h p t q r e hq
      cases p with
      | nil =>
        injection e with e1 e2
        subst e1
        exact h.1 (e2 ▸ desc_of hq)
      | cons y p =>
        injection e with e1 e2
        exact Red_iff.mp h.2 p t q r e2 hq
    · intro h
      refine ⟨fun z => ?_, Red_iff.mpr fun p t q r e hq => h (x :: p) t q r (by rw [e]; rfl) hq⟩
      obtain ⟨p, q, e, hp⟩ := desc_split z
      exact h [] x p q (by rw [e]; rfl) hp
theorem Red.rev {w : List Nat} (h : Red cr w) : Red cr w.reverse := by
  rw [Red_iff]
  intro p t q r e hq
  have e2 := congrArg List.reverse e
  rw [List.reverse_reverse] at e2
  refine Red_iff.mp h r.reverse t q.reverse p.reverse ?_ fun y hy => hq y (List.mem_reverse.mp hy)
  rw [e2]
  simp
/-- the doors of a room that lead back -/
theorem backs_desc (ok : CrOk f) {w : List Nat} (hw : ∀ y ∈ w, y ∈ ls) : (ls.filter fun c => decide (∃ x ∈ ls, act f w.reverse (unit x) c < 0)) = ls.filter fun c => decide (desc f c (nameOf f w).reverse) := by
  refine List.filter_congr fun c hc => ?_
  have h1 := mark_neg (ls := ls) ok (name_NF ok w).red.rev (fun y hy => hw y (name_mem (List.mem_reverse.mp hy))) hc
  rw [Bool.eq_iff_iff, decide_eq_true_iff, decide_eq_true_iff, ← h1]
  unfold mark
  have e : ∀ g, act f (nameOf f w).reverse g = act f w.reverse g := act_rev_eq ok (name_act ok w)
  simp only [e]
theorem step_len_desc (ok : CrOk cr) (name : List Nat) (k : Nat) : (desc cr k name.reverse → (stepOf (cr k) name k).length + 1 = name.length) ∧ (¬ desc cr k name.reverse → (stepOf (cr k) name k).length = name.length + 1) := by
  obtain ⟨d, e, e1, hd, he, hc⟩ := stepOf_cases (cr k) name k
  have l1 := congrArg List.length e1
  rw [List.length_reverse, List.length_append] at l1
  rw [e1]
  have hp := desc_pass (q := e) ok hd
  rcases hc with ⟨e', rfl, e2⟩ | ⟨hk, e2⟩
  · have l2 := congrArg List.length e2
    rw [List.length_reverse, List.length_append] at l2
    rw [List.length_cons] at l1
    exact ⟨fun _ => by omega, fun z => absurd (hp.mpr (.inl rfl)) z⟩
  · have l2 := congrArg List.length e2
    rw [List.length_reverse, List.length_append, List.length_reverse, putIn_len, List.length_reverse] at l2
    refine ⟨fun z => ?_, fun _ => by omega⟩
    have z := hp.mp z
    cases e with
    | nil => exact z.elim
    | cons y r =>
      rcases z with z | ⟨z, _⟩
      · exact absurd (by rw [z]; rfl) hk
      · exact absurd z (he y rfl)
/-- letters of a way that all before them cross -/
def frees (f : Nat → List Nat) (ks : List Nat) (p : List Nat) : List Nat := p.foldl (fun free k => free.filter fun o => decide (o ∈ f k)) ks
def founds (f : Nat → List Nat) : List Nat → List Nat → List Nat
  | _, [] => []
  | free, k :: r => (if k ∈ free then [k] else []) ++ founds f (free.filter fun o => decide (o ∈ f k)) r
end
end Cw
set_option Elab.async false
set_option linter.all false
set_option maxRecDepth 100000
set_option maxHeartbeats 4000000
/-! walls in plain words: two doors of one kind lie in one wall just if their marks agree but for the sign -/
namespace Cw
/-! ### sums of coordinates -/
def sumL : List Nat → (Nat → Int) → Int
  | [], _ => 0
  | x :: r, v => v x + sumL r v
theorem sumL_congr {u v : Nat → Int} : ∀ {ls : List Nat}, (∀ x ∈ ls, u x = v x) → sumL ls u = sumL ls v
  | [], _ => rfl
  | x :: r, h => by
    show u x + sumL r u = v x + sumL r v
    rw [h x (List.mem_cons_self ..), sumL_congr fun y hy => h y (List.mem_cons_of_mem _ hy)]
theorem sumL_comb (a b : Int) (u v : Nat → Int) : ∀ ls : List Nat, sumL ls (fun x => a * u x + b * v x) = a * sumL ls u + b * sumL ls v
  | [] => by simp [sumL]
  | x :: r => by
    show (a * u x + b * v x) + sumL r _ = a * (u x + sumL r u) + b * (v x + sumL r v)
    rw [sumL_comb a b u v r, Int.mul_add, Int.mul_add]
    omega
theorem sumL_nonneg {v : Nat → Int} : ∀ {ls : List Nat}, (∀ x ∈ ls, 0 ≤ v x) → 0 ≤ sumL ls v
  | [], _ => by simp [sumL]
  | x :: r, h => by
    show 0 ≤ v x + sumL r v
    have := h x (List.mem_cons_self ..)
    have := sumL_nonneg (ls := r) fun y hy => h y (List.mem_cons_of_mem _ hy)
    omega
theorem sumL_nonpos {v : Nat → Int} : ∀ {ls : List Nat}, (∀ x ∈ ls, v x ≤ 0) → sumL ls v ≤ 0
  | [], _ => by simp [sumL]
  | x :: r, h => by
    show v x + sumL r v ≤ 0
    have := h x (List.mem_cons_self ..)
    have := sumL_nonpos (ls := r) fun y hy => h y (List.mem_cons_of_mem _ hy)
    omega
theorem sumL_pos {v : Nat → Int} : ∀ {ls : List Nat}, Pos ls v → 1 ≤ sumL ls v
  | [], h => by
    obtain ⟨x, hx, _⟩ := h.2
    cases hx
  | y :: r, h => by
    show 1 ≤ v y + sumL r v
    have h1 := h.1 y (List.mem_cons_self ..)
    have h2 := sumL_nonneg (ls := r) fun z hz => h.1 z (List.mem_cons_of_mem _ hz)
    obtain ⟨x, hx, hp⟩ := h.2
    rcases List.mem_cons.mp hx with rfl | hx
    · omega
    · have := sumL_pos (ls := r) ⟨fun z hz => h.1 z (List.mem_cons_of_mem _ hz), x, hx, hp⟩
      omega
theorem sumL_out {g : Nat → Int} {s : Nat} : ∀ {ls : List Nat}, ¬ s ∈ ls → sumL ls (fun x => g x * unit x s) = 0
  | [], _ => rfl
  | y :: r, h => by
    show g y * unit y s + sumL r _ = 0
    rw [sumL_out fun z => h (List.mem_cons_of_mem _ z)]
    unfold unit
    rw [if_neg fun z : s = y => h (z ▸ List.mem_cons_self ..)]
    simp
theorem sumL_unit {g : Nat → Int} {s : Nat} : ∀ {ls : List Nat}, ls.Nodup → s ∈ ls → sumL ls (fun x => g x * unit x s) = g s
  | [], _, h => nomatch h
  | y :: r, hn, h => by
    show g y * unit y s + sumL r _ = g s
    have hn' := List.nodup_cons.mp hn
    by_cases e : s = y
    · subst e
      rw [sumL_out hn'.1]
      unfold unit
      rw [if_pos rfl]
      omega
    · rw [sumL_unit hn'.2 ((List.mem_cons.mp h).resolve_left e)]
      unfold unit
      rw [if_neg e]
      omega
theorem sumL_one {s : Nat} {ls : List Nat} (hn : ls.Nodup) (hs : s ∈ ls) : sumL ls (fun x => unit x s) = 1 := by
  have := sumL_unit (g := fun _ => 1) hn hs
  rw [← this]
  exact sumL_congr fun x _ => by omega
section
variable {f : Nat → List Nat} {ls : List Nat} {s t : Nat}
/-- a way acts as a matrix of whole numbers -/
theorem act_lin (hn : ls.Nodup) (ok : CrOk f) (g : Nat → Int) : ∀ {w : List Nat} {s : Nat}, (∀ y ∈ w, y ∈ ls) → s ∈ ls → act f w g s = sumL ls fun x => g x * mark f w s x
  | [], s, _, hs => (sumL_unit hn hs).symm
  | t :: r, s, hw, hs => by
    have ht := hw t (List.mem_cons_self ..)
    have hr : ∀ y ∈ r, y ∈ ls := fun y hy => hw y (List.mem_cons_of_mem _ hy)
    show thr f t (act f r g) s = _
    by_cases e : s = t
    · subst e
      rw [thr_self, act_lin hn ok g hr hs]
      have := sumL_comb (-1) 0 (fun x => g x * mark f r s x) (fun _ => 0) ls
      have e2 : sumL ls (fun x => g x * mark f (s :: r) s x) = sumL ls fun x => -1 * (g x * mark f r s x) + 0 * 0 := sumL_congr fun x _ => by
        show g x * thr f s (act f r (unit x)) s = _
        rw [thr_self, Int.mul_neg]
        show -(g x * mark f r s x) = _
        omega
      rw [e2, this]
      omega
    · by_cases c : s ∈ f t
      · rw [thr_cr ok c, act_lin hn ok g hr hs]
        refine sumL_congr fun x _ => ?_
        show _ = g x * thr f t (act f r (unit x)) s
        rw [thr_cr ok c]
        rfl
      · rw [thr_not e c, act_lin hn ok g hr hs, act_lin hn ok g hr ht]
        have := sumL_comb 1 2 (fun x => g x * mark f r s x) (fun x => g x * mark f r t x) ls
        have e2 : sumL ls (fun x => g x * mark f (t :: r) s x) = sumL ls fun x => 1 * (g x * mark f r s x) + 2 * (g x * mark f r t x) := sumL_congr fun x _ => by
          show g x * thr f t (act f r (unit x)) s = _
          rw [thr_not e c]
          show g x * (mark f r s x + 2 * mark f r t x) = _
          rw [Int.mul_add, ← Int.mul_assoc, Int.mul_comm (g x) 2, Int.mul_assoc]
          omega
        rw [e2, this]
        omega
theorem mark_nn (ok : CrOk f) {w : List Nat} (hr : Red f w) (hw : ∀ y ∈ w, y ∈ ls) (hs : s ∈ ls) (hd : ¬ desc f s w) : Pos ls (mark f w s) := (mark_pos ok _ w rfl hr hw).1 s hs hd
theorem mark_np (ok : CrOk f) {w : List Nat} (hr : Red f w) (hw : ∀ y ∈ w, y ∈ ls) (hs : s ∈ ls) (hd : desc f s w) : ∀ x ∈ ls, mark f w s x ≤ 0 := by
  intro x hx
  obtain ⟨u, ru, du, lu, au, mu⟩ := Red_desc ok hr hd
  have := (mark_nn ok ru (fun y hy => hw y (mu y hy)) hs du).1 x hx
  show act f w (unit x) s ≤ 0
  rw [au, thr_self]
  have : 0 ≤ act f u (unit x) s := this
  omega
/-- a way that leaves the mark of a kind goes through kinds that cross it -/
theorem mark_fix (hn : ls.Nodup) (ok : CrOk f) (hs : s ∈ ls) : ∀ {w : List Nat}, Red f w → (∀ y ∈ w, y ∈ ls) → (∀ x ∈ ls, mark f w s x = unit x s) → ∀ y ∈ w, y ∈ f s
  | [], _, _, _, y, hy => nomatch hy
  | t :: r, hr, hw, he, y, hy => by
    have ht := hw t (List.mem_cons_self ..)
    have hr' : ∀ y ∈ r, y ∈ ls := fun y hy => hw y (List.mem_cons_of_mem _ hy)
    have S1 : sumL ls (mark f (t :: r) s) = 1 := by rw [sumL_congr he, sumL_one hn hs]
    have Pt := sumL_pos (mark_nn ok hr.2 hr' ht hr.1)
    by_cases e : s = t
    · subst e
      have e2 : sumL ls (mark f (s :: r) s) = sumL ls fun x => -1 * mark f r s x + 0 * mark f r s x := sumL_congr fun x _ => by
        show thr f s (act f r (unit x)) s = _
        rw [thr_self]
        show - mark f r s x = _
        omega
      rw [e2, sumL_comb] at S1
      omega
    · by_cases c : s ∈ f t
      · have ih := mark_fix hn ok hs hr.2 hr' fun x hx => by
          rw [← he x hx]
          show act f r (unit x) s = thr f t (act f r (unit x)) s
          rw [thr_cr ok c]
        rcases List.mem_cons.mp hy with rfl | hy
        · exact ok.sym _ _ c
        · exact ih y hy
      · have e2 : sumL ls (mark f (t :: r) s) = sumL ls fun x => 1 * mark f r s x + 2 * mark f r t x := sumL_congr fun x _ => by
          show thr f t (act f r (unit x)) s = _
          rw [thr_not e c]
          show mark f r s x + 2 * mark f r t x = _
          omega
        rw [e2, sumL_comb] at S1
        by_cases d : desc f s r
        · have := sumL_pos ((mark_pos ok _ r rfl hr.2 hr').2 s hs t ht e c d hr.1 1 1 (by decide) (by decide) (by decide))
          rw [sumL_comb] at this
          omega
        · have := sumL_pos (mark_nn ok hr.2 hr' hs d)
          omega
theorem mark_zero (ok : CrOk f) {x : Nat} : ∀ {w : List Nat} {s : Nat}, ¬ x ∈ w → x ≠ s → mark f w s x = 0
  | [], s, _, h => by
    show unit x s = 0
    unfold unit
    rw [if_neg fun z : s = x => h z.symm]
  | t :: r, s, hw, h => by
    have h1 : ¬ x ∈ r := fun z => hw (List.mem_cons_of_mem _ z)
    have h2 : x ≠ t := fun z => hw (z ▸ List.mem_cons_self ..)
    have e1 := mark_zero ok h1 h
    have e2 := mark_zero ok h1 h2
    show thr f t (act f r (unit x)) s = 0
    have e1 : act f r (unit x) s = 0 := e1
    have e2 : act f r (unit x) t = 0 := e2
    unfold thr
    split
    · omega
    · split <;> omega
theorem act_of_name (ok : CrOk f) (w : List Nat) (g : Nat → Int) : act f (nameOf f w).reverse g = act f w.reverse g := act_rev_eq ok (name_act ok w) g
/-- two rooms from which no door of a kind that crosses s leads back, with one mark of s, are one -/
theorem wall_uniq (hn : ls.Nodup) (ok : CrOk f) (hs : s ∈ ls) {m n : List Nat} (hm : NF f m) (hn' : NF f n) (im : ∀ y ∈ m, y ∈ ls) (in' : ∀ y ∈ n, y ∈ ls)
    (dm : ∀ t ∈ f s, ¬ desc f t m.reverse) (dn : ∀ t ∈ f s, ¬ desc f t n.reverse) (he : ∀ x ∈ ls, mark f m.reverse s x = mark f n.reverse s x) : m = n := by
  have imr : ∀ y ∈ m.reverse, y ∈ ls := fun y hy => im y (List.mem_reverse.mp hy)
  have inr' : ∀ y ∈ n.reverse, y ∈ ls := fun y hy => in' y (List.mem_reverse.mp hy)
  have au : ∀ g, act f (wayC f n m).reverse g = act f m.reverse (act f n g) := fun g => by
    unfold wayC
    rw [act_of_name ok, List.reverse_append, List.reverse_reverse, act_app]
  have iu : ∀ y ∈ (wayC f n m).reverse, y ∈ ls := fun y hy => by
    rcases List.mem_append.mp (name_mem (List.mem_reverse.mp hy)) with z | z
    · exact in' y (List.mem_reverse.mp z)
    · exact im y z
  have ru : Red f (wayC f n m).reverse := (name_NF ok _).red.rev
  have fx : ∀ x ∈ ls, mark f (wayC f n m).reverse s x = unit x s := by
    intro x hx
    show act f (wayC f n m).reverse (unit x) s = _
    rw [au, act_lin hn ok _ imr hs, sumL_congr (v := fun y => act f n (unit x) y * mark f n.reverse s y) fun y hy => by rw [he y hy], ← act_lin hn ok _ inr' hs, act_rev ok]
  have uin := mark_fix hn ok hs ru iu fx
  have hg := way_goes ok n m
  have am : ∀ g, act f m.reverse g = act f (wayC f n m).reverse (act f n.reverse g) := fun g => by
    rw [← act_app, ← List.reverse_append, ← act_of_name ok (n ++ wayC f n m), hg, act_of_name ok]
  cases hu : (wayC f n m).reverse with
  | nil =>
    have : wayC f n m = [] := by simpa using hu
    rw [this, List.append_nil] at hg
    have e1 : nameOf f n = n := (is_NF ok).mpr hn'
    have e2 : nameOf f m = m := (is_NF ok).mpr hm
    rw [e1, e2] at hg
    exact hg.symm
  | cons t r =>
    have tin : t ∈ f s := uin t (by rw [hu]; exact List.mem_cons_self ..)
    have tls : t ∈ ls := iu t (by rw [hu]; exact List.mem_cons_self ..)
    have hd : desc f t (wayC f n m).reverse := by rw [hu]; exact .inl rfl
    obtain ⟨x, hx, hp⟩ := (mark_nn ok hm.red.rev imr tls (dm t tin)).2
    have e1 : mark f m.reverse t x = sumL ls fun y => act f n.reverse (unit x) y * mark f (wayC f n m).reverse t y := by
      show act f m.reverse (unit x) t = _
      rw [am, act_lin hn ok _ iu tls]
    have e2 : (sumL ls fun y => act f n.reverse (unit x) y * mark f (wayC f n m).reverse t y) ≤ 0 := by
      refine sumL_nonpos fun y hy => ?_
      have np := mark_np ok ru iu tls hd y hy
      by_cases c : y ∈ f s
      · have := (mark_nn ok hn'.red.rev inr' hy (dn y c)).1 x hx
        have this : 0 ≤ act f n.reverse (unit x) y := this
        exact Int.mul_nonpos_of_nonneg_of_nonpos this np
      · have z := mark_zero ok (x := y) (w := (wayC f n m).reverse) (s := t) (fun z => c (uin y z)) (fun z => c (z ▸ tin))
        rw [z]
        omega
    omega
/-! ### the end of a way that may be left off -/
/-- letters out of free that may be brought ahead, and the rest -/
def splitA (f : Nat → List Nat) : List Nat → List Nat → List Nat × List Nat
  | _, [] => ([], [])
  | free, k :: r => if k ∈ free then (k :: (splitA f free r).1, (splitA f free r).2) else ((splitA f (free.filter fun o => decide (o ∈ f k)) r).1, k :: (splitA f (free.filter fun o => decide (o ∈ f k)) r).2)
theorem splitA_in (f : Nat → List Nat) : ∀ (w free : List Nat), ∀ y ∈ (splitA f free w).1, y ∈ free
  | [], _, y, hy => nomatch hy
  | k :: r, free, y, hy => by
    unfold splitA at hy
    by_cases c : k ∈ free
    · rw [if_pos c] at hy
      rcases List.mem_cons.mp hy with rfl | hy
      · exact c
      · exact splitA_in f r free y hy
    · rw [if_neg c] at hy
      exact (List.mem_filter.mp (splitA_in f r _ y hy)).1
theorem splitA_mem1 (f : Nat → List Nat) : ∀ (w free : List Nat), ∀ y ∈ (splitA f free w).1, y ∈ w
  | [], _, y, hy => nomatch hy
  | k :: r, free, y, hy => by
    unfold splitA at hy
    by_cases c : k ∈ free
    · rw [if_pos c] at hy
      rcases List.mem_cons.mp hy with rfl | hy
      · exact List.mem_cons_self ..
      · exact List.mem_cons_of_mem _ (splitA_mem1 f r free y hy)
    · rw [if_neg c] at hy
      exact List.mem_cons_of_mem _ (splitA_mem1 f r _ y hy)
theorem splitA_mem2 (f : Nat → List Nat) : ∀ (w free : List Nat), ∀ y ∈ (splitA f free w).2, y ∈ w
  | [], _, y, hy => nomatch hy
  | k :: r, free, y, hy => by
    unfold splitA at hy
    by_cases c : k ∈ free
    · rw [if_pos c] at hy
      exact List.mem_cons_of_mem _ (splitA_mem2 f r free y hy)
    · rw [if_neg c] at hy
      rcases List.mem_cons.mp hy with rfl | hy
      · exact List.mem_cons_self ..
      · exact List.mem_cons_of_mem _ (splitA_mem2 f r _ y hy)
theorem splitA_len (f : Nat → List Nat) : ∀ (w free : List Nat), (splitA f free w).1.length + (splitA f free w).2.length = w.length
  | [], _ => rfl
  | k :: r, free => by
    unfold splitA
    by_cases c : k ∈ free
    · rw [if_pos c]
      have := splitA_len f r free
      simp only [List.length_cons]
      omega
    · rw [if_neg c]
      have := splitA_len f r (free.filter fun o => decide (o ∈ f k))
      simp only [List.length_cons]
      omega
theorem splitA_nil (f : Nat → List Nat) : ∀ w : List Nat, splitA f [] w = ([], w)
  | [] => rfl
  | k :: r => by
    unfold splitA
    rw [if_neg (fun z => nomatch z)]
    show ((splitA f [] r).1, k :: (splitA f [] r).2) = _
    rw [splitA_nil f r]
theorem splitA_act (ok : CrOk f) (g : Nat → Int) : ∀ (w free : List Nat), act f ((splitA f free w).1 ++ (splitA f free w).2) g = act f w g
  | [], _ => rfl
  | k :: r, free => by
    unfold splitA
    by_cases c : k ∈ free
    · rw [if_pos c]
      show thr f k (act f ((splitA f free r).1 ++ (splitA f free r).2) g) = thr f k (act f r g)
      rw [splitA_act ok g r free]
    · rw [if_neg c]
      show act f ((splitA f _ r).1 ++ k :: (splitA f _ r).2) g = thr f k (act f r g)
      rw [← splitA_act ok g r (free.filter fun o => decide (o ∈ f k)), act_app, act_app]
      show act f (splitA f _ r).1 (thr f k (act f (splitA f _ r).2 g)) = _
      rw [act_comm ok fun y hy => of_decide_eq_true (List.mem_filter.mp (splitA_in f r _ y hy)).2]
theorem splitA_desc (ok : CrOk f) : ∀ (w free : List Nat), ∀ t ∈ free, ¬ desc f t (splitA f free w).2
  | [], _, t, _ => id
  | k :: r, free, t, ht => by
    unfold splitA
    by_cases c : k ∈ free
    · rw [if_pos c]
      exact splitA_desc ok r free t ht
    · rw [if_neg c]
      rintro (z | ⟨z1, z2⟩)
      · exact c (z ▸ ht)
      · exact splitA_desc ok r _ t (List.mem_filter.mpr ⟨ht, decide_eq_true (ok.sym _ _ z1)⟩) z2
theorem splitA_back {k : Nat} : ∀ {w free : List Nat}, (∀ y ∈ free, y ∈ f k) → desc f k (splitA f free w).2 → desc f k w
  | [], _, _, h => h
  | c :: r, free, hf, h => by
    unfold splitA at h
    by_cases e : c ∈ free
    · rw [if_pos e] at h
      exact .inr ⟨hf c e, splitA_back hf h⟩
    · rw [if_neg e] at h
      rcases h with h | ⟨h1, h2⟩
      · exact .inl h
      · exact .inr ⟨h1, splitA_back (fun y hy => hf y (List.mem_filter.mp hy).1) h2⟩
theorem okAt_rest {k : Nat} : ∀ {w free : List Nat}, (∀ y ∈ free, y ∈ f k) → okAt f k w → okAt f k (splitA f free w).2
  | [], _, _, h => h
  | c :: r, free, hf, h => by
    unfold splitA
    by_cases e : c ∈ free
    · rw [if_pos e]
      exact okAt_rest hf (h.2 (hf c e)).2
    · rw [if_neg e]
      exact ⟨h.1, fun z => ⟨(h.2 z).1, okAt_rest (fun y hy => hf y (List.mem_filter.mp hy).1) (h.2 z).2⟩⟩
theorem NFr_rest : ∀ {w free : List Nat}, NFr f w → NFr f (splitA f free w).2
  | [], _, h => h
  | c :: r, free, h => by
    unfold splitA
    by_cases e : c ∈ free
    · rw [if_pos e]
      exact NFr_rest h.2
    · rw [if_neg e]
      exact ⟨okAt_rest (fun y hy => of_decide_eq_true (List.mem_filter.mp hy).2) h.1, NFr_rest h.2⟩
theorem splitA_congr {g : Nat → List Nat} : ∀ {w free free' : List Nat}, (∀ c ∈ w, c ∈ free ↔ c ∈ free') → (∀ k ∈ w, ∀ c ∈ w, c ∈ f k ↔ c ∈ g k) → splitA f free w = splitA g free' w
  | [], _, _, _, _ => rfl
  | k :: r, free, free', h1, h2 => by
    have hk := h1 k (List.mem_cons_self ..)
    have h2' : ∀ k ∈ r, ∀ c ∈ r, c ∈ f k ↔ c ∈ g k := fun y hy c hc => h2 y (List.mem_cons_of_mem _ hy) c (List.mem_cons_of_mem _ hc)
    unfold splitA
    by_cases c : k ∈ free
    · rw [if_pos c, if_pos (hk.mp c), splitA_congr (fun y hy => h1 y (List.mem_cons_of_mem _ hy)) h2']
    · rw [if_neg c, if_neg fun z => c (hk.mpr z), splitA_congr (free' := free'.filter fun o => decide (o ∈ g k)) (fun y hy => ?_) h2']
      rw [List.mem_filter, List.mem_filter, decide_eq_true_iff, decide_eq_true_iff, h1 y (List.mem_cons_of_mem _ hy), h2 k (List.mem_cons_self ..) y (List.mem_cons_of_mem _ hy)]
/-! ### where a wall begins -/
def nearC (f : Nat → List Nat) (name : List Nat) (s : Nat) : List Nat := if desc f s name.reverse then stepOf (f s) name s else name
def startC (f : Nat → List Nat) (name : List Nat) (s : Nat) : List Nat := (splitA f (f s) (nearC f name s).reverse).2.reverse
theorem near_not (ok : CrOk f) {name : List Nat} (h : NF f name) (s : Nat) : ¬ desc f s (nearC f name s).reverse := by
  unfold nearC
  by_cases c : desc f s name.reverse
  · rw [if_pos c]
    intro z
    have l1 := (step_len_desc ok name s).1 c
    have l2 := (step_len_desc ok (stepOf (f s) name s) s).1 z
    have e : stepOf (f s) (stepOf (f s) name s) s = name := by
      have e1 : nameOf f name = name := (is_NF ok).mpr h
      have e2 := name_twice ok name s
      rw [e1] at e2
      have e3 : nameOf f (name ++ [s] ++ [s]) = stepOf (f s) (stepOf (f s) (nameOf f name) s) s := by
        show joinC f [] (name ++ [s] ++ [s]) = _
        rw [joinC_app, joinC_app]
        rfl
      rw [e3, e1] at e2
      exact e2
    rw [e] at l2
    omega
  · rw [if_neg c]
    exact c
theorem near_NF (ok : CrOk f) {name : List Nat} (h : NF f name) (s : Nat) : NF f (nearC f name s) := by
  unfold nearC
  split
  · exact NF_step ok h
  · exact h
theorem near_mem {name : List Nat} {s c : Nat} (h : c ∈ nearC f name s) : c = s ∨ c ∈ name := by
  unfold nearC at h
  split at h
  · exact stepOf_mem h
  · exact .inr h
theorem start_NF (ok : CrOk f) {name : List Nat} (h : NF f name) (s : Nat) : NF f (startC f name s) := by
  unfold startC NF
  rw [List.reverse_reverse]
  exact NFr_rest (near_NF ok h s)
theorem start_not (ok : CrOk f) {name : List Nat} (h : NF f name) (s : Nat) : ¬ desc f s (startC f name s).reverse := by
  unfold startC
  rw [List.reverse_reverse]
  exact fun z => near_not ok h s (splitA_back (fun y hy => hy) z)
theorem start_free (ok : CrOk f) (name : List Nat) (s : Nat) : ∀ t ∈ f s, ¬ desc f t (startC f name s).reverse := by
  unfold startC
  rw [List.reverse_reverse]
  exact splitA_desc ok _ _
theorem start_mem {name : List Nat} {s c : Nat} (h : c ∈ startC f name s) : c = s ∨ c ∈ name := near_mem (List.mem_reverse.mp (splitA_mem2 f _ _ c (List.mem_reverse.mp h)))
theorem mark_along (ok : CrOk f) {g : Nat → Int} {v : List Nat} : ∀ {u : List Nat}, (∀ y ∈ u, y ∈ f s) → act f (u ++ v) g s = act f v g s
  | [], _ => rfl
  | y :: u, h => by
    show thr f y (act f (u ++ v) g) s = _
    rw [thr_cr ok (ok.sym _ _ (h y (List.mem_cons_self ..))), mark_along ok fun z hz => h z (List.mem_cons_of_mem _ hz)]
theorem start_mark (ok : CrOk f) (name : List Nat) (s : Nat) (g : Nat → Int) : act f (startC f name s).reverse g s = act f (nearC f name s).reverse g s := by
  unfold startC
  rw [List.reverse_reverse, ← splitA_act ok g (nearC f name s).reverse (f s)]
  exact (mark_along ok (splitA_in f _ _)).symm
theorem near_mark (ok : CrOk f) (name : List Nat) (s : Nat) (g : Nat → Int) : act f (nearC f name s).reverse g s = if desc f s name.reverse then - act f name.reverse g s else act f name.reverse g s := by
  unfold nearC
  by_cases c : desc f s name.reverse
  · rw [if_pos c, if_pos c, act_rev_eq ok (fun g => act_step ok name s g), List.reverse_append]
    show thr f s (act f name.reverse g) s = _
    rw [thr_self]
  · rw [if_neg c, if_neg c]
/-- the mark or its opposite, whichever is not below nought -/
def posM (f : Nat → List Nat) (ls : List Nat) (w : List Nat) (s : Nat) : Nat → Int := if ∃ x ∈ ls, act f w.reverse (unit x) s < 0 then fun x => - act f w.reverse (unit x) s else fun x => act f w.reverse (unit x) s
theorem pos_start (ok : CrOk f) {w : List Nat} (hw : ∀ y ∈ w, y ∈ ls) (hs : s ∈ ls) (x : Nat) : posM f ls w s x = mark f (startC f (nameOf f w) s).reverse s x := by
  have hr := (name_NF ok w).red.rev
  have h1 := mark_neg (ls := ls) ok hr (fun y hy => hw y (name_mem (List.mem_reverse.mp hy))) hs
  show _ = act f (startC f (nameOf f w) s).reverse (unit x) s
  rw [start_mark ok, near_mark ok]
  unfold posM
  have e : (∃ x ∈ ls, act f w.reverse (unit x) s < 0) ↔ desc f s (nameOf f w).reverse := by
    rw [← h1]
    unfold mark
    simp only [act_of_name ok]
  by_cases c : desc f s (nameOf f w).reverse
  · rw [if_pos c, if_pos (e.mpr c), act_of_name ok]
  · rw [if_neg c, if_neg fun z => c (e.mp z), act_of_name ok]
/-- one wall, by the marks -/
theorem wall_iff (hn : ls.Nodup) (ok : CrOk f) (hs : s ∈ ls) {v w : List Nat} (hv : ∀ y ∈ v, y ∈ ls) (hw : ∀ y ∈ w, y ∈ ls) : startC f (nameOf f v) s = startC f (nameOf f w) s ↔ ∀ x ∈ ls, posM f ls v s x = posM f ls w s x := by
  constructor
  · intro h x _
    rw [pos_start ok hv hs, pos_start ok hw hs, h]
  · intro h
    have mem : ∀ {w : List Nat}, (∀ y ∈ w, y ∈ ls) → ∀ y ∈ startC f (nameOf f w) s, y ∈ ls := fun hw y hy => (start_mem hy).elim (fun z => z ▸ hs) fun z => hw y (name_mem z)
    refine wall_uniq hn ok hs (start_NF ok (name_NF ok v) s) (start_NF ok (name_NF ok w) s) (mem hv) (mem hw) (start_free ok _ s) (start_free ok _ s) fun x hx => ?_
    rw [← pos_start ok hv hs, ← pos_start ok hw hs]
    exact h x hx
end
end Cw
set_option Elab.async false
set_option linter.all false
set_option maxRecDepth 100000
set_option maxHeartbeats 4000000
/-! more words: >, upper, list + list, parts of texts, values that are no texts -/
namespace Cw
open PySem PySem.Spec L2
section
variable {X : Cx}
theorem op_cat1 : OpR X (binaryOp .Add) rCat := op_cat
end
section
variable {σ : St} {H : Hp} {Q : VK} {K : PySem.W.Frag}
theorem v_cat {l b : Addr} {xs zs : List V} (h1 : H l = some (.lst xs)) (h2 : H b = some (.lst zs)) (hl : xs.length + zs.length ≤ 1000000) (q : ∀ p H', H p = none → Same H H' → H' p = some (.lst (xs ++ zs)) → Q (.ref p) H') : rCat (.ref l) (.ref b) H Q :=
  ⟨l, b, xs, zs, rfl, rfl, h1, h2, szl hl, fun p hp => q p _ hp (Same.new hp) upd_same⟩
/-- isinstance(value, str) is False -/
def NoTx (K : PySem.W.Frag) (H : Hp) (v : V) : Prop := ∃ t, TyX K H v t ∧ PySem.W.kitOne K t (.type "str") = some false
theorem v_isiN {v : V} (h : NoTx K H v) (q : Q (.bl false) H) : rIsi K [v, .ty "str"] H Q := by
  obtain ⟨t, h1, h2⟩ := h
  exact ⟨v, .ty "str", t, .type "str", false, rfl, .ty "str", h1, h2, q⟩
theorem noTx_non : NoTx K H .non := ⟨_, .base .non, kit_ty (by decide +kernel)⟩
theorem noTx_int {i : Int} : NoTx K H (.int i) := ⟨_, .base (.int i), kit_ty (by decide +kernel)⟩
theorem noTx_lst {a : Addr} {xs : List V} (h : H a = some (.lst xs)) : NoTx K H (.ref a) := ⟨_, .base (.lst h), kit_ty (by decide +kernel)⟩
theorem noTx_tup {a : Addr} {xs : List V} (h : H a = some (.tup xs)) : NoTx K H (.ref a) := ⟨_, .base (.tup h), kit_ty (by decide +kernel)⟩
theorem noTx_ins {mg : Str → Option Value} {x : Str} {a C dx : Addr} {fs : List (Str × V)} (F : ClsF K mg x C) (k : PySem.W.kitOne K (.ref C) (.type "str") = some false) (h : H a = some (.ins C dx fs)) : NoTx K H (.ref a) := ⟨_, .base (.ins h F.cl F.ha F.hn F.ht F.hm), k⟩
end
end Cw
set_option Elab.async false
set_option linter.all false
set_option maxRecDepth 100000
set_option maxHeartbeats 4000000
/-! classes without defaults; == with an object of another class -/
namespace Cw
open PySem PySem.Spec L2
section
variable {P : Program} {w : World} {K : PySem.W.Frag} {mg : Str → Option Value} {base : Heap} {CX : CXT} {k : Nat} {C : Addr} {x qual : Str} {ps N : List Str} {sp sp0 : Sp} {st : Stmt}
/-- C(..) by its __init__, which has no defaults -/
structure CMk0 (P : Program) (w : World) (K : PySem.W.Frag) (mg : Str → Option Value) (base : Heap) (CX : CXT) (k : Nat) (x : Str) (C : Addr) (sp : Sp) (ps : List Str) (qual : Str) (st : Stmt) : Prop where
  ex : ∃ f fd sp0, mg x = some (.ref C) ∧ Mk K C f ∧ Binds K fd ps [] ∧ FnOk P w K mg base CX k f fd ps sp0 ∧ Conv C sp0 sp ∧ Fun K "__init__" qual st f fd
theorem CMk0.cdef (D : CMk0 P w K mg base CX k x C sp ps qual st) : CDef P w K mg base CX k x C sp := by
  obtain ⟨f, fd, sp0, a, b, c, d, e, _⟩ := D.ex
  exact ⟨f, fd, ps, sp0, a, b, c, d, e⟩
theorem MAt.make0 (F : MAt K C "__init__" qual st) (cf : ClsF K mg x C) (S : FnScope N ps (defScope st))
    (hb : ∀ (kV doc pm : Value) (an : Option Addr) (cdv ct : Value) (us : List Value), us.length = ps.length → bindArgs (PySem.W.fnOf "__init__" qual (defArgs st) (defBody st) (defScope st) .none kV doc pm an cdv ct) ⟨us, []⟩ = pure (ps.zip us))
    (len : ∀ vs H Q E, sp0 vs H Q E → vs.length = ps.length) (cv : Conv C sp0 sp)
    (hbody : ∀ (f : Addr) (cdv : Value) (A : Around) (outer : List Env) (s : Shared) (H : Hp) (vs : List V) (Q : VK) (E : XK), Room k (A.deeper (PyProof.Rows.envOfC qual (defScope st) s.heap.objs.size f cdv)) → sp0 vs H Q E →
      ∃ t, PSs (cxOf CX0 P w K mg base N qual (defScope st) f cdv A outer s H E).nox (defBody st) t ∧ t { nx := fun _ H' => Q .non H', rt := Q } (start N vs) H) : CMk0 P w K mg base CX0 (k + 1) x C sp ps qual st := by
  obtain ⟨f, fd, h1, h2, F⟩ := F.ex
  exact ⟨f, fd, sp0, cf.at, ⟨cf.mks, h1, h2, cf.kp⟩, F.binds hb, F.ok S len fun cdv A outer s H vs Q E hr h => hbody f cdv A outer s H vs Q E hr h, cv, F⟩
theorem CMk0.kw (D : CMk0 P w K mg base CX k x C sp ps qual st) (n : Nat) (ks : List Str) (ss : List Src)
    (h : ∀ (kV doc pm : Value) (an : Option Addr) (cdv ct : Value) (us ws : List Value), us.length = n + 1 → ws.length = ks.length → bindArgs (PySem.W.fnOf "__init__" qual (defArgs st) (defBody st) (defScope st) .none kV doc pm an cdv ct) ⟨us, ks.zip ws⟩ = pure (ps.zip (gS (.pos 0 :: ss.map Src.up) us [] ws))) : CDefN P w K mg base CX k x C sp n ks ss [] := by
  obtain ⟨f, fd, sp0, a, b, c, d, e, G⟩ := D.ex
  refine ⟨f, fd, ps, sp0, a, b, ?_, d, e⟩
  obtain ⟨oc, od, kV, doc, pm, an, cdv, ct, osl, rfl, _⟩ := G.ex
  exact kb_of (h kV doc pm an cdv ct)
end
section
variable {X : Cx} {CX : CXT} {k : Nat} {C C' : Addr} {m : Str} {ps : List Str} {sp : Sp} {E : XK}
end
end Cw
set_option Elab.async false
set_option linter.all false
set_option maxRecDepth 100000
set_option maxHeartbeats 4000000
/-! more of walls in plain words -/
namespace Cw
section
variable {f : Nat → List Nat} {ls : List Nat} {s t : Nat}
/-- a door from its other side -/
theorem pos_thr (ok : CrOk f) {w : List Nat} (hw : ∀ y ∈ w, y ∈ ls) (hs : s ∈ ls) : posM f ls (w ++ [s]) s = posM f ls w s := by
  have hr := (name_NF ok w).red.rev
  have hm : ∀ y ∈ (nameOf f w).reverse, y ∈ ls := fun y hy => hw y (name_mem (List.mem_reverse.mp hy))
  have e1 : ∀ x, act f (w ++ [s]).reverse (unit x) s = - act f w.reverse (unit x) s := fun x => by
    rw [List.reverse_append]
    show thr f s (act f w.reverse (unit x)) s = _
    rw [thr_self]
  have e2 : ∀ x, mark f (nameOf f w).reverse s x = act f w.reverse (unit x) s := fun x => by
    unfold mark
    rw [act_of_name ok]
  unfold posM
  simp only [e1]
  by_cases c : desc f s (nameOf f w).reverse
  · have h1 := mark_np ok hr hm hs c
    have h2 := (mark_neg (ls := ls) ok hr hm hs).mpr c
    simp only [e2] at h1 h2
    rw [if_pos h2, if_neg]
    rintro ⟨x, hx, z⟩
    have := h1 x hx
    omega
  · have h1 := mark_nn ok hr hm hs c
    obtain ⟨h1, x, hx, h2⟩ := h1
    simp only [e2] at h1 h2
    rw [if_pos ⟨x, hx, by omega⟩, if_neg]
    · funext y
      omega
    · rintro ⟨y, hy, z⟩
      have := h1 y hy
      omega
theorem wall_thr (hn : ls.Nodup) (ok : CrOk f) (hs : s ∈ ls) {w : List Nat} (hw : ∀ y ∈ w, y ∈ ls) : startC f (nameOf f (w ++ [s])) s = startC f (nameOf f w) s := by
  refine (wall_iff hn ok hs (fun y hy => ?_) hw).mpr fun x _ => by rw [pos_thr ok hw hs]
  rcases List.mem_append.mp hy with z | z
  · exact hw y z
  · rw [List.mem_singleton.mp z]
    exact hs
end
end Cw
set_option Elab.async false
set_option linter.all false
set_option maxRecDepth 100000
set_option maxHeartbeats 4000000
/-! rooms beyond a wall, by the marks of the doors of a shortest way -/
namespace Cw
section
variable {f : Nat → List Nat} {ls : List Nat} {s c : Nat}
theorem int_one {k t : Int} (h : k * t = 1) (hk : 0 < k) : k = 1 := by
  have ht : 0 < t := by
    rcases Int.lt_or_le 0 t with z | z
    · exact z
    · have := Int.mul_nonpos_of_nonneg_of_nonpos (Int.le_of_lt hk) z
      omega
  have h1 : k * 1 ≤ k * t := Int.mul_le_mul_of_nonneg_left (by omega) (by omega)
  omega
theorem unit_thr {x e : Nat} (hx : x ≠ c) : thr f c (unit x) e = unit x e := by
  have h0 : unit x c = 0 := by
    unfold unit
    rw [if_neg hx.symm]
  unfold thr
  by_cases h : e = c
  · rw [if_pos h, h, h0]
    rfl
  · rw [if_neg h]
    split
    · rfl
    · rw [h0]
      omega
/-- what stands on one side of all, in a word -/
theorem sign_def (ok : CrOk f) {w : List Nat} (hw : ∀ y ∈ w, y ∈ ls) (hs : s ∈ ls) : Pos ls (mark f w s) ∨ ((∀ x ∈ ls, mark f w s x ≤ 0) ∧ ∃ x ∈ ls, mark f w s x < 0) := by
  have hm : ∀ y ∈ nameOf f w, y ∈ ls := fun y hy => hw y (name_mem hy)
  have hr := (name_NF ok w).red
  have e : ∀ x, mark f (nameOf f w) s x = mark f w s x := fun x => by
    unfold mark
    rw [name_act ok]
  by_cases d : desc f s (nameOf f w)
  · right
    have h1 := mark_np ok hr hm hs d
    have h2 := (mark_neg (ls := ls) ok hr hm hs).mpr d
    simp only [e] at h1 h2
    exact ⟨h1, h2⟩
  · left
    exact (mark_nn ok hr hm hs d).congr fun x _ => (e x).symm
end
end Cw
set_option Elab.async false
set_option linter.all false
set_option maxRecDepth 100000
set_option maxHeartbeats 4000000
/-! the middle of three rooms, in plain words -/
namespace Cw
section
variable {f : Nat → List Nat} {ls : List Nat} {s t c : Nat}
/-- the mark has a coordinate below nought -/
def Ng (f : Nat → List Nat) (ls : List Nat) (w : List Nat) (s : Nat) : Prop := ∃ x ∈ ls, mark f w s x < 0
theorem ng_desc (ok : CrOk f) {w : List Nat} (hr : Red f w) (hw : ∀ y ∈ w, y ∈ ls) (hs : s ∈ ls) : Ng f ls w s ↔ desc f s w := mark_neg ok hr hw hs
theorem ng_name (ok : CrOk f) (w : List Nat) (s : Nat) : Ng f ls (nameOf f w) s ↔ Ng f ls w s := by
  unfold Ng mark
  simp only [name_act ok]
theorem ng_act {v w : List Nat} (h : ∀ g, act f v g = act f w g) (s : Nat) : Ng f ls v s ↔ Ng f ls w s := by
  unfold Ng mark
  simp only [h]
theorem not_ng (ok : CrOk f) {w : List Nat} (hw : ∀ y ∈ w, y ∈ ls) (hs : s ∈ ls) : ¬ Ng f ls w s ↔ Pos ls (mark f w s) := by
  constructor
  · intro h
    exact (sign_def ok hw hs).resolve_right fun z => h z.2
  · rintro ⟨h1, _⟩ ⟨x, hx, z⟩
    have := h1 x hx
    omega
theorem ng_np (ok : CrOk f) {w : List Nat} (hw : ∀ y ∈ w, y ∈ ls) (hs : s ∈ ls) (h : Ng f ls w s) : ∀ x ∈ ls, mark f w s x ≤ 0 := by
  rcases sign_def ok hw hs with z | z
  · exact absurd h ((not_ng ok hw hs).mpr z)
  · exact z.1
theorem desc_left {s : Nat} {b : List Nat} : ∀ {a : List Nat}, desc f s a → desc f s (a ++ b)
  | [], h => h.elim
  | y :: a, h => by
    rcases h with h | ⟨h1, h2⟩
    · exact .inl h
    · exact .inr ⟨h1, desc_left h2⟩
theorem Red_left {b : List Nat} : ∀ {a : List Nat}, Red f (a ++ b) → Red f a
  | [], _ => trivial
  | y :: a, h => ⟨fun z => h.1 (desc_left z), Red_left h.2⟩
/-- where the sign turns along a way, one door of the way lies in the wall -/
theorem turn_door (hn : ls.Nodup) (ok : CrOk f) {z : List Nat} (hz : ∀ y ∈ z, y ∈ ls) (hs : s ∈ ls) : ∀ (u : List Nat), (∀ y ∈ u, y ∈ ls) → ¬ (Ng f ls z s ↔ Ng f ls (z ++ u) s) → ∃ p c q, u = p ++ c :: q ∧ ((∀ g, act f (z ++ p) g s = g c) ∨ (∀ g, act f (z ++ p) g s = - g c)) := by
  intro u hu h
  -- the first place where the sign turns
  have key : ∀ (p q : List Nat), u = p ++ q → ¬ (Ng f ls (z ++ p) s ↔ Ng f ls (z ++ u) s) → ∃ p c q, u = p ++ c :: q ∧ ¬ (Ng f ls (z ++ p) s ↔ Ng f ls (z ++ (p ++ [c])) s) := by
    intro p q
    induction q generalizing p with
    | nil =>
      intro e h
      rw [List.append_nil] at e
      rw [e] at h
      exact absurd Iff.rfl h
    | cons c q ih =>
      intro e h
      by_cases d : Ng f ls (z ++ p) s ↔ Ng f ls (z ++ (p ++ [c])) s
      · refine ih (p ++ [c]) (by rw [e, List.append_assoc]; rfl) fun w => h (d.trans w)
      · exact ⟨p, c, q, e, d⟩
  obtain ⟨p, c, q, e, d⟩ := key [] u rfl (by rw [List.append_nil]; exact h)
  refine ⟨p, c, q, e, ?_⟩
  subst e
  have hc : c ∈ ls := hu c (List.mem_append_right _ (List.mem_cons_self ..))
  have hzp : ∀ y ∈ z ++ p, y ∈ ls := fun y hy => (List.mem_append.mp hy).elim (hz y) fun w => hu y (List.mem_append_left _ w)
  have hzc : ∀ y ∈ z ++ (p ++ [c]), y ∈ ls := fun y hy => by
    rw [← List.append_assoc] at hy
    rcases List.mem_append.mp hy with w | w
    · exact hzp y w
    · rw [List.mem_singleton.mp w]
      exact hc
  have same : ∀ x, x ≠ c → mark f (z ++ (p ++ [c])) s x = mark f (z ++ p) s x := fun x hx => by
    unfold mark
    rw [← List.append_assoc, act_app]
    show act f (z ++ p) (thr f c (unit x)) s = _
    rw [show thr f c (unit x) = unit x from funext fun e => unit_thr hx]
  have eq0 : ∀ x ∈ ls, x ≠ c → mark f (z ++ p) s x = 0 := by
    intro x hx hxc
    have e := same x hxc
    by_cases n : Ng f ls (z ++ p) s
    · have n2 : ¬ Ng f ls (z ++ (p ++ [c])) s := fun w => d ⟨fun _ => w, fun _ => n⟩
      have a1 := ng_np ok hzp hs n x hx
      have a2 := ((not_ng ok hzc hs).mp n2).1 x hx
      omega
    · have n2 : Ng f ls (z ++ (p ++ [c])) s := Classical.byContradiction fun w => d ⟨fun a => absurd a n, fun a => absurd a w⟩
      have a1 := ((not_ng ok hzp hs).mp n).1 x hx
      have a2 := ng_np ok hzc hs n2 x hx
      omega
  have lin : ∀ g, act f (z ++ p) g s = mark f (z ++ p) s c * g c := by
    intro g
    rw [act_lin hn ok g hzp hs]
    have e2 : sumL ls (fun x => g x * mark f (z ++ p) s x) = sumL ls fun x => (mark f (z ++ p) s c * g x) * unit x c := sumL_congr fun x hx => by
      unfold unit
      by_cases e : c = x
      · rw [if_pos e, ← e, Int.mul_one, Int.mul_comm]
      · rw [if_neg e, eq0 x hx fun w => e w.symm]
        omega
    rw [e2]
    exact sumL_unit (g := fun x => mark f (z ++ p) s c * g x) hn hc
  have h1 := lin (act f (z ++ p).reverse (unit s))
  rw [act_rev' ok] at h1
  have hu1 : unit s s = 1 := if_pos rfl
  rw [hu1] at h1
  rcases Int.lt_or_le 0 (mark f (z ++ p) s c) with k0 | k0
  · have one := int_one h1.symm k0
    exact .inl fun g => by rw [lin, one, Int.one_mul]
  · have hk : mark f (z ++ p) s c ≠ 0 := fun w => by rw [w] at h1; omega
    have one : - mark f (z ++ p) s c = 1 := int_one (t := - act f (z ++ p).reverse (unit s) c) (by rw [Int.neg_mul_neg]; exact h1.symm) (by omega)
    exact .inr fun g => by
      rw [lin]
      have : mark f (z ++ p) s c = -1 := by omega
      rw [this]
      omega
end
end Cw
set_option Elab.async false
set_option linter.all false
set_option maxRecDepth 100000
set_option maxHeartbeats 4000000
/-! the room between each two of three -/
namespace Cw
section
variable {f : Nat → List Nat} {ls : List Nat} {s t k : Nat}
theorem red_of_len (ok : CrOk f) {w : List Nat} (h : (nameOf f w).length = w.length) : Red f w := by
  rw [Red_iff]
  intro p t q r e hq
  have e2 : nameOf f w = nameOf f (p ++ (q ++ r)) := name_eq ok fun g => by
    rw [e]
    simp only [act_app]
    show act f p (thr f t (act f (q ++ t :: r) g)) = _
    rw [act_app]
    show act f p (thr f t (act f q (thr f t (act f r g)))) = _
    rw [act_comm ok hq, thr_thr ok]
  have l1 := name_len f (p ++ (q ++ r))
  rw [← e2, h, e] at l1
  simp only [List.length_append, List.length_cons] at l1
  omega
/-- one letter less -/
theorem erase_desc (ok : CrOk f) {w : List Nat} (h : desc f k w) : ∃ p q, w = p ++ k :: q ∧ (∀ y ∈ p, y ∈ f k) ∧ w.erase k = p ++ q := by
  obtain ⟨p, q, rfl, hp⟩ := desc_split h
  refine ⟨p, q, rfl, hp, ?_⟩
  rw [List.erase_append_right _ fun z => ok.irr k (hp k z), List.erase_cons_head]
theorem erase_red (ok : CrOk f) {w : List Nat} (h : desc f k w) (hr : Red f w) : Red f (w.erase k) := by
  obtain ⟨p, q, rfl, hp, e⟩ := erase_desc ok h
  rw [e]
  exact Red_out ok hp hr
theorem erase_act (ok : CrOk f) {w : List Nat} (h : desc f k w) (g : Nat → Int) : act f (k :: w.erase k) g = act f w g := by
  obtain ⟨p, q, rfl, hp, e⟩ := erase_desc ok h
  rw [e]
  show thr f k (act f (p ++ q) g) = _
  rw [act_app, act_app]
  show _ = act f p (thr f k (act f q g))
  rw [act_comm ok hp]
theorem erase_len {w : List Nat} (h : desc f k w) : (w.erase k).length + 1 = w.length := by
  obtain ⟨p, q, rfl, hp⟩ := desc_split h
  have : k ∈ p ++ k :: q := List.mem_append_right _ (List.mem_cons_self ..)
  rw [List.length_erase_of_mem this]
  have : 0 < (p ++ k :: q).length := by rw [List.length_append, List.length_cons]; omega
  omega
/-- what is in common at the beginning of two ways, and the rests -/
structure Share (f : Nat → List Nat) (ls u v fd u' v' : List Nat) : Prop where
  au : ∀ g, act f u g = act f (fd ++ u') g
  av : ∀ g, act f v g = act f (fd ++ v') g
  ru : Red f u'
  rv : Red f v'
  mu : ∀ y ∈ u', y ∈ ls
  mv : ∀ y ∈ v', y ∈ ls
  mf : ∀ y ∈ fd, y ∈ ls
  lu : fd.length + u'.length = u.length
  lv : fd.length + v'.length = v.length
theorem Share.start {u v : List Nat} (ru : Red f u) (rv : Red f v) (mu : ∀ y ∈ u, y ∈ ls) (mv : ∀ y ∈ v, y ∈ ls) : Share f ls u v [] u v := ⟨fun _ => rfl, fun _ => rfl, ru, rv, mu, mv, fun _ z => (nomatch z), by simp, by simp⟩
theorem Share.step (ok : CrOk f) {u v fd u' v' : List Nat} (h : Share f ls u v fd u' v') (hk : k ∈ ls) (hu : desc f k u') (hv : desc f k v') : Share f ls u v (fd ++ [k]) (u'.erase k) (v'.erase k) where
  au := fun g => by rw [h.au, List.append_assoc, act_app, act_app]; show _ = act f fd (act f (k :: u'.erase k) g); rw [erase_act ok hu]
  av := fun g => by rw [h.av, List.append_assoc, act_app, act_app]; show _ = act f fd (act f (k :: v'.erase k) g); rw [erase_act ok hv]
  ru := erase_red ok hu h.ru
  rv := erase_red ok hv h.rv
  mu := fun y hy => h.mu y (List.mem_of_mem_erase hy)
  mv := fun y hy => h.mv y (List.mem_of_mem_erase hy)
  mf := fun y hy => (List.mem_append.mp hy).elim (h.mf y) fun z => by rw [List.mem_singleton.mp z]; exact hk
  lu := by
    have := erase_len hu
    have := h.lu
    rw [List.length_append, List.length_singleton]
    omega
  lv := by
    have := erase_len hv
    have := h.lv
    rw [List.length_append, List.length_singleton]
    omega
/-- the middle of three rooms, by all walls -/
structure Mid (f : Nat → List Nat) (ls a b c M : List Nat) : Prop where
  nf : NF f M
  mem : ∀ y ∈ M, y ∈ ls
  by' : ∀ z : List Nat, (∀ y ∈ z, y ∈ ls) → ∀ s ∈ ls, (Ng f ls (z ++ M) s ↔ (Ng f ls (z ++ a) s ∧ Ng f ls (z ++ b) s) ∨ (Ng f ls (z ++ a) s ∧ Ng f ls (z ++ c) s) ∨ (Ng f ls (z ++ b) s ∧ Ng f ls (z ++ c) s))
theorem ng_nil {s : Nat} : ¬ Ng f ls [] s := by
  rintro ⟨x, _, h⟩
  have h : unit x s < 0 := h
  unfold unit at h
  split at h <;> omega
theorem ng_back (ok : CrOk f) (m : List Nat) (s : Nat) : ¬ Ng f ls (m.reverse ++ m) s := fun z => ng_nil (f := f) (ls := ls) (s := s) ((ng_act (w := []) (fun g => by rw [act_app, act_rev ok]; rfl) s).mp z)
/-- rooms that no wall parts are one -/
theorem room_uniq (ok : CrOk f) {M N : List Nat} (hM : NF f M) (hN : NF f N) (mM : ∀ y ∈ M, y ∈ ls) (mN : ∀ y ∈ N, y ∈ ls) (h : ∀ s ∈ ls, ¬ Ng f ls (M.reverse ++ N) s) : M = N := by
  have hw : ∀ y ∈ wayC f M N, y ∈ ls := fun y hy => by
    rcases List.mem_append.mp (name_mem hy) with z | z
    · exact mM y (List.mem_reverse.mp z)
    · exact mN y z
  have e : wayC f M N = [] := by
    cases hc : wayC f M N with
    | nil => rfl
    | cons t r =>
      exfalso
      have ht : t ∈ ls := hw t (by rw [hc]; exact List.mem_cons_self ..)
      refine h t ht ((ng_name ok _ t).mp ((ng_desc ok (name_NF ok _).red hw ht).mpr ?_))
      show desc f t (wayC f M N)
      rw [hc]
      exact .inl rfl
  have := way_goes ok M N
  rw [e, List.append_nil] at this
  have e1 : nameOf f M = M := (is_NF ok).mpr hM
  have e2 : nameOf f N = N := (is_NF ok).mpr hN
  rw [e1, e2] at this
  exact this
theorem Mid.uniq (ok : CrOk f) {a b c a' b' c' M N : List Nat} (h : Mid f ls a b c M) (h' : Mid f ls a' b' c' N)
    (hp : ∀ z : List Nat, (∀ y ∈ z, y ∈ ls) → ∀ s ∈ ls, (((Ng f ls (z ++ a) s ∧ Ng f ls (z ++ b) s) ∨ (Ng f ls (z ++ a) s ∧ Ng f ls (z ++ c) s) ∨ (Ng f ls (z ++ b) s ∧ Ng f ls (z ++ c) s)) ↔ ((Ng f ls (z ++ a') s ∧ Ng f ls (z ++ b') s) ∨ (Ng f ls (z ++ a') s ∧ Ng f ls (z ++ c') s) ∨ (Ng f ls (z ++ b') s ∧ Ng f ls (z ++ c') s)))) : M = N := by
  refine room_uniq (ls := ls) ok h.nf h'.nf h.mem h'.mem fun s hs z => ng_back (ls := ls) ok M s ?_
  have mz : ∀ y ∈ M.reverse, y ∈ ls := fun y hy => h.mem y (List.mem_reverse.mp hy)
  exact (h.by' _ mz s hs).mpr ((hp _ mz s hs).mpr ((h'.by' _ mz s hs).mp z))
end
end Cw
set_option Elab.async false
set_option linter.all false
set_option maxRecDepth 100000
set_option maxHeartbeats 4000000
/-! text.replace(letter, "", 1): the first such letter is left out -/
namespace Cw
open PySem PySem.Spec L2 PyProof.Rows Builtin Builtin.Str
/-! ### def without_first(way, kind): return way.replace(kind, "", 1) -/
/-- its promise, of raw arguments -/
def CutRun (P : Program) (w : World) (K : PySem.W.Frag) (mg : Str → Option Value) (base : Heap) (CX : CXT) (k : Nat) (f : Addr) : Prop :=
  ∀ (A : Around) (outer : List Env) (s : Shared) (H : Hp) (p q : List Nat) (c : Nat) (t u : Tok) (Q : VK) (E : XK), Room k A → Env0 P w K mg base A outer s H → u ≠ 0 → u < s.toks → ¬ c ∈ p → (p ++ c :: q).length ≤ 1000000 → Q (.str (tx (p ++ q))) H →
    codeAny (model P w) A (.call (.ref f) ⟨[.str (tx (p ++ c :: q)) t, .str (tx [c]) u], []⟩) (CR CX outer P w H s Q E) s
end Cw
set_option Elab.async false
set_option linter.all false
set_option maxRecDepth 100000
set_option maxHeartbeats 4000000
/-! a loop over a text whose letters go on to text.replace: the letter's token is carried in its name -/
namespace Cw
open PySem PySem.Spec L2
section
variable {X : Cx} {pins : List (Addr × Obj)} {σ : St} {H : Hp} {s : Shared}
/-- the letter c stands under the name x, with the token u -/
def RawAt (X : Cx) (x : Str) (c : Nat) (u : Tok) (s : Shared) : Prop := ∃ m, s.heap.Ns X.env.locals m ∧ m x = some (.str (tx [c]) u) ∧ u ≠ 0 ∧ u < s.toks
end
/-! ### judgements that carry the letter -/
def PSsR (X : Cx) (ix : Nat) (x : Str) (st : List Stmt) (t : TS) : Prop :=
  ∀ (pins : List (Addr × Obj)) (s : Shared) (σ : St) (H : Hp) (D : Ends) (c : Nat) (u : Tok), Inv X pins σ H s → σ[ix]? = some (some (.str (tx [c]))) → RawAt X x c u s → t D σ H → wpAny (model X.prog X.w) X.A (execs st X.env) (SP X pins D) X.xe s
section
variable {X : Cx} {ix : Nat} {x : Str} {rest : List Stmt} {u : TS}
theorem PSsR.of (h : PSs X rest u) : PSsR X ix x rest u := fun pins s σ H D _ _ I _ _ q => h.run pins s σ H D I q
end
end Cw
set_option Elab.async false
set_option linter.all false
set_option maxRecDepth 100000
set_option maxHeartbeats 4000000
/-! the middle lies between -/
namespace Cw
section
variable {f : Nat → List Nat} {ls : List Nat} {s : Nat}
def Btw (f : Nat → List Nat) (a b M : List Nat) : Prop := (wayC f a M).length + (wayC f M b).length = (wayC f a b).length
/-- the middle, between the first room and the others -/
structure MidX (f : Nat → List Nat) (ls a b c M : List Nat) : Prop extends Mid f ls a b c M where
  ab : Btw f a b M
  ac : Btw f a c M
end
end Cw
set_option Elab.async false
set_option linter.all false
set_option maxRecDepth 100000
set_option maxHeartbeats 4000000
/-! ''.join(d): the keys of a dict, one behind another -/
namespace PySem
open Builtin Builtin.Str
theorem keyit_len : typeLookup (.type "dict_keyiterator") "__len__" = pure none := by rw [typeLookup_type, builtinLookup_eq_fast]; kernel_rfl
section
variable {prog : Program} {w : World} {A : Around} {E : Value → Shared → Prop} {s : Shared} {J : Addr} {fp wr : List Addr} {G : Array GenState → Array GenState → Prop} {m : Nat} {P : Nat → Value → Prop} {Z : Nat → Shared → Prop}
theorem collect_keyit {Q : List Value → Shared → Prop} (W : WalksS prog w A.in1 J fp wr G m P Z) (ty : ∀ i s, Z i s → s.TypeIs (.ref J) "dict_keyiterator") (z0 : Z 0 s) (lt : ∀ b ∈ fp, b < s.heap.objs.size) (mem : J ∈ fp) (sz : m ≤ sizeLine)
    (hQ : ∀ s' acc, Moved wr G s s' → ItemsOf P acc m → Q acc.toList s') : wpAny (model prog w) A (collect (.ref J)) Q E s := by
  have out : s.heap.objs.size ∉ fp := fun z => absurd (lt _ z) (Nat.lt_irrefl _)
  have ne : s.heap.objs.size ≠ J := fun z => out (z.symm ▸ mem)
  let L : Obj := { cls := .type "list", data := .seq ([] : List Value).toArray }
  have z1 := W.frame 0 s (s.heap.push L) s.toks z0 (Nat.le_refl _) fun _ _ _ e => Heap.get?_push_of_some _ e
  have at1 : (s.heap.push L).get? s.heap.objs.size = some L := Heap.get?_push_size _ rfl
  have t1 := ty 0 _ z1
  have d1 : Builtin.List.listSameRef (.ref s.heap.objs.size) (.ref J) = false := by simp [Builtin.List.listSameRef, ne]
  unfold collect
  apply wpAny_bind
  apply wpAny_runValue
  apply codeAny_builtin F.entry_proto_collect
  rw [show A.under (.builtin "proto.collect" ⟨[.ref J], []⟩) = A.in1 from Around.under_plainId F.plain_proto_collect _]
  show wpAny (model prog w) A.in1 (newList [] >>= fun l => again (.builtin "list.__iadd__" ⟨[l, Value.ref J], []⟩)) _ _ s
  refine wpAny_bind (wpAny_newObj_type (wpAny_pure ⟨plainId_quiet F.plain_list_iadd _, (?_ : codeAny _ _ _ _ _)⟩))
  apply codeAny_builtin F.entry_list_iadd
  rw [show A.under (.builtin "list.__iadd__" ⟨[.ref s.heap.objs.size, .ref J], []⟩) = A.in1 from Around.under_plainId F.plain_list_iadd _]
  show wpAny (model prog w) A.in1 (Builtin.List.listExtendWith (.ref s.heap.objs.size) (.ref J) (.ref s.heap.objs.size)) _ _ { s with heap := s.heap.push L }
  unfold Builtin.List.listExtendWith
  apply wpAny_bind
  refine wpAny_typeOf t1 ?_
  rw [if_neg (show ¬ _ by rw [d1]; decide)]
  apply wpAny_bind
  refine W.self 0 _ _ _ z1 ?_
  apply wpAny_bind
  apply wpAny_holding
  unfold Builtin.List.listLengthHint
  apply wpAny_bind
  refine wpAny_specialOf t1 keyit_len ?_
  show wpAny (model prog w) A.in1 (specialOf (Value.ref J) (Str.ofString "__length_hint__") >>= fun _ => _) _ _ _
  apply wpAny_bind
  refine wpAny_specialOf t1 F.slot_dict_keyiterator_length_hint.lookup ?_
  generalize hj : ("dict_keyiterator.__length_hint__" : String) = jd
  wp_delta
  rw [show splitId jd = some ("dict_keyiterator", "__length_hint__") by subst hj; decide +kernel]
  subst hj
  apply wpAny_bind
  refine wpAny_isInstance (b := true) t1 (by rw [isSubtype_type]; kernel_rfl) ?_
  apply wpAny_pure
  rw [if_neg (by decide)]
  apply wpAny_pure
  refine ⟨plainId_quiet F.plain_extend_loop _, codeAny_extend_loopS W sz _ out _ m 0 _ _ _ rfl (Nat.zero_le _) z1 at1 (ItemsOf.nil P) fun s2 acc c mv at2 items => ?_⟩
  apply wpAny_bind
  refine wpAny_load at2 ?_
  apply wpAny_pure
  exact hQ s2 acc (Moved.drop_new (o := L) (tk := s.toks) mv (Nat.le_refl _)) items
end
section
variable {prog : Program} {w : World} {A : Around} {E : Value → Shared → Prop} {s : Shared} {sep : Str} {t : Tok} {Q : Value → Shared → Prop}
theorem join_keys {K : Type} [DecidableEq K] {knd : KeyKind prog w K} {d : Addr} {kvs : List (K × Value)} {ep : Nat} (nf : A.handled = none) (lo : (d == sysModules) = false) (hm : s.heap.DictAt knd d kvs ep) (sz : kvs.length ≤ sizeLine)
    (str : ∀ (i : Nat) (k : K) (x v : Value), kvs[i]? = some (k, x) → knd.is k v = true → ∃ y u, v = Value.str y u)
    (hq : ∀ h' (l : List (Str × Tok)), (∀ b o, s.heap.get? b = some o → h'.get? b = some o) → ItemsOf (fun (i : Nat) v => ∃ k x, kvs[i]? = some (k, x) ∧ knd.is k v = true) (strValues l).toArray kvs.length → JoinOk sep (l.map (·.1)) = true ∧ ∀ t' k, Q (.str (Txt.join sep (l.map (·.1))) t') { s with heap := h', toks := k }) :
    wpAny (model prog w) A (call (.builtin "str.join") [.str sep t, .ref d]) Q E s := by
  apply wpAny_call
  refine codeAny_call_builtin F.slot_str_join.plain F.entry_str_join (F.slot_str_join.check _ _ _ _ _ _ _ _ (typeIs_str _ _ _) (F.args_str_join_2 _ _) ?_)
  rw [join_tree_other]
  apply wpAny_bind
  refine wpAny_typeOf hm.dictOf.typeIs ?_
  show wpAny (model prog w) A.in1 ((pyIter (.ref d)).tryCatch _ >>= fun it => collect it >>= fun xs => joinTail sep xs) _ _ s
  apply wpAny_bind
  apply wpAny_tryCatch
  refine wpAny_pyIter_dict lo hm ?_
  have ne : d ≠ s.heap.objs.size := Nat.ne_of_lt hm.lt_size
  have W := (Walks.dictKeys (knd := knd) (A := A.in1.in1) nf s.heap.objs.size d ne kvs ep).toS
  apply wpAny_bind
  refine collect_keyit W (fun _ _ st => st.1.typeIs) ⟨⟨_, Heap.get?_push_size _ rfl, rfl, rfl⟩, hm.push _⟩ (fun b hb => ?_) (by simp) sz fun s2 acc mv items => ?_
  · rcases List.mem_cons.mp hb with rfl | hb
    · exact Heap.lt_size (Heap.get?_push_size _ rfl)
    · rw [List.mem_singleton.mp hb]
      exact (hm.push _).lt_size
  obtain ⟨l, hl⟩ := exists_strValues acc.toList fun v hv => by
    obtain ⟨j, hj, rfl⟩ := Array.mem_iff_getElem.mp (Array.mem_toList_iff.mp hv)
    obtain ⟨k, x, e1, e2⟩ := items.2 j _ (Array.getElem?_eq_getElem hj)
    exact str j k x _ e1 e2
  have items : ItemsOf (fun (i : Nat) v => ∃ k x, kvs[i]? = some (k, x) ∧ knd.is k v = true) (strValues l).toArray kvs.length := by
    rw [hl]
    simpa using items
  rw [← hl]
  have same : ∀ k, ({ s2 with toks := k } : Shared) = { s with heap := s2.heap, toks := k } := by
    intro k
    obtain ⟨g1, g2, g3⟩ : s2.gens = s.gens ∧ s2.drawn = s.drawn ∧ s2.os = s.os := ⟨mv.gens, mv.drawn, mv.os⟩
    obtain ⟨hp, g, d, tk, os⟩ := s2
    obtain ⟨hp0, g0, d0, tk0, os0⟩ := s
    simp only at g1 g2 g3
    subst g1; subst g2; subst g3
    rfl
  obtain ⟨jk, post⟩ := hq s2.heap l (fun b o e => mv.heap b o (fun z => absurd (Heap.lt_size e) (by rw [List.mem_singleton.mp z]; exact Nat.lt_irrefl _)) (Heap.get?_push_of_some _ e)) items
  have jk' := jk
  unfold JoinOk at jk'
  rw [Bool.not_eq_true'] at jk'
  have g1 : Gives (joinTail sep (strValues l)) (joinMade sep l) := by
    clear post items hl
    have z := gives_joinTail sep l jk'
    rcases l with _ | ⟨a, _ | ⟨b, r⟩⟩
    · exact z
    · exact z
    · exact z
  exact g1 prog w A (wants Q E) s2 (post_join l ⟨joinFit_length jk', fun t' k => by rw [same k]; exact post t' k⟩)
end
end PySem

namespace Cw
open PySem PySem.Spec L2 PyProof.Rows
section
variable {X : Cx} {K : PySem.W.Frag}
/-- the letters that are the keys of a dict -/
def rJoinD : V → List V → Hp → VK → Prop := fun x xs H Q => ∃ (p : Addr) (ls : List Nat) (g : Nat → V), x = .str (tx []) ∧ xs = [.ref p] ∧ H p = some (.dK (ls.map fun c => ((Sum.inr (tx [c]) : Key), g c))) ∧ ls.length ≤ 1000 ∧ Q (.str (tx ls)) H
theorem mt_joinD (hc : X.calm = true) : MtR X "str.join" rJoinD := by
  intro pins s σ H x xs v us Q I rx rs h
  obtain ⟨p, ls, g, rfl, rfl, hp, hl, h⟩ := h
  obtain ⟨t, rfl⟩ := rx
  cases rs with
  | cons r1 rs =>
    cases rs
    cases r1
    obtain ⟨z, lo, vs, rk, hd⟩ := (show ObjOk X.prog X.w H s.heap p (.dK _) from I.hok p _ hp)
    obtain ⟨ep, hat⟩ := hd.dictAt
    have len : vs.length = ls.length := by
      have := Paired.length rk
      rw [List.length_map] at this
      exact this.symm
    have key : ∀ (i : Nat) (k : Key) (y : Value), vs[i]? = some (k, y) → ∃ c, ls[i]? = some c ∧ k = Sum.inr (tx [c]) := by
      intro i k y e
      have e1 := KV.keys rk
      have e2 : (vs.map (·.1))[i]? = some k := by rw [List.getElem?_map, e]; rfl
      rw [← e1, List.map_map, List.getElem?_map] at e2
      cases hc : ls[i]? with
      | none => rw [hc] at e2; cases e2
      | some c =>
        rw [hc] at e2
        injection e2 with e2
        exact ⟨c, rfl, e2.symm⟩
    refine join_keys (knd := mixKind X.prog X.w) (I.ok.hd hc) lo hat (by rw [len]; exact szl (by omega)) (fun i k y u e1 e2 => ?_) (fun h' l hk items => ?_)
    · obtain ⟨c, _, rfl⟩ := key i k y e1
      have e2 : keyIs (Sum.inr (tx [c])) u = true := e2
      rcases keyIs_shape e2 with ⟨j, t, e, _⟩ | ⟨x, t, _, e⟩
      · cases e
      · exact ⟨x, t, e⟩
    · have l1 : l.length = ls.length := by
        have := items.1
        rw [len] at this
        simpa [strValues] using this
      have e : l.map (·.1) = (ls.map fun c => [c]).map tx := by
        apply List.ext_getElem?
        intro j
        rw [List.map_map, List.getElem?_map, List.getElem?_map]
        cases hj : l[j]? with
        | none =>
          have := List.getElem?_eq_none_iff.mp hj
          rw [List.getElem?_eq_none (by omega)]
          rfl
        | some q =>
          obtain ⟨k, y, e1, e2⟩ := items.2 j (.str q.1 q.2) (by simp [strValues, hj])
          obtain ⟨c, hc, rfl⟩ := key j k y e1
          rw [hc]
          have e2 : keyIs (Sum.inr (tx [c])) (.str q.1 q.2) = true := e2
          rcases keyIs_shape e2 with ⟨_, _, e, _⟩ | ⟨x, t, ex, e⟩
          · cases e
          · injection ex with ex
            injection e with e _
            show some q.1 = some (tx [c])
            rw [e, ← ex]
      have fl : (ls.map fun c => [c]).flatten = ls := by
        clear e l1 items key len hd lo z hp h hl rk
        induction ls with
        | nil => rfl
        | cons c r ih => rw [List.map_cons, List.flatten_cons, ih]; rfl
      rw [e, join_empty, fl]
      refine ⟨?_, fun t' k => ⟨.str (tx ls), H, I.kept hk, ⟨t', rfl⟩, h⟩⟩
      refine joinOk_of ?_
      rw [List.map_map, List.map_map]
      have s1 : (ls.map (Str.length ∘ tx ∘ fun c => [c])).sum = ls.length := by
        clear e l1 items key len hd lo z hp h hl rk fl
        induction ls with
        | nil => rfl
        | cons c r ih =>
          rw [List.map_cons, List.sum_cons, ih, List.length_cons]
          show (tx [c]).length + r.length = _
          rw [tx_len, List.length_singleton]
          omega
      have s2 : (tx []).length = 0 := by rw [tx_len]; rfl
      rw [s2, Nat.mul_zero, Nat.add_zero]
      exact Nat.le_trans (Nat.le_of_eq s1) (by omega)
theorem pe_joinD {o e : Expr} {to te : TE} {apos pos : PySem.Pos} (hc : X.calm = true) (ho : PE X o to) (he : PE X e te) (hs : starEach [e] X.env = [(false, eval e X.env)] := by rfl) (hbase : attributeBase o "join" X.env (eval o X.env) = eval o X.env := by rfl) (hline : (apos.endLine == pos.line) = true := by rfl) :
    PE X (.Call (.Attribute o "join" apos) [e] [] pos) (tM1 rJoinD to te) := pe_m1 PySem.F.slot_str_join PySem.F.type_str_join (mt_joinD hc) ho he hs hbase hline
theorem v_joinD {H : Hp} {Q : VK} {p : Addr} {ls : List Nat} {g : Nat → V} (h : H p = some (.dK (ls.map fun c => ((Sum.inr (tx [c]) : Key), g c)))) (l : ls.length ≤ 1000) (q : Q (.str (tx ls)) H) : rJoinD (.str (tx [])) [.ref p] H Q := ⟨p, ls, g, rfl, rfl, h, l, q⟩
end
/-- [e for x in ..]: e makes new objects; Rel tells of each item what it is -/
theorem lc_mapA {σ : L2.St} {H : Hp} {i : Nat} {tt : TT} {te : TE} {P : Addr → Hp → Prop} {J : It} {n : Nat} {G : Hp → Prop} {it : Nat → V} (Rel : Nat → V → Hp → Prop) (w : Walk J n G (fun k H x H' => H' = H ∧ x = it k)) (hG : ∀ H', Same H H' → G H') (hn : n ≤ 1000000)
    (m1 : ∀ k v H1 H2, Rel k v H1 → Same H1 H2 → Rel k v H2) (m2 : ∀ k v H1 H2 D l, Rel k v H1 → H1 D = some (.lst l) → Keep D H1 H2 → Rel k v H2)
    (ht : ∀ k, k < n → ∀ H1, Same H H1 → ∀ R : Bool → Hp → Prop, (∀ H2, Same H1 H2 → R true H2) → tt ((wipe σ [i]).set i (some (it k))) H1 R)
    (he : ∀ k, k < n → ∀ H1, Same H H1 → ∀ R : VK, (∀ v H2, Same H1 H2 → Rel k v H2 → R v H2) → te ((wipe σ [i]).set i (some (it k))) H1 R)
    (q : ∀ D H' vs, H D = none → Same H H' → H' D = some (.lst vs) → vs.length = n → (∀ k v, vs[k]? = some v → Rel k v H') → P D H') :
    ∀ D, H D = none → ∃ W : Nat → Nat → Hp → Prop, (∃ m, W 0 m (upd H D (.lst []))) ∧ ∀ k m H, W k m H →
      (J.stop k H ∧ P D H) ∨ (J.go k H ∧ ∃ Nx : Hp → Prop, (∀ H', Nx H' → ∃ m', m' < m ∧ W (k + 1) m' H') ∧ ∀ x H', J.yld k H x H' → (gName i) x (wipe σ [i]) H' fun s2 H2 => wipe s2 [i] = wipe σ [i] ∧ tt s2 H2 fun c H3 =>
        if c = true then te s2 H3 fun y H4 => ∃ acc, H4 D = some (.lst acc) ∧ acc.length < sizeLine ∧ Nx (upd H4 D (.lst (acc ++ [y]))) else Nx H3) := by
  intro D hD
  refine lc_it w (vs := [i]) (σ := σ) (g := gName i) (tt := tt) (te := te) (Qd := fun H' => P D H') (fun k H' => Same H H' ∧ ∃ vs, H' D = some (.lst vs) ∧ vs.length = k ∧ ∀ j v, vs[j]? = some v → Rel j v H')
    ⟨Same.new hD, [], upd_same, rfl, fun j v z => by simp at z⟩ (fun k H' _ p => hG H' p.1) (fun k x H1 H2 hk p y => ?_) (fun H' p => ?_)
  · obtain ⟨p1, vs, p2, p3, p4⟩ := p
    obtain ⟨rfl, rfl⟩ := y
    refine ⟨wipe1, ht k hk _ p1 _ fun H3 s3 => ?_⟩
    rw [if_pos rfl]
    refine he k hk _ (p1.trans s3) _ fun v H4 s4 r4 => ?_
    have e4 := s4 _ _ (s3 _ _ p2)
    refine ⟨vs, e4, szlt (by omega), fun a o ha => ?_, vs ++ [v], upd_same, by rw [List.length_append, p3]; rfl, fun j u hj => ?_⟩
    · rw [upd_ne (ne_of_none ha hD)]
      exact s4 _ _ (s3 _ _ (p1 _ _ ha))
    · by_cases c : j < vs.length
      · rw [List.getElem?_append_left c] at hj
        exact m2 _ _ _ _ D vs (m1 _ _ _ _ (p4 j u hj) (s3.trans s4)) e4 Keep.put
      · have e : j = vs.length := by
          have := (List.getElem?_eq_some_iff.mp hj).1
          rw [List.length_append, List.length_singleton] at this
          omega
        rw [e, List.getElem?_append_right (Nat.le_refl _), Nat.sub_self] at hj
        injection hj with hj
        rw [e, ← hj, p3]
        exact m2 _ _ _ _ D vs r4 e4 Keep.put
  · obtain ⟨p1, vs, p2, p3, p4⟩ := p
    exact q D H' vs hD p1 p2 p3 p4
section
variable {σ : L2.St} {H : Hp} {Q : VK} {te ta : TE} {D : Ends} {K : PySem.W.Frag} {n : Nat} {t : TGs}
theorem s_asgL (q : te σ H fun v H1 => gLst K n t v σ H1 fun σ2 H2 => D.nx σ2 H2) : tAsg te (gLst K n t) D σ H := q
theorem e_MN {C : Addr} {m : Str} {sp : Sp} {n l : Nat} {ss : List Src} {dvs : List V} {E : XK} {t tk : TA} (q : ta σ H fun x H1 => ∃ a dx fs, x = .ref a ∧ H1 a = some (.ins C dx fs) ∧ fs.lookup m = none ∧ t σ H1 fun vs H2 => tk σ H2 fun zs H3 => vs.length = n ∧ zs.length = l ∧ sp (x :: gS ss vs dvs zs) H3 Q E) : tMN C m sp n l ss dvs E ta t tk σ H Q := q
end
end Cw
set_option Elab.async false
set_option linter.all false
set_option maxRecDepth 100000
set_option maxHeartbeats 4000000
/-! the product of two marks: how two walls lie -/
namespace Cw
section
variable {f : Nat → List Nat} {ls : List Nat} {s t c : Nat}
/-! ### the kind of a wall by its mark -/
theorem act_par (f : Nat → List Nat) (g : Nat → Int) : ∀ (w : List Nat) (s : Nat), ∃ k : Int, act f w g s = g s + 2 * k
  | [], s => ⟨0, by show g s = _; omega⟩
  | d :: r, s => by
    obtain ⟨k, h⟩ := act_par f g r s
    obtain ⟨j, h'⟩ := act_par f g r d
    show ∃ k : Int, thr f d (act f r g) s = _
    unfold thr
    split
    · rename_i e
      refine ⟨- g d - j, ?_⟩
      rw [h', e]
      omega
    · split
      · exact ⟨k, h⟩
      · refine ⟨k + (g d + 2 * j), ?_⟩
        rw [h, h']
        omega
theorem root_kind {v w : List Nat} (hs : s ∈ ls) (h : ∀ x ∈ ls, act f v (unit x) s = act f w (unit x) t) : s = t := by
  have h := h s hs
  obtain ⟨k, e1⟩ := act_par f (unit s) v s
  obtain ⟨j, e2⟩ := act_par f (unit s) w t
  rw [e1, e2] at h
  unfold unit at h
  rw [if_pos rfl] at h
  by_cases e : t = s
  · exact e.symm
  · rw [if_neg e] at h
    omega
/-! ### the product -/
def bt (f : Nat → List Nat) (t : Nat) : Nat → Int := fun e => if e = t then 1 else if e ∈ f t then 0 else -1
theorem bt_self : bt f t t = 1 := if_pos rfl
theorem bt_in (ok : CrOk f) (h : s ∈ f t) : bt f t s = 0 := by
  unfold bt
  rw [if_neg fun z : s = t => ok.irr t (z ▸ h), if_pos h]
theorem bt_out (h : s ≠ t) (h2 : ¬ s ∈ f t) : bt f t s = -1 := by
  unfold bt
  rw [if_neg h, if_neg h2]
theorem col_eq (ok : CrOk f) (x : Nat) : thr f c (unit c) x = unit c x - 2 * bt f x c := by
  have u1 : unit c c = 1 := if_pos rfl
  unfold thr
  by_cases e : x = c
  · rw [if_pos e, e, u1, bt_self]
    rfl
  · have u2 : unit c x = 0 := if_neg e
    rw [if_neg e, u1, u2]
    by_cases h : x ∈ f c
    · rw [if_pos h, bt_in ok (ok.sym _ _ h)]
      rfl
    · rw [if_neg h, bt_out (fun z => e z.symm) fun z => h (ok.sym _ _ z)]
      rfl
theorem psi_act (hn : ls.Nodup) (ok : CrOk f) (ht : t ∈ ls) : ∀ {n : List Nat} {e : Nat}, (∀ y ∈ n, y ∈ ls) → e ∈ ls → sumL ls (fun y => mark f n.reverse t y * bt f y e) = act f n (bt f t) e
  | [], e, _, he => by
    have h := sumL_unit (g := fun y => bt f y e) hn ht
    rw [← show bt f t e = act f [] (bt f t) e from rfl, ← h]
    exact sumL_congr fun y _ => by
      show unit y t * bt f y e = bt f y e * unit y t
      rw [Int.mul_comm]
  | c :: n, e, hw, he => by
    have hc := hw c (List.mem_cons_self ..)
    have hn' : ∀ y ∈ n, y ∈ ls := fun y hy => hw y (List.mem_cons_of_mem _ hy)
    have hnr : ∀ y ∈ n.reverse, y ∈ ls := fun y hy => hn' y (List.mem_reverse.mp hy)
    have ie := psi_act hn ok ht hn' he
    have ic := psi_act hn ok ht hn' hc
    have key : ∀ y ∈ ls, mark f (c :: n).reverse t y = 1 * mark f n.reverse t y + (-2 * act f n (bt f t) c) * unit y c := by
      intro y hy
      have e1 : mark f (c :: n).reverse t y = act f n.reverse (thr f c (unit y)) t := by
        unfold mark
        rw [List.reverse_cons, act_app]
        rfl
      by_cases hyc : y = c
      · subst hyc
        rw [e1, act_lin hn ok _ hnr ht, show unit y y = 1 from if_pos rfl, ← ic]
        have e2 : sumL ls (fun x => thr f y (unit y) x * mark f n.reverse t x) = sumL ls fun x => 1 * (mark f n.reverse t x * unit x y) + (-2) * (mark f n.reverse t x * bt f x y) := sumL_congr fun x _ => by
          have u : unit y x = unit x y := by
            unfold unit
            by_cases q : x = y
            · rw [if_pos q, if_pos q.symm]
            · rw [if_neg q, if_neg fun z => q z.symm]
          rw [col_eq ok, u, Int.sub_mul, Int.mul_comm (unit x y), Int.mul_assoc, Int.mul_comm (bt f x y)]
          omega
        rw [e2, sumL_comb, sumL_unit (g := fun x => mark f n.reverse t x) hn hc]
        omega
      · rw [e1, show thr f c (unit y) = unit y from funext fun e => unit_thr hyc, show unit y c = 0 from if_neg fun z => hyc z.symm]
        show mark f n.reverse t y = _
        omega
    have e3 : sumL ls (fun y => mark f (c :: n).reverse t y * bt f y e) = sumL ls fun y => 1 * (mark f n.reverse t y * bt f y e) + (-2 * act f n (bt f t) c) * (bt f y e * unit y c) := sumL_congr fun y hy => by
      rw [key y hy, Int.add_mul, Int.mul_assoc, Int.mul_assoc, Int.mul_comm (unit y c)]
    rw [e3, sumL_comb, ie, sumL_unit (g := fun y => bt f y e) hn hc]
    show _ = thr f c (act f n (bt f t)) e
    by_cases h1 : e = c
    · rw [h1, thr_self, bt_self]
      omega
    · by_cases h2 : e ∈ f c
      · rw [thr_cr ok h2, bt_in ok h2]
        omega
      · rw [thr_not h1 h2, bt_out h1 h2]
        omega
/-- the first letter's coordinate -/
theorem mark_head (hn : ls.Nodup) (ok : CrOk f) (ht : t ∈ ls) {n : List Nat} (hn' : ∀ y ∈ n, y ∈ ls) (hc : c ∈ ls) : mark f (c :: n).reverse t c = mark f n.reverse t c - 2 * act f n (bt f t) c := by
  have hnr : ∀ y ∈ n.reverse, y ∈ ls := fun y hy => hn' y (List.mem_reverse.mp hy)
  have e1 : mark f (c :: n).reverse t c = act f n.reverse (thr f c (unit c)) t := by
    unfold mark
    rw [List.reverse_cons, act_app]
    rfl
  rw [e1, act_lin hn ok _ hnr ht, ← psi_act hn ok ht hn' hc]
  have e2 : sumL ls (fun x => thr f c (unit c) x * mark f n.reverse t x) = sumL ls fun x => 1 * (mark f n.reverse t x * unit x c) + (-2) * (mark f n.reverse t x * bt f x c) := sumL_congr fun x _ => by
    have u : unit c x = unit x c := by
      unfold unit
      by_cases q : x = c
      · rw [if_pos q, if_pos q.symm]
      · rw [if_neg q, if_neg fun z => q z.symm]
    rw [col_eq ok, u, Int.sub_mul, Int.mul_comm (unit x c), Int.mul_assoc, Int.mul_comm (bt f x c)]
    omega
  rw [e2, sumL_comb, sumL_unit (g := fun x => mark f n.reverse t x) hn hc]
  omega
def prodV (f : Nat → List Nat) (ls : List Nat) (a b : Nat → Int) : Int := sumL ls fun x => a x * sumL ls fun y => b y * bt f y x
theorem prod_act (hn : ls.Nodup) (ok : CrOk f) {m n : List Nat} (hm : ∀ y ∈ m, y ∈ ls) (hn' : ∀ y ∈ n, y ∈ ls) (hs : s ∈ ls) (ht : t ∈ ls) : prodV f ls (mark f m.reverse s) (mark f n.reverse t) = act f (m.reverse ++ n) (bt f t) s := by
  unfold prodV
  rw [act_app, act_lin hn ok _ (fun y hy => hm y (List.mem_reverse.mp hy)) hs]
  exact sumL_congr fun x hx => by rw [psi_act hn ok ht hn' hx, Int.mul_comm]
/-! ### its sign -/
/-- no door of the kind t, or of one that crosses it, leads back -/
structure Strt (f : Nat → List Nat) (t : Nat) (v : List Nat) : Prop where
  red : Red f v
  td : ¬ desc f t v.reverse
  fr : ∀ y ∈ f t, ¬ desc f y v.reverse
theorem Strt.tail {v : List Nat} (h : Strt f t (c :: v)) : Strt f t v where
  red := h.red.2
  td := fun z => h.td (by rw [List.reverse_cons]; exact desc_left z)
  fr := fun y hy z => h.fr y hy (by rw [List.reverse_cons]; exact desc_left z)
theorem desc_mem {s : Nat} : ∀ {w : List Nat}, desc f s w → s ∈ w
  | [], h => h.elim
  | y :: w, h => by
    rcases h with h | ⟨_, h⟩
    · exact h ▸ List.mem_cons_self ..
    · exact List.mem_cons_of_mem _ (desc_mem h)
theorem desc_thru (ok : CrOk f) {y : Nat} {pr : List Nat} (hp : ∀ z ∈ pr, z ∈ f s) : ∀ {qr : List Nat}, desc f y (qr ++ pr) → desc f y (qr ++ s :: pr)
  | [], h => .inr ⟨ok.sym _ _ (hp y (desc_mem h)), h⟩
  | z :: qr, h => by
    rcases h with h | ⟨h1, h2⟩
    · exact .inl h
    · exact .inr ⟨h1, desc_thru ok hp h2⟩
theorem Strt.out (ok : CrOk f) {p q : List Nat} (hp : ∀ y ∈ p, y ∈ f s) (h : Strt f t (p ++ s :: q)) : Strt f t (p ++ q) := by
  have key : ∀ y, desc f y (p ++ q).reverse → desc f y (p ++ s :: q).reverse := by
    intro y z
    rw [List.reverse_append] at z
    have e : (p ++ s :: q).reverse = q.reverse ++ s :: p.reverse := by simp
    rw [e]
    exact desc_thru ok (fun w hw => hp w (List.mem_reverse.mp hw)) z
  exact ⟨Red_out ok hp h.red, fun z => h.td (key _ z), fun y hy z => h.fr y hy (key y z)⟩
theorem neg_start (ok : CrOk f) {p q : List Nat} (st : Strt f t (p ++ s :: q)) (hp : ∀ y ∈ p, y ∈ f s) (i1 : ¬ (p ++ q = [] ∧ s = t) → act f (p ++ q) (bt f t) s ≤ 0 ∧ (act f (p ++ q) (bt f t) s = 0 → (∀ y ∈ p ++ q, y ∈ f s) ∧ t ∈ f s)) : act f (p ++ q) (bt f t) s ≤ -1 := by
  have er : (p ++ s :: q).reverse = q.reverse ++ s :: p.reverse := by simp
  have ex : ¬ (p ++ q = [] ∧ s = t) := by
    rintro ⟨e1, rfl⟩
    obtain ⟨rfl, rfl⟩ := List.append_eq_nil_iff.mp e1
    exact st.td (.inl rfl)
  obtain ⟨a1, a2⟩ := i1 ex
  by_cases z : act f (p ++ q) (bt f t) s = 0
  · obtain ⟨b1, b2⟩ := a2 z
    refine absurd ?_ (st.fr s (ok.sym _ _ b2))
    rw [er]
    exact desc_of fun y hy => b1 y (List.mem_append_right _ (List.mem_reverse.mp hy))
  · omega
theorem bsign (ok : CrOk f) (ht : t ∈ ls) : ∀ (n : Nat) (v : List Nat), v.length = n → Strt f t v → (∀ y ∈ v, y ∈ ls) →
    (∀ s ∈ ls, ¬ desc f s v → ¬ (v = [] ∧ s = t) → act f v (bt f t) s ≤ 0 ∧ (act f v (bt f t) s = 0 → (∀ y ∈ v, y ∈ f s) ∧ t ∈ f s)) ∧
    (∀ s ∈ ls, ∀ c ∈ ls, s ≠ c → ¬ s ∈ f c → desc f s v → ¬ desc f c v → ∀ a b : Int, 0 ≤ a → a < b → a * act f v (bt f t) s + b * act f v (bt f t) c < 0) := by
  intro n
  induction n using Nat.strongRecOn with
  | ind n ih =>
    intro v hv st hm
    refine ⟨fun s hs hd he => ?_, fun s hs c hc ne nc hd hd2 a b ha hab => ?_⟩
    · cases v with
      | nil =>
        have hst : s ≠ t := fun z => he ⟨rfl, z⟩
        show bt f t s ≤ 0 ∧ (bt f t s = 0 → _)
        by_cases c : s ∈ f t
        · rw [bt_in ok c]
          exact ⟨by omega, fun _ => ⟨fun _ z => (nomatch z), ok.sym _ _ c⟩⟩
        · rw [bt_out hst c]
          exact ⟨by omega, fun z => by omega⟩
      | cons c v =>
        have hl : v.length < n := by rw [← hv]; simp
        have hc : c ∈ ls := hm c (List.mem_cons_self ..)
        have ne : s ≠ c := fun z => hd (.inl z.symm)
        have rc : ¬ desc f c v := st.red.1
        obtain ⟨i1, i2⟩ := ih v.length hl v rfl st.tail fun y hy => hm y (List.mem_cons_of_mem _ hy)
        by_cases hsc : s ∈ f c
        · have e : act f (c :: v) (bt f t) s = act f v (bt f t) s := thr_cr ok hsc
          rw [e]
          have hcs := ok.sym _ _ hsc
          have ex : ¬ (v = [] ∧ s = t) := by
            rintro ⟨rfl, rfl⟩
            exact st.fr c hcs (.inl rfl)
          obtain ⟨a1, a2⟩ := i1 s hs (fun z => hd (.inr ⟨hcs, z⟩)) ex
          refine ⟨a1, fun z => ⟨fun y hy => ?_, (a2 z).2⟩⟩
          rcases List.mem_cons.mp hy with rfl | hy
          · exact hcs
          · exact (a2 z).1 y hy
        · have e : act f (c :: v) (bt f t) s = act f v (bt f t) s + 2 * act f v (bt f t) c := thr_not ne hsc
          rw [e]
          have pc : act f v (bt f t) c ≤ -1 := by
            have ex : ¬ (v = [] ∧ c = t) := by
              rintro ⟨rfl, rfl⟩
              exact st.td (.inl rfl)
            obtain ⟨a1, a2⟩ := i1 c hc rc ex
            by_cases z : act f v (bt f t) c = 0
            · obtain ⟨b1, b2⟩ := a2 z
              refine absurd ?_ (st.fr c (ok.sym _ _ b2))
              rw [List.reverse_cons]
              exact desc_of fun y hy => b1 y (List.mem_reverse.mp hy)
            · omega
          by_cases ds : desc f s v
          · have := i2 s hs c hc ne hsc ds rc 1 2 (by decide) (by decide)
            exact ⟨by omega, fun z => by omega⟩
          · by_cases ex : v = [] ∧ s = t
            · have : act f v (bt f t) s = 1 := by
                rw [ex.1, ex.2]
                exact bt_self
              exact ⟨by omega, fun z => by omega⟩
            · have := (i1 s hs ds ex).1
              exact ⟨by omega, fun z => by omega⟩
    · obtain ⟨p, q, rfl, hp⟩ := desc_split hd
      have su := st.out ok hp
      have nds : ¬ desc f s (p ++ q) := by
        rw [desc_pass ok hp]
        exact (Red_right st.red).1
      have eu : ∀ g, act f (p ++ s :: q) g = thr f s (act f (p ++ q) g) := fun g => by
        rw [act_app, act_app]
        show act f p (thr f s (act f q g)) = _
        rw [act_comm ok hp]
      have hl : (p ++ q).length < n := by
        rw [← hv]
        simp only [List.length_append, List.length_cons]
        omega
      obtain ⟨i1, i2⟩ := ih (p ++ q).length hl (p ++ q) rfl su fun y hy => hm y ((List.mem_append.mp hy).elim (fun z => List.mem_append_left _ z) fun z => List.mem_append_right _ (List.mem_cons_of_mem _ z))
      have nc' : ¬ c ∈ f s := fun z => nc (ok.sym _ _ z)
      rw [eu, thr_self, thr_not ne.symm nc']
      have ps := neg_start ok st hp (i1 s hs nds)
      by_cases dc : desc f c (p ++ q)
      · have := i2 c hc s hs ne.symm nc' dc nds b (2 * b - a) (by omega) (by omega)
        rw [Int.sub_mul, Int.mul_assoc] at this
        rw [Int.mul_neg, Int.mul_add, ← Int.mul_assoc, Int.mul_comm b 2, Int.mul_assoc]
        omega
      · by_cases ex : p ++ q = [] ∧ c = t
        · have e1 : act f (p ++ q) (bt f t) c = 1 := by
            rw [ex.1, ex.2]
            exact bt_self
          have e2 : act f (p ++ q) (bt f t) s = -1 := by
            rw [ex.1]
            exact bt_out (ex.2 ▸ ne) (ex.2 ▸ nc)
          rw [e1, e2]
          omega
        · have h1 := (i1 c hc dc ex).1
          have h2 : b * act f (p ++ q) (bt f t) c ≤ 0 := Int.mul_nonpos_of_nonneg_of_nonpos (by omega) h1
          have h3 : (2 * b - a) * act f (p ++ q) (bt f t) s < 0 := Int.mul_neg_of_pos_of_neg (by omega) (by omega)
          rw [Int.sub_mul, Int.mul_assoc] at h3
          rw [Int.mul_neg, Int.mul_add, ← Int.mul_assoc, Int.mul_comm b 2, Int.mul_assoc]
          omega
/-- how the wall of the kind s at home lies to the wall (v, t) -/
theorem b_pos (ok : CrOk f) (ht : t ∈ ls) {v : List Nat} (st : Strt f t v) (hm : ∀ y ∈ v, y ∈ ls) (hs : s ∈ ls) (hd : desc f s v) : 0 < act f v (bt f t) s := by
  obtain ⟨p, q, rfl, hp⟩ := desc_split hd
  have su := st.out ok hp
  have nds : ¬ desc f s (p ++ q) := by
    rw [desc_pass ok hp]
    exact (Red_right st.red).1
  have eu : ∀ g, act f (p ++ s :: q) g = thr f s (act f (p ++ q) g) := fun g => by
    rw [act_app, act_app]
    show act f p (thr f s (act f q g)) = _
    rw [act_comm ok hp]
  have i1 := (bsign ok ht _ (p ++ q) rfl su fun y hy => hm y ((List.mem_append.mp hy).elim (fun z => List.mem_append_left _ z) fun z => List.mem_append_right _ (List.mem_cons_of_mem _ z))).1 s hs nds
  have := neg_start ok st hp i1
  rw [eu, thr_self]
  omega
theorem b_zero (ok : CrOk f) (ht : t ∈ ls) {v : List Nat} (st : Strt f t v) (hm : ∀ y ∈ v, y ∈ ls) (hs : s ∈ ls) (ex : ¬ (v = [] ∧ s = t)) : act f v (bt f t) s = 0 ↔ (∀ y ∈ v, y ∈ f s) ∧ t ∈ f s := by
  constructor
  · intro h
    by_cases hd : desc f s v
    · have := b_pos ok ht st hm hs hd
      omega
    · exact ((bsign ok ht _ v rfl st hm).1 s hs hd ex).2 h
  · rintro ⟨h1, h2⟩
    have := mark_along (f := f) (s := s) (g := bt f t) (v := []) ok h1
    rw [List.append_nil] at this
    rw [this]
    exact bt_in ok (ok.sym _ _ h2)
end
end Cw
set_option Elab.async false
set_option linter.all false
set_option maxRecDepth 100000
set_option maxHeartbeats 4000000
/-! how two walls lie, by the product of their marks -/
namespace Cw
section
variable {f : Nat → List Nat} {ls : List Nat} {s t c : Nat}
theorem near_split (ok : CrOk f) {u : List Nat} (hd : desc f t u.reverse) : (∀ g, act f u g = act f (nearC f u t ++ [t]) g) ∧ (nearC f u t).length + 1 = u.length := by
  unfold nearC
  rw [if_pos hd]
  refine ⟨fun g => ?_, (step_len_desc ok u t).1 hd⟩
  rw [act_app, act_step ok, act_app]
  show act f u g = act f u (thr f t (thr f t g))
  rw [thr_thr ok]
theorem near_same {u : List Nat} (hd : ¬ desc f t u.reverse) : nearC f u t = u := by
  unfold nearC
  rw [if_neg hd]
theorem start_split (ok : CrOk f) (u : List Nat) (t : Nat) : ∃ y, (∀ z ∈ y, z ∈ f t) ∧ (∀ z ∈ y, z ∈ nearC f u t) ∧ (∀ g, act f (nearC f u t) g = act f (startC f u t ++ y) g) ∧ (startC f u t).length + y.length = (nearC f u t).length := by
  refine ⟨(splitA f (f t) (nearC f u t).reverse).1.reverse, fun z hz => splitA_in f _ _ z (List.mem_reverse.mp hz), fun z hz => List.mem_reverse.mp (splitA_mem1 f _ _ z (List.mem_reverse.mp hz)), fun g => ?_, ?_⟩
  · have h := act_rev_eq ok (fun g => splitA_act ok g (nearC f u t).reverse (f t)) g
    rw [List.reverse_append, List.reverse_reverse] at h
    exact h.symm
  · have h := splitA_len f (nearC f u t).reverse (f t)
    unfold startC
    rw [List.length_reverse] at *
    rw [List.length_reverse]
    omega
theorem red_cat (ok : CrOk f) {u w : List Nat} (hu : NF f u) (e : ∀ g, act f u g = act f w g) (l : w.length = u.length) : Red f w := by
  refine red_of_len ok ?_
  have e1 : nameOf f w = nameOf f u := (name_eq ok e).symm
  have e2 : nameOf f u = u := (is_NF ok).mpr hu
  rw [e1, e2, l]
theorem desc_act (ok : CrOk f) {u w : List Nat} (ru : Red f u) (rw' : Red f w) (mu : ∀ y ∈ u, y ∈ ls) (mw : ∀ y ∈ w, y ∈ ls) (hs : s ∈ ls) (e : ∀ g, act f u g = act f w g) : desc f s u ↔ desc f s w := by
  rw [← ng_desc ok ru mu hs, ← ng_desc ok rw' mw hs]
  exact ng_act e s
theorem Strt.of (ok : CrOk f) {u : List Nat} (hu : NF f u) (t : Nat) : Strt f t (startC f u t) := ⟨(start_NF ok hu t).red, start_not ok hu t, start_free ok u t⟩
theorem st_mem {u : List Nat} (mu : ∀ y ∈ u, y ∈ ls) (ht : t ∈ ls) : ∀ y ∈ startC f u t, y ∈ ls := fun y hy => (start_mem hy).elim (fun z => z ▸ ht) (mu y)
theorem nr_mem {u : List Nat} (mu : ∀ y ∈ u, y ∈ ls) (ht : t ∈ ls) : ∀ y ∈ nearC f u t, y ∈ ls := fun y hy => (near_mem hy).elim (fun z => z ▸ ht) (mu y)
/-- what begins the way to the wall begins the way to each of its doors -/
theorem desc_start (ok : CrOk f) {u : List Nat} (hu : NF f u) (mu : ∀ y ∈ u, y ∈ ls) (hs : s ∈ ls) (ht : t ∈ ls) (h : desc f s (startC f u t)) : desc f s u := by
  obtain ⟨y, y1, y2, ey, ly⟩ := start_split ok u t
  have my : ∀ z ∈ startC f u t ++ y, z ∈ ls := fun z hz => (List.mem_append.mp hz).elim (st_mem mu ht z) fun w => nr_mem mu ht z (y2 z w)
  have nn := near_NF ok hu t
  have r1 : Red f (startC f u t ++ y) := red_cat ok nn ey (by rw [List.length_append, ly])
  have d1 : desc f s (nearC f u t) := (desc_act ok nn.red r1 (nr_mem mu ht) my hs ey).mpr (desc_left h)
  by_cases hd : desc f t u.reverse
  · obtain ⟨e2, l2⟩ := near_split ok hd
    have r2 : Red f (nearC f u t ++ [t]) := red_cat ok hu e2 (by rw [List.length_append, List.length_singleton, l2])
    exact (desc_act ok hu.red r2 mu (fun z hz => (List.mem_append.mp hz).elim (nr_mem mu ht z) fun w => by rw [List.mem_singleton.mp w]; exact ht) hs e2).mpr (desc_left d1)
  · rw [near_same hd] at d1
    exact d1
theorem act_zero (ok : CrOk f) {g : Nat → Int} {E : List Nat} (hg : ∀ e ∈ E, g e = 0) : ∀ {w : List Nat} {c : Nat}, (∀ y ∈ w, y ∈ E) → c ∈ E → act f w g c = 0
  | [], c, _, hc => hg c hc
  | d :: r, c, hw, hc => by
    have hr : ∀ y ∈ r, y ∈ E := fun y hy => hw y (List.mem_cons_of_mem _ hy)
    have h1 := act_zero ok hg hr hc
    have h2 := act_zero ok hg hr (hw d (List.mem_cons_self ..))
    show thr f d (act f r g) c = 0
    unfold thr
    rw [h1, h2]
    split
    · rfl
    · split <;> rfl
theorem b_eq (hn : ls.Nodup) (ok : CrOk f) {u : List Nat} (mu : ∀ y ∈ u, y ∈ ls) (hs : s ∈ ls) (ht : t ∈ ls) : act f u (bt f t) s = if desc f t u.reverse then - act f (startC f u t) (bt f t) s else act f (startC f u t) (bt f t) s := by
  rw [← psi_act hn ok ht mu hs, ← psi_act hn ok ht (st_mem mu ht) hs]
  have e : ∀ y, mark f (startC f u t).reverse t y = if desc f t u.reverse then - mark f u.reverse t y else mark f u.reverse t y := fun y => by
    unfold mark
    rw [start_mark ok, near_mark ok]
  by_cases hd : desc f t u.reverse
  · rw [if_pos hd]
    have e2 : sumL ls (fun y => mark f (startC f u t).reverse t y * bt f y s) = sumL ls fun y => (-1) * (mark f u.reverse t y * bt f y s) + 0 * 0 := sumL_congr fun y _ => by
      rw [e, if_pos hd, Int.neg_mul]
      omega
    rw [e2, sumL_comb (-1) 0 (fun y => mark f u.reverse t y * bt f y s) (fun _ => 0)]
    omega
  · rw [if_neg hd]
    exact sumL_congr fun y _ => by rw [e, if_neg hd]
/-! ### two walls -/
structure W2 (f : Nat → List Nat) (ls : List Nat) (m : List Nat) (s : Nat) (n : List Nat) (t : Nat) : Prop where
  nd : ls.Nodup
  ok : CrOk f
  hs : s ∈ ls
  ht : t ∈ ls
  m1 : NF f m
  n1 : NF f n
  mm : ∀ y ∈ m, y ∈ ls
  mn : ∀ y ∈ n, y ∈ ls
  sm : Strt f s m
  sn : Strt f t n
section
variable {m n : List Nat}
theorem W2.symm (h : W2 f ls m s n t) : W2 f ls n t m s := ⟨h.nd, h.ok, h.ht, h.hs, h.n1, h.m1, h.mn, h.mm, h.sn, h.sm⟩
theorem W2.same (h : W2 f ls m s n t) : (∀ x ∈ ls, mark f m.reverse s x = mark f n.reverse t x) ↔ s = t ∧ m = n := by
  constructor
  · intro e
    have ek : s = t := root_kind h.hs e
    subst ek
    exact ⟨rfl, wall_uniq h.nd h.ok h.hs h.m1 h.n1 h.mm h.mn h.sm.fr h.sn.fr e⟩
  · rintro ⟨rfl, rfl⟩ x _
    rfl
theorem W2.mu (h : W2 f ls m s n t) : ∀ y ∈ wayC f m n, y ∈ ls := fun y hy => by
  rcases List.mem_append.mp (name_mem hy) with z | z
  · exact h.mm y (List.mem_reverse.mp z)
  · exact h.mn y z
/-- the product of the marks -/
theorem W2.prod (h : W2 f ls m s n t) : prodV f ls (mark f m.reverse s) (mark f n.reverse t) = act f (wayC f m n) (bt f t) s := by
  rw [prod_act h.nd h.ok h.mm h.mn h.hs h.ht]
  unfold wayC
  rw [name_act h.ok]
theorem W2.npos (h : W2 f ls m s n t) : Pos ls (mark f n.reverse t) := mark_nn h.ok h.n1.red.rev (fun y hy => h.mn y (List.mem_reverse.mp hy)) h.ht h.sn.td
theorem W2.mpos (h : W2 f ls m s n t) : Pos ls (mark f m.reverse s) := h.symm.npos
theorem W2.goes (h : W2 f ls m s n t) (g : Nat → Int) : act f n.reverse g = act f (wayC f m n).reverse (act f m.reverse g) := by
  have e := way_goes h.ok m n
  have e1 : nameOf f n = n := (is_NF h.ok).mpr h.n1
  rw [e1] at e
  rw [← act_app, ← List.reverse_append, ← act_of_name h.ok (m ++ wayC f m n), e]
theorem W2.uNF (h : W2 f ls m s n t) : NF f (wayC f m n) := name_NF h.ok _
theorem W2.vmark (h : W2 f ls m s n t) (g : Nat → Int) : act f (startC f (wayC f m n) t).reverse g t = if desc f t (wayC f m n).reverse then - act f (wayC f m n).reverse g t else act f (wayC f m n).reverse g t := by rw [start_mark h.ok, near_mark h.ok]
theorem W2.exc (h : W2 f ls m s n t) (ns : ¬ (s = t ∧ m = n)) : ¬ (startC f (wayC f m n) t = [] ∧ s = t) := by
  rintro ⟨e1, rfl⟩
  apply ns
  refine (h.same).mp fun x hx => ?_
  have hv := h.vmark (act f m.reverse (unit x))
  rw [e1, ← h.goes] at hv
  have hv : act f m.reverse (unit x) s = if desc f s (wayC f m n).reverse then - act f n.reverse (unit x) s else act f n.reverse (unit x) s := hv
  by_cases d : desc f s (wayC f m n).reverse
  · exfalso
    obtain ⟨y, hy, p1⟩ := h.npos.2
    have hw := h.vmark (act f m.reverse (unit y))
    rw [e1, ← h.goes, if_pos d] at hw
    have hw : act f m.reverse (unit y) s = - act f n.reverse (unit y) s := hw
    have p2 := h.mpos.1 y hy
    have p1 : 0 < act f n.reverse (unit y) s := p1
    have p2 : 0 ≤ act f m.reverse (unit y) s := p2
    omega
  · rw [if_neg d] at hv
    exact hv
theorem W2.vst (h : W2 f ls m s n t) : Strt f t (startC f (wayC f m n) t) := Strt.of h.ok h.uNF t
/-- a door of a kind that crosses t, or of t itself, behind the way to the wall: the walls cross or are one -/
theorem W2.along (h : W2 f ls m s n t) (ns : ¬ (s = t ∧ m = n)) (h0 : act f (startC f (wayC f m n) t) (bt f t) s ≠ 0) (hd : ¬ desc f s (startC f (wayC f m n) t)) {y : List Nat} (hy : ∀ z ∈ y, z ∈ f t ∨ z = t) (hy1 : ∀ p c q, y = p ++ c :: q → ∀ z ∈ p, z ∈ f t) (my : ∀ z ∈ y, z ∈ ls) : ¬ Ng f ls (startC f (wayC f m n) t ++ y) s := by
  have ok := h.ok
  have st := h.vst
  have ex := h.exc ns
  have mv := st_mem (f := f) h.mu h.ht
  generalize startC f (wayC f m n) t = v at st ex mv h0 hd
  intro z
  have n0 : ¬ Ng f ls v s := fun w => hd ((ng_desc ok st.red mv h.hs).mp w)
  obtain ⟨p, c, q, e, hg⟩ := turn_door h.nd ok mv h.hs y my fun w => n0 (w.mpr z)
  have hpt := hy1 p c q e
  have hcy : c ∈ y := by rw [e]; exact List.mem_append_right _ (List.mem_cons_self ..)
  have ez : ∀ g, act f v g s = act f (v ++ p) (act f p.reverse g) s := fun g => by rw [act_app, act_rev' ok]
  have hpr : ∀ z ∈ p.reverse, z ∈ f t := fun z hz => hpt z (List.mem_reverse.mp hz)
  rcases hy c hcy with hc | hc
  · have e0 : act f p.reverse (bt f t) c = 0 := act_zero ok (E := f t) (fun e he => bt_in ok he) hpr hc
    apply h0
    rcases hg with hg | hg
    · rw [ez, hg, e0]
    · rw [ez, hg, e0]
      rfl
  · subst hc
    have ea : ∀ g, act f p.reverse g c = g c := fun g => by
      have := mark_along (f := f) (s := c) (g := g) (v := []) ok hpr
      rw [List.append_nil] at this
      exact this
    rcases hg with hg | hg
    · have e1 : ∀ x, act f v (unit x) s = unit x c := fun x => by rw [ez, hg, ea]
      have ek : s = c := root_kind (w := []) h.hs fun x _ => e1 x
      subst ek
      have fx := mark_fix h.nd ok h.hs st.red mv fun x _ => e1 x
      apply ex
      refine ⟨?_, rfl⟩
      cases hv : v.reverse with
      | nil => simpa using hv
      | cons a r =>
        exfalso
        have ha : a ∈ v := List.mem_reverse.mp (by rw [hv]; exact List.mem_cons_self ..)
        exact st.fr a (fx a ha) (by rw [hv]; exact .inl rfl)
    · apply n0
      refine ⟨c, h.ht, ?_⟩
      show act f v (unit c) s < 0
      rw [ez, hg, ea, show unit c c = 1 from if_pos rfl]
      decide
/-- the way on from the wall to its door -/
theorem W2.tail (h : W2 f ls m s n t) : ∃ y, (∀ z ∈ y, z ∈ f t ∨ z = t) ∧ (∀ p c q, y = p ++ c :: q → ∀ z ∈ p, z ∈ f t) ∧ (∀ z ∈ y, z ∈ ls) ∧ ∀ g, act f (wayC f m n) g = act f (startC f (wayC f m n) t ++ y) g := by
  obtain ⟨y, y1, y2, ey, ly⟩ := start_split h.ok (wayC f m n) t
  have my : ∀ z ∈ y, z ∈ ls := fun z hz => nr_mem h.mu h.ht z (y2 z hz)
  by_cases hd : desc f t (wayC f m n).reverse
  · obtain ⟨e2, _⟩ := near_split h.ok hd
    refine ⟨y ++ [t], fun z hz => (List.mem_append.mp hz).elim (fun w => .inl (y1 z w)) fun w => .inr (List.mem_singleton.mp w), fun p c q e z hz => ?_, fun z hz => (List.mem_append.mp hz).elim (my z) fun w => by rw [List.mem_singleton.mp w]; exact h.ht, fun g => ?_⟩
    · have hl := congrArg List.length e
      simp only [List.length_append, List.length_cons, List.length_nil] at hl
      have hp : p = (y ++ [t]).take p.length := by rw [e]; simp
      rw [List.take_append_of_le_length (by omega)] at hp
      exact y1 z (List.mem_of_mem_take (by rw [← hp]; exact hz))
    · rw [e2, act_app, ey, ← act_app, List.append_assoc]
  · refine ⟨y, fun z hz => .inl (y1 z hz), fun p c q e z hz => y1 z (by rw [e]; exact List.mem_append_left _ hz), my, fun g => ?_⟩
    rw [← ey, near_same hd]
theorem W2.zero (h : W2 f ls m s n t) (ns : ¬ (s = t ∧ m = n)) : act f (wayC f m n) (bt f t) s = 0 ↔ (∀ y ∈ startC f (wayC f m n) t, y ∈ f s) ∧ t ∈ f s := by
  rw [← b_zero h.ok h.ht h.vst (st_mem h.mu h.ht) h.hs (h.exc ns), b_eq h.nd h.ok h.mu h.hs h.ht]
  split <;> omega
theorem W2.one (h : W2 f ls m s n t) (hs : s = t ∧ m = n) : act f (wayC f m n) (bt f t) s = 1 := by
  obtain ⟨rfl, rfl⟩ := hs
  rw [way_self h.ok]
  exact bt_self
/-- whether they cross, as the program finds it -/
theorem W2.crosses (h : W2 f ls m s n t) : act f (wayC f m n) (bt f t) s = 0 ↔ t ∈ f s ∧ startC f (nameOf f (m ++ (splitA f (f s) (wayC f m n)).1)) t = n := by
  have ok := h.ok
  have al1 := splitA_in f (wayC f m n) (f s)
  have al2 := splitA_mem1 f (wayC f m n) (f s)
  have ra := fun g => splitA_act ok g (wayC f m n) (f s)
  have rl := splitA_len f (wayC f m n) (f s)
  have rd := splitA_desc ok (wayC f m n) (f s)
  have rm := splitA_mem2 f (wayC f m n) (f s)
  generalize (splitA f (f s) (wayC f m n)).1 = al at al1 al2 ra rl
  generalize (splitA f (f s) (wayC f m n)).2 = rs at ra rl rd rm
  have mal : ∀ y ∈ al, y ∈ ls := fun y hy => h.mu y (al2 y hy)
  have mrs : ∀ y ∈ rs, y ∈ ls := fun y hy => h.mu y (rm y hy)
  have mma : ∀ y ∈ m ++ al, y ∈ ls := fun y hy => (List.mem_append.mp hy).elim (h.mm y) (mal y)
  have mnm : ∀ y ∈ nameOf f (m ++ al), y ∈ ls := fun y hy => mma y (name_mem hy)
  have sg : ∀ g, act f (startC f (nameOf f (m ++ al)) t).reverse g t = if desc f t (nameOf f (m ++ al)).reverse then - act f (m ++ al).reverse g t else act f (m ++ al).reverse g t := fun g => by rw [start_mark ok, near_mark ok, act_of_name ok]
  constructor
  · intro hz
    have ns : ¬ (s = t ∧ m = n) := fun z => by rw [h.one z] at hz; omega
    obtain ⟨hv, hts⟩ := (h.zero ns).mp hz
    refine ⟨hts, ?_⟩
    -- the rest leaves the mark of t but for the sign
    have rr : Red f rs := Red_right (red_cat ok h.uNF (fun g => (ra g).symm) (by rw [List.length_append, rl]))
    have nrs : NF f (nameOf f rs) := name_NF ok rs
    have mnr : ∀ y ∈ nameOf f rs, y ∈ ls := fun y hy => mrs y (name_mem hy)
    have s2 : ∀ g, act f (startC f (nameOf f rs) t).reverse g t = if desc f t (nameOf f rs).reverse then - act f rs.reverse g t else act f rs.reverse g t := fun g => by rw [start_mark ok, near_mark ok, act_of_name ok]
    have back : ∀ g, act f rs.reverse g t = act f (wayC f m n).reverse (act f al g) t := fun g => by
      have := act_rev_eq ok ra (act f al g)
      rw [List.reverse_append, act_app, act_rev ok] at this
      rw [this]
    have v2 : startC f (nameOf f rs) t = [] := by
      have st2 := Strt.of ok nrs t
      have m2 := st_mem (f := f) (t := t) mnr h.ht
      cases e : startC f (nameOf f rs) t with
      | nil => rfl
      | cons c v' =>
        exfalso
        rw [e] at st2 m2
        have hcl : c ∈ ls := m2 c (List.mem_cons_self ..)
        have hcs : ¬ c ∈ f s := fun z => by
          have d1 : desc f c (nameOf f rs) := desc_start ok nrs mnr hcl h.ht (by rw [e]; exact .inl rfl)
          exact rd c z ((ng_desc ok rr mrs hcl).mp ((ng_name ok rs c).mp ((ng_desc ok nrs.red mnr hcl).mpr d1)))
        have hct : c ≠ t := fun z => hcs (z ▸ hts)
        -- its coordinate c is nought
        have z1 : act f rs.reverse (unit c) t = 0 := by
          have e3 := h.vmark (act f al (unit c))
          have e4 : act f (startC f (wayC f m n) t).reverse (act f al (unit c)) t = 0 := by
            rw [← act_app]
            refine mark_zero ok (x := c) (w := (startC f (wayC f m n) t).reverse ++ al) (s := t) (fun z => ?_) hct
            rcases List.mem_append.mp z with z | z
            · exact hcs (hv c (List.mem_reverse.mp z))
            · exact hcs (al1 c z)
          rw [e4] at e3
          rw [back]
          split at e3 <;> omega
        have z2 : mark f (c :: v').reverse t c = 0 := by
          have := s2 (unit c)
          rw [e, z1] at this
          show act f (c :: v').reverse (unit c) t = 0
          rw [this]
          split <;> rfl
        -- but it is not
        have hl := bsign ok h.ht _ v' rfl st2.tail fun y hy => m2 y (List.mem_cons_of_mem _ hy)
        have nc := neg_start (p := []) (q := v') ok st2 (fun _ z => (nomatch z)) (hl.1 c hcl st2.red.1)
        have nc : act f v' (bt f t) c ≤ -1 := nc
        have mv' : ∀ y ∈ v', y ∈ ls := fun y hy => m2 y (List.mem_cons_of_mem _ hy)
        have p1 := (mark_nn ok st2.tail.red.rev (fun y hy => mv' y (List.mem_reverse.mp hy)) h.ht st2.tail.td).1 c hcl
        have k1 := mark_head h.nd ok h.ht mv' hcl
        omega
    have sR : (∀ g, act f rs.reverse g t = g t) ∨ (∀ g, act f rs.reverse g t = - g t) := by
      by_cases d : desc f t (nameOf f rs).reverse
      · right
        intro g
        have := s2 g
        rw [v2, if_pos d] at this
        have this : g t = - act f rs.reverse g t := this
        omega
      · left
        intro g
        have := s2 g
        rw [v2, if_neg d] at this
        have this : g t = act f rs.reverse g t := this
        omega
    have eU : ∀ g, act f (wayC f m n).reverse g t = act f rs.reverse (act f al.reverse g) t := fun g => by
      have := act_rev_eq ok ra g
      rw [← this, List.reverse_append, act_app]
    have eN : (∀ g, act f n.reverse g t = act f (m ++ al).reverse g t) ∨ (∀ g, act f n.reverse g t = - act f (m ++ al).reverse g t) := by
      rcases sR with sR | sR
      · left
        intro g
        rw [h.goes, eU, sR, List.reverse_append, act_app]
      · right
        intro g
        rw [h.goes, eU, sR, List.reverse_append, act_app]
    refine wall_uniq h.nd ok h.ht (start_NF ok (name_NF ok _) t) h.n1 (st_mem mnm h.ht) h.mn (start_free ok _ t) h.sn.fr fun x hx => ?_
    have p1 := mark_nn (ls := ls) ok (start_NF ok (name_NF ok (m ++ al)) t).red.rev (fun y hy => st_mem mnm h.ht y (List.mem_reverse.mp hy)) h.ht (start_not ok (name_NF ok _) t)
    have p2 := h.npos
    have key : (∀ g, act f (startC f (nameOf f (m ++ al)) t).reverse g t = act f n.reverse g t) ∨ (∀ g, act f (startC f (nameOf f (m ++ al)) t).reverse g t = - act f n.reverse g t) := by
      by_cases d : desc f t (nameOf f (m ++ al)).reverse
      · rcases eN with eN | eN
        · right
          intro g
          rw [sg, if_pos d, eN]
        · left
          intro g
          rw [sg, if_pos d, eN]
      · rcases eN with eN | eN
        · left
          intro g
          rw [sg, if_neg d, eN]
        · right
          intro g
          rw [sg, if_neg d, eN]
          omega
    rcases key with key | key
    · exact key (unit x)
    · exfalso
      obtain ⟨z, hz', w⟩ := p2.2
      have w : 0 < act f n.reverse (unit z) t := w
      have w2 : 0 ≤ act f (startC f (nameOf f (m ++ al)) t).reverse (unit z) t := p1.1 z hz'
      rw [key] at w2
      omega
  · rintro ⟨hts, e⟩
    rw [← h.prod]
    have e1 : ∀ y, mark f n.reverse t y = if desc f t (nameOf f (m ++ al)).reverse then - mark f (m ++ al).reverse t y else mark f (m ++ al).reverse t y := fun y => by
      have := sg (unit y)
      rw [e] at this
      exact this
    have e2 : prodV f ls (mark f m.reverse s) (mark f (m ++ al).reverse t) = 0 := by
      rw [prod_act h.nd ok h.mm mma h.hs h.ht, ← List.append_assoc, act_app, act_app, act_rev ok]
      have := mark_along (f := f) (s := s) (g := bt f t) (v := []) ok al1
      rw [List.append_nil] at this
      rw [this]
      exact bt_in ok (ok.sym _ _ hts)
    unfold prodV at e2 ⊢
    by_cases d : desc f t (nameOf f (m ++ al)).reverse
    · have e3 : sumL ls (fun x => mark f m.reverse s x * sumL ls fun y => mark f n.reverse t y * bt f y x) = sumL ls fun x => (-1) * (mark f m.reverse s x * sumL ls fun y => mark f (m ++ al).reverse t y * bt f y x) + 0 * 0 := sumL_congr fun x _ => by
        have e4 : sumL ls (fun y => mark f n.reverse t y * bt f y x) = sumL ls fun y => (-1) * (mark f (m ++ al).reverse t y * bt f y x) + 0 * 0 := sumL_congr fun y _ => by
          rw [e1, if_pos d, Int.neg_mul]
          omega
        rw [e4, sumL_comb (-1) 0 (fun y => mark f (m ++ al).reverse t y * bt f y x) (fun _ => 0), Int.mul_add, ← Int.mul_assoc, Int.mul_comm _ (-1), Int.mul_assoc]
        omega
      rw [e3, sumL_comb (-1) 0 _ (fun _ => 0), e2]
      omega
    · have e3 : sumL ls (fun x => mark f m.reverse s x * sumL ls fun y => mark f n.reverse t y * bt f y x) = sumL ls fun x => mark f m.reverse s x * sumL ls fun y => mark f (m ++ al).reverse t y * bt f y x := sumL_congr fun x _ => by
        rw [sumL_congr (u := fun y => mark f n.reverse t y * bt f y x) (v := fun y => mark f (m ++ al).reverse t y * bt f y x) fun y _ => by rw [e1, if_neg d]]
      rw [e3, e2]
end
end
end Cw
set_option Elab.async false
set_option linter.all false
set_option maxRecDepth 100000
set_option maxHeartbeats 4000000
/-! the five words of how two walls lie -/
namespace Cw
section
variable {f : Nat → List Nat} {ls : List Nat} {s t c : Nat} {m n : List Nat}
end
/-! ### the words -/
def crossP (f : Nat → List Nat) (m : List Nat) (s : Nat) (n : List Nat) (t : Nat) : Prop := t ∈ f s ∧ startC f (nameOf f (m ++ (splitA f (f s) (wayC f m n)).1)) t = n
instance (f : Nat → List Nat) (m : List Nat) (s : Nat) (n : List Nat) (t : Nat) : Decidable (crossP f m s n t) := inferInstanceAs (Decidable (_ ∧ _))
section
variable {f : Nat → List Nat} {ls : List Nat} {s t : Nat} {m n : List Nat}
end
end Cw
set_option Elab.async false
set_option linter.all false
set_option maxRecDepth 100000
set_option maxHeartbeats 4000000
/-! how two walls lie, as the law tells it -/
namespace Cw
section
variable {f : Nat → List Nat} {ls : List Nat} {s t : Nat} {w v : List Nat}
theorem W2.of (hn : ls.Nodup) (ok : CrOk f) (hs : s ∈ ls) (ht : t ∈ ls) (hw : ∀ y ∈ w, y ∈ ls) (hv : ∀ y ∈ v, y ∈ ls) : W2 f ls (startC f (nameOf f w) s) s (startC f (nameOf f v) t) t where
  nd := hn
  ok := ok
  hs := hs
  ht := ht
  m1 := start_NF ok (name_NF ok w) s
  n1 := start_NF ok (name_NF ok v) t
  mm := st_mem (fun y hy => hw y (name_mem hy)) hs
  mn := st_mem (fun y hy => hv y (name_mem hy)) ht
  sm := Strt.of ok (name_NF ok w) s
  sn := Strt.of ok (name_NF ok v) t
end
end Cw
set_option Elab.async false
set_option linter.all false
set_option maxRecDepth 100000
set_option maxHeartbeats 4000000
/-! the walls on shortest ways from home, as lists of marks -/
namespace Cw
/-- the marks of the doors of a shortest way -/
def crL (f : Nat → List Nat) (n : List Nat) : List (Nat → Int) := (List.range n.length).map fun i => fun x => act f (n.take i).reverse (unit x) (n.getD i 0)
/-- without two that are alike -/
def NdV (ls : List Nat) (us : List (Nat → Int)) : Prop := us.Pairwise fun u v => ¬ ∀ x ∈ ls, u x = v x
theorem key_iff {ls : List Nat} {u v : Nat → Int} : ls.map u = ls.map v ↔ ∀ x ∈ ls, u x = v x := by
  induction ls with
  | nil => exact ⟨fun _ _ h => (nomatch h), fun _ => rfl⟩
  | cons y r ih =>
    rw [List.map_cons, List.map_cons, List.cons.injEq, ih]
    exact ⟨fun h x hx => (List.mem_cons.mp hx).elim (fun z => z ▸ h.1) (h.2 x), fun h => ⟨h y (List.mem_cons_self ..), fun x hx => h x (List.mem_cons_of_mem _ hx)⟩⟩
theorem NdV.key {ls : List Nat} {us : List (Nat → Int)} (h : NdV ls us) : (us.map fun u => ls.map u).Nodup := by
  unfold List.Nodup
  rw [List.pairwise_map]
  exact h.imp fun {a b} n z => n (key_iff.mp z)
section
variable {f : Nat → List Nat} {ls : List Nat} {s : Nat}
theorem getD_in {w : List Nat} {i : Nat} (h : i < w.length) : w.getD i 0 ∈ w := by
  rw [List.getD_eq_getElem?_getD, List.getElem?_eq_getElem h]
  exact List.getElem_mem h
/-! ### the middle -/
end
end Cw
set_option Elab.async false
set_option linter.all false
set_option maxRecDepth 100000
set_option maxHeartbeats 4000000
/-! the walls between two rooms, in plain words -/
namespace Cw
def keyI (fn : Nat → List Nat) (m u : List Nat) (n : Nat) : List (List Nat) := (List.range n).map fun i => startC fn (nameOf fn (m ++ u.take i)) (u.getD i 0) ++ [u.getD i 0]
/-- a wall by the room that touches it and its kind -/
structure KeyOk (fn : Nat → List Nat) (ls : List Nat) (m : List Nat) (k : Nat) : Prop where
  nf : NF fn m
  mem : ∀ y ∈ m, y ∈ ls
  hk : k ∈ ls
  td : ¬ desc fn k m.reverse
  fr : ∀ t ∈ fn k, ¬ desc fn t m.reverse
def markK (f : Nat → List Nat) (key : List Nat) : Nat → Int := fun x => act f key.dropLast.reverse (unit x) (key.getLastD 0)
theorem markK_app (f : Nat → List Nat) (m : List Nat) (k : Nat) : markK f (m ++ [k]) = mark f m.reverse k := by
  unfold markK mark
  rw [List.dropLast_concat]
  have : (m ++ [k]).getLastD 0 = k := by simp
  rw [this]
section
variable {f : Nat → List Nat} {ls : List Nat} {s : Nat}
/-- the mark of a door's wall is the door's, or its opposite -/
theorem start_sgn (ok : CrOk f) (w : List Nat) (s : Nat) : ∃ e : Int, (e = 1 ∨ e = -1) ∧ ∀ g, act f (startC f (nameOf f w) s).reverse g s = e * act f w.reverse g s := by
  by_cases d : desc f s (nameOf f w).reverse
  · refine ⟨-1, .inr rfl, fun g => ?_⟩
    rw [start_mark ok, near_mark ok, if_pos d, act_of_name ok]
    omega
  · refine ⟨1, .inl rfl, fun g => ?_⟩
    rw [start_mark ok, near_mark ok, if_neg d, act_of_name ok]
    omega
end
end Cw
set_option Elab.async false
set_option linter.all false
set_option maxRecDepth 100000
set_option maxHeartbeats 4000000
/-! two rooms with a common beginning: when walls cross, the kinds do -/
namespace Cw
open PySem PySem.Spec L2
section
variable {f : Nat → List Nat} {ls : List Nat}
/-- a way whose letters bear nought changes nothing -/
theorem act_still {g : Nat → Int} {s : Nat} : ∀ {w : List Nat}, (∀ y ∈ w, g y = 0) → act f w g s = g s := by
  have key : ∀ (w : List Nat), (∀ y ∈ w, g y = 0) → ∀ e, act f w g e = g e := by
    intro w
    induction w with
    | nil => intro _ e; rfl
    | cons c r ih =>
      intro h e
      have i := ih fun y hy => h y (List.mem_cons_of_mem _ hy)
      have hc : act f r g c = 0 := (i c).trans (h c (List.mem_cons_self ..))
      show thr f c (act f r g) e = g e
      unfold thr
      split
      · rename_i he
        subst he
        rw [hc, h e (List.mem_cons_self ..)]
        rfl
      · split
        · exact i e
        · rw [hc, i e]
          omega
  exact fun {w} h => key w h s
/-- the product of two walls of ways from one room, once what lies ahead crosses -/
theorem prod_step (hn : ls.Nodup) (ok : CrOk f) {M p q : List Nat} {s t : Nat} (mM : ∀ y ∈ M, y ∈ ls) (mp : ∀ y ∈ p, y ∈ ls) (mq : ∀ y ∈ q, y ∈ ls) (hs : s ∈ ls) (ht : t ∈ ls) (h1 : ∀ a ∈ p, ∀ b ∈ q, a ∈ f b) (h2 : ∀ a ∈ p, a ∈ f t) (h3 : ∀ b ∈ q, s ∈ f b) :
    prodV f ls (mark f (M ++ p).reverse s) (mark f (M ++ q).reverse t) = bt f t s := by
  have mMp : ∀ y ∈ M ++ p, y ∈ ls := fun y hy => (List.mem_append.mp hy).elim (mM y) (mp y)
  have mMq : ∀ y ∈ M ++ q, y ∈ ls := fun y hy => (List.mem_append.mp hy).elim (mM y) (mq y)
  rw [prod_act hn ok mMp mMq hs ht]
  have e : act f ((M ++ p).reverse ++ (M ++ q)) (bt f t) = act f p.reverse (act f q (bt f t)) := by
    rw [act_app, List.reverse_append, act_app, act_app M q, act_rev ok]
  rw [e]
  have hq : ∀ c, (∀ b ∈ q, c ∈ f b) → act f q (bt f t) c = bt f t c := fun c hc => by
    have := mark_along (f := f) (s := c) ok (g := bt f t) (v := []) (u := q) fun y hy => ok.sym _ _ (hc y hy)
    rwa [List.append_nil] at this
  rw [act_still fun y hy => ?_]
  · exact hq s h3
  · have hy := List.mem_reverse.mp hy
    rw [hq y (h1 y hy)]
    exact bt_in ok (h2 y hy)
theorem bt_zero (ok : CrOk f) {s t : Nat} : bt f t s = 0 ↔ s ∈ f t := by
  constructor
  · intro h
    by_cases e : s = t
    · rw [e, bt_self] at h
      cases h
    · by_cases c : s ∈ f t
      · exact c
      · rw [bt_out e c] at h
        cases h
  · exact bt_in ok
/-- all walls of two ways cross just if all their letters do -/
theorem all_cross (hn : ls.Nodup) (ok : CrOk f) {M u v : List Nat} (mM : ∀ y ∈ M, y ∈ ls) (mu : ∀ y ∈ u, y ∈ ls) (mv : ∀ y ∈ v, y ∈ ls) :
    (∀ i, i < u.length → ∀ j, j < v.length → prodV f ls (mark f (M ++ u.take i).reverse (u.getD i 0)) (mark f (M ++ v.take j).reverse (v.getD j 0)) = 0) ↔ ∀ a ∈ u, ∀ b ∈ v, a ∈ f b := by
  have tk : ∀ {w : List Nat} {n : Nat} {y : Nat}, y ∈ w.take n → ∃ k, k < n ∧ k < w.length ∧ y = w.getD k 0 := fun {w n y} hy => by
    obtain ⟨k, hk, rfl⟩ := List.getElem_of_mem hy
    rw [List.length_take] at hk
    refine ⟨k, by omega, by omega, ?_⟩
    rw [List.getElem_take, List.getD_eq_getElem?_getD, List.getElem?_eq_getElem (by omega)]
    rfl
  have key : ∀ i j, i < u.length → j < v.length → (∀ i' j', i' ≤ i → j' ≤ j → ¬ (i' = i ∧ j' = j) → u.getD i' 0 ∈ f (v.getD j' 0)) → prodV f ls (mark f (M ++ u.take i).reverse (u.getD i 0)) (mark f (M ++ v.take j).reverse (v.getD j 0)) = bt f (v.getD j 0) (u.getD i 0) := fun i j hi hj h => by
    refine prod_step hn ok mM (fun y hy => mu y (List.mem_of_mem_take hy)) (fun y hy => mv y (List.mem_of_mem_take hy)) (mu _ (getD_in hi)) (mv _ (getD_in hj)) (fun a ha b hb => ?_) (fun a ha => ?_) fun b hb => ?_
    · obtain ⟨k, k1, k2, rfl⟩ := tk ha
      obtain ⟨l, l1, l2, rfl⟩ := tk hb
      exact h k l (by omega) (by omega) (by omega)
    · obtain ⟨k, k1, k2, rfl⟩ := tk ha
      exact h k j (by omega) (by omega) (by omega)
    · obtain ⟨l, l1, l2, rfl⟩ := tk hb
      exact h i l (by omega) (by omega) (by omega)
  constructor
  · intro h
    have all : ∀ n i j, i + j = n → i < u.length → j < v.length → u.getD i 0 ∈ f (v.getD j 0) := by
      intro n
      induction n using Nat.strongRecOn with
      | ind n ih =>
        intro i j e hi hj
        refine (bt_zero ok).mp ?_
        rw [← key i j hi hj fun i' j' h1 h2 h3 => ih (i' + j') (by omega) i' j' rfl (by omega) (by omega)]
        exact h i hi j hj
    intro a ha b hb
    obtain ⟨i, hi, rfl⟩ := List.getElem_of_mem ha
    obtain ⟨j, hj, rfl⟩ := List.getElem_of_mem hb
    have := all _ i j rfl hi hj
    rw [List.getD_eq_getElem?_getD, List.getD_eq_getElem?_getD, List.getElem?_eq_getElem hi, List.getElem?_eq_getElem hj] at this
    exact this
  · intro h i hi j hj
    rw [key i j hi hj fun i' j' h1 h2 _ => h _ (getD_in (by omega)) _ (getD_in (by omega))]
    exact bt_in ok (h _ (getD_in hi) _ (getD_in hj))
end
end Cw
set_option Elab.async false
set_option linter.all false
set_option maxRecDepth 100000
set_option maxHeartbeats 4000000
/-! the gate of rooms, seen from a room -/
namespace Cw
section
variable {f : Nat → List Nat} {ls : List Nat}
structure Gate (f : Nat → List Nat) (ls : List Nat) (r : List Nat) (S : List (List Nat)) (N : List Nat) : Prop where
  nf : NF f N
  mem : ∀ y ∈ N, y ∈ ls
  ne : S ≠ []
  by' : ∀ z, (∀ y ∈ z, y ∈ ls) → ∀ s ∈ ls, (Ng f ls (z ++ N) s ↔ (Ng f ls (z ++ r) s ∧ ∃ x ∈ S, Ng f ls (z ++ x) s) ∨ ∀ x ∈ S, Ng f ls (z ++ x) s)
  bt : ∀ x ∈ S, Btw f r x N
theorem btw_end (ok : CrOk f) {a b : List Nat} : Btw f a b b := by
  unfold Btw
  rw [way_self ok]
  rfl
theorem Gate.one (ok : CrOk f) {r x : List Nat} (nx : NF f x) (mx : ∀ y ∈ x, y ∈ ls) : Gate f ls r [x] x where
  nf := nx
  mem := mx
  ne := by simp
  by' z hz s hs := by simp
  bt y hy := by rw [List.mem_singleton.mp hy]; exact btw_end ok
theorem Gate.step (ok : CrOk f) {r N x N' : List Nat} {S : List (List Nat)} (h : Gate f ls r S N) (m : MidX f ls r N x N') : Gate f ls r (S ++ [x]) N' where
  nf := m.nf
  mem := m.mem
  ne := by simp
  by' z hz s hs := by
    rw [m.by' z hz s hs, h.by' z hz s hs]
    obtain ⟨y, S', e⟩ : ∃ y S', S = y :: S' := by
      cases hS : S with
      | nil => exact absurd hS h.ne
      | cons y S' => exact ⟨y, S', rfl⟩
    have ex : (∀ x ∈ S, Ng f ls (z ++ x) s) → ∃ x ∈ S, Ng f ls (z ++ x) s := fun a => ⟨y, by rw [e]; exact List.mem_cons_self .., a y (by rw [e]; exact List.mem_cons_self ..)⟩
    simp only [List.mem_append, List.mem_singleton]
    have e1 : (∃ w, (w ∈ S ∨ w = x) ∧ Ng f ls (z ++ w) s) ↔ (∃ w ∈ S, Ng f ls (z ++ w) s) ∨ Ng f ls (z ++ x) s := by
      constructor
      · rintro ⟨w, a | rfl, b⟩
        · exact .inl ⟨w, a, b⟩
        · exact .inr b
      · rintro (⟨w, a, b⟩ | b)
        · exact ⟨w, .inl a, b⟩
        · exact ⟨x, .inr rfl, b⟩
    have e2 : (∀ w, (w ∈ S ∨ w = x) → Ng f ls (z ++ w) s) ↔ (∀ w ∈ S, Ng f ls (z ++ w) s) ∧ Ng f ls (z ++ x) s := ⟨fun a => ⟨fun w hw => a w (.inl hw), a x (.inr rfl)⟩, fun a w hw => hw.elim (a.1 w) fun z => z ▸ a.2⟩
    rw [e1, e2]
    generalize (∃ w ∈ S, Ng f ls (z ++ w) s) = EX at *
    generalize (∀ w ∈ S, Ng f ls (z ++ w) s) = AL at *
    generalize Ng f ls (z ++ r) s = R
    generalize Ng f ls (z ++ x) s = X
    by_cases R <;> by_cases X <;> by_cases EX <;> by_cases AL <;> simp_all
  bt y hy := by
    rcases List.mem_append.mp hy with hy | hy
    · have h1 := h.bt y hy
      have h2 := m.ab
      have t1 := way_tri ok r y N'
      have t2 := way_tri ok N' y N
      unfold Btw at *
      omega
    · rw [List.mem_singleton.mp hy]
      exact m.ac
theorem Gate.uniq (ok : CrOk f) {r N N' : List Nat} {S S' : List (List Nat)} (h : Gate f ls r S N) (h' : Gate f ls r S' N') (e : ∀ x, x ∈ S ↔ x ∈ S') : N = N' := by
  refine room_uniq ok h.nf h'.nf h.mem h'.mem fun s hs z => ?_
  have hz : ∀ y ∈ N.reverse, y ∈ ls := fun y hy => h.mem y (List.mem_reverse.mp hy)
  rw [h'.by' _ hz s hs] at z
  simp only [← e] at z
  exact ng_back ok N s ((h.by' _ hz s hs).mpr z)
theorem Gate.door (ok : CrOk f) {r N : List Nat} {S : List (List Nat)} (h : Gate f ls r S N) {s : Nat} (hs : s ∈ ls) : ∃ x ∈ S, ¬ Ng f ls (N.reverse ++ x) s := by
  refine Classical.byContradiction fun n => ?_
  have hz : ∀ y ∈ N.reverse, y ∈ ls := fun y hy => h.mem y (List.mem_reverse.mp hy)
  exact ng_back ok N s ((h.by' _ hz s hs).mpr (.inr fun x hx => Classical.byContradiction fun m => n ⟨x, hx, m⟩))
/-- the gate is its own gate -/
theorem Gate.self (ok : CrOk f) {r N N' : List Nat} {S : List (List Nat)} (h : Gate f ls r S N) (h' : Gate f ls N S N') : N' = N := by
  refine (room_uniq ok h.nf h'.nf h.mem h'.mem fun s hs z => ?_).symm
  have hz : ∀ y ∈ N.reverse, y ∈ ls := fun y hy => h.mem y (List.mem_reverse.mp hy)
  rw [h'.by' _ hz s hs] at z
  obtain ⟨x, hx, n⟩ := h.door ok hs
  rcases z with z | z
  · exact ng_back ok N s z.1
  · exact n (z x hx)
end
end Cw
set_option Elab.async false
set_option linter.all false
set_option maxRecDepth 100000
set_option maxHeartbeats 4000000
/-! rooms with weights: where no door leads to a lesser total, the total is told by the walls -/
namespace Cw
section
variable {f : Nat → List Nat} {ls : List Nat}
/-- the rooms and their weights -/
structure Wts (f : Nat → List Nat) (ls : List Nat) (P : List (List Nat × Int)) : Prop where
  ne : P ≠ []
  nf : ∀ a ∈ P, NF f a.1
  mem : ∀ a ∈ P, ∀ c ∈ a.1, c ∈ ls
  pos : ∀ a ∈ P, 0 < a.2
theorem wayB_mem {u v : List Nat} (hu : ∀ y ∈ u, y ∈ ls) (hv : ∀ y ∈ v, y ∈ ls) : ∀ y ∈ wayC f u v, y ∈ ls := fun y hy => by
  rcases List.mem_append.mp (name_mem hy) with z | z
  · exact hu y (List.mem_reverse.mp z)
  · exact hv y z
end
end Cw
set_option Elab.async false
set_option linter.all false
set_option maxRecDepth 100000
set_option maxHeartbeats 4000000
/-! the least total, wall by wall -/
namespace Cw
section
variable {f : Nat → List Nat} {ls : List Nat}
end
end Cw
set_option Elab.async false
set_option linter.all false
set_option maxRecDepth 100000
set_option maxHeartbeats 4000000
/-! going from door to door: paths, pulls, the one centre -/
namespace Cw
section
variable {f : Nat → List Nat} {ls : List Nat}
theorem red_len (ok : CrOk f) {w : List Nat} (mw : ∀ y ∈ w, y ∈ ls) (h : Red f w) : (nameOf f w).length = w.length := by
  have key : ∀ (n : Nat) (w : List Nat), w.length = n → (∀ y ∈ w, y ∈ ls) → Red f w → (nameOf f w).length = w.length := by
    intro n
    induction n with
    | zero =>
      intro w hl _ _
      rw [List.length_eq_zero_iff.mp hl]
      rfl
    | succ n ih =>
      intro w hl mw h
      rcases List.eq_nil_or_concat w with rfl | ⟨v, k, rfl⟩
      · rfl
      rw [List.concat_eq_append] at *
      have hv := Red_left h
      have mv : ∀ y ∈ v, y ∈ ls := fun y hy => mw y (List.mem_append_left _ hy)
      have mk : k ∈ ls := mw k (List.mem_append_right _ (List.mem_singleton_self k))
      have i := ih v (by simpa using hl) mv hv
      have nd : ¬ desc f k v.reverse := by
        have := h.rev
        rw [List.reverse_append] at this
        exact this.1
      have nd2 : ¬ desc f k (nameOf f v).reverse := fun d => nd <| by
        have mvr : ∀ y ∈ v.reverse, y ∈ ls := fun y hy => mv y (List.mem_reverse.mp hy)
        have mnr : ∀ y ∈ (nameOf f v).reverse, y ∈ ls := fun y hy => mv y (name_mem (List.mem_reverse.mp hy))
        refine (ng_desc ok hv.rev mvr mk).mp ((ng_act (fun g => ?_) k).mp ((ng_desc ok (name_NF ok v).red.rev mnr mk).mpr d))
        exact act_rev_eq ok (name_act ok v) g
      have e : nameOf f (v ++ [k]) = stepOf (f k) (nameOf f v) k := by
        show joinC f [] (v ++ [k]) = _
        rw [joinC_app]
        rfl
      rw [e, (step_len_desc ok (nameOf f v) k).2 nd2, i, List.length_append]
      rfl
  exact key _ w rfl mw h
/-- a shortest way from room to room -/
structure PathTo (f : Nat → List Nat) (ls x y p : List Nat) : Prop where
  red : Red f p
  mem : ∀ c ∈ p, c ∈ ls
  act' : ∀ g, act f p g = act f (x.reverse ++ y) g
theorem PathTo.start (ok : CrOk f) {x y : List Nat} (mx : ∀ c ∈ x, c ∈ ls) (my : ∀ c ∈ y, c ∈ ls) : PathTo f ls x y (wayC f x y) := ⟨(name_NF ok _).red, wayB_mem mx my, fun g => name_act ok _ g⟩
theorem PathTo.len (ok : CrOk f) {x y p : List Nat} (h : PathTo f ls x y p) : p.length = (wayC f x y).length := by
  rw [← red_len ok h.mem h.red, name_eq ok h.act']
  rfl
theorem PathTo.first (ok : CrOk f) {x y p : List Nat} (h : PathTo f ls x y p) {s : Nat} (hs : s ∈ ls) : desc f s p ↔ Ng f ls (x.reverse ++ y) s := by
  rw [← ng_desc ok h.red h.mem hs]
  exact ng_act h.act' s
theorem step_act (ok : CrOk f) (x : List Nat) (s : Nat) (y : List Nat) (g : Nat → Int) : act f ((nameOf f (x ++ [s])).reverse ++ y) g = act f (s :: (x.reverse ++ y)) g := by
  rw [act_app, act_rev_eq ok (name_act ok (x ++ [s])), List.reverse_append, List.reverse_singleton, ← act_app]
  rfl
theorem PathTo.erase (ok : CrOk f) {x y p : List Nat} (h : PathTo f ls x y p) {s : Nat} (d : desc f s p) : PathTo f ls (nameOf f (x ++ [s])) y (p.erase s) where
  red := erase_red ok d h.red
  mem c hc := h.mem c (List.mem_of_mem_erase hc)
  act' g := by
    rw [step_act ok]
    show _ = thr f s (act f (x.reverse ++ y) g)
    rw [← h.act', ← erase_act ok d]
    show _ = thr f s (thr f s (act f (p.erase s) g))
    rw [thr_thr ok]
theorem PathTo.cons (ok : CrOk f) {x y p : List Nat} (h : PathTo f ls x y p) {s : Nat} (hs : s ∈ ls) (d : ¬ desc f s p) : PathTo f ls (nameOf f (x ++ [s])) y (s :: p) where
  red := ⟨d, h.red⟩
  mem c hc := (List.mem_cons.mp hc).elim (fun e => e ▸ hs) (h.mem c)
  act' g := by
    rw [step_act ok]
    show thr f s (act f p g) = thr f s (act f (x.reverse ++ y) g)
    rw [h.act']
end
end Cw
set_option Elab.async false
set_option linter.all false
set_option maxRecDepth 100000
set_option maxHeartbeats 4000000
/-! the last common room, the room beyond both; the nearest room at a wall -/
namespace Cw
open PySem PySem.Spec L2
section
variable {f : Nat → List Nat} {ls : List Nat}
/-- the room beyond both, if all letters cross -/
structure BothX (f : Nat → List Nat) (ls a b M : List Nat) : Prop where
  len : (nameOf f (a ++ wayC f M b)).length = M.length + (wayC f M a).length + (wayC f M b).length
  ina : ∀ u ∈ crL f a, ∃ w ∈ crL f (nameOf f (a ++ wayC f M b)), ∀ x ∈ ls, w x = u x
  inb : ∀ u ∈ crL f b, ∃ w ∈ crL f (nameOf f (a ++ wayC f M b)), ∀ x ∈ ls, w x = u x
/-! ### the nearest room at a wall -/
theorem pos_along (ok : CrOk f) {w : List Nat} {s c : Nat} (hc : c ∈ f s) : posM f ls (w ++ [c]) s = posM f ls w s := by
  have e : ∀ x, act f (w ++ [c]).reverse (unit x) s = act f w.reverse (unit x) s := fun x => by
    rw [List.reverse_append]
    exact mark_along (u := [c]) ok fun y hy => by
      rw [List.mem_singleton.mp hy]
      exact hc
  unfold posM
  simp only [e]
theorem near_step (hn : ls.Nodup) (ok : CrOk f) {w : List Nat} {s c : Nat} (mw : ∀ y ∈ w, y ∈ ls) (hs : s ∈ ls) (hc : c ∈ ls) (h : c = s ∨ c ∈ f s) : startC f (nameOf f (w ++ [c])) s = startC f (nameOf f w) s := by
  rcases h with rfl | h
  · exact wall_thr hn ok hs mw
  · refine (wall_iff hn ok hs (fun y hy => (List.mem_append.mp hy).elim (mw y) fun z => List.mem_singleton.mp z ▸ hc) mw).mpr fun x _ => ?_
    rw [pos_along ok h]
end
end Cw
set_option Elab.async false
set_option linter.all false
set_option maxRecDepth 100000
set_option maxHeartbeats 4000000
/-! sorted of texts, any number of them -/
namespace Cw
open PySem PySem.Spec L2 PyProof.Rows SrtO
/-- the codes of a text -/
def sv : Value → List Nat
  | .str x _ => x.cps.toList
  | _ => []
def ltSv (v u : Value) : Bool := decide (sv v < sv u)
theorem swo_str : Swo ltSv := by
  refine ⟨fun x y h => ?_, fun x y z h1 h2 => ?_⟩
  · have a := of_decide_eq_true (p := sv x < sv y) h
    exact decide_eq_false (p := sv y < sv x) (List.lt_asymm a)
  · have a := of_decide_eq_false (p := sv y < sv x) h1
    have b := of_decide_eq_false (p := sv z < sv y) h2
    exact decide_eq_false (p := sv z < sv x) fun c => by
      by_cases d : sv z < sv y
      · exact b d
      · exact a (List.lt_of_le_of_lt (List.not_lt.mp d) c)
section
variable {prog : Program} {w : World} {A : Around} {s : Shared}
theorem str_sortable {a : Addr} {vs : List Value} {ss : List Str} (hS : StrsAre vs ss) (h2 : 2 ≤ vs.length) : SortableO prog w A s a vs ltSv := by
  intro h' _
  refine ⟨oneType', fun Q E hq => ?_, fun p q hm hm' => ?_⟩
  · match vs, hS, h2 with
    | v1 :: v2 :: rest, hS, _ =>
      rw [keyKind_strs hS]
      exact wpAny_pure hq
    | [], _, h => exact absurd h (by decide)
    | [v], _, h => exact absurd h (by simp)
  · obtain ⟨x, t, e⟩ := hS.all _ hm
    obtain ⟨y, u, e'⟩ := hS.all _ hm'
    show wpAny (model prog w) A (keyLt' oneType' p.1 q.1) (fun r s' => s' = { s with heap := h' } ∧ r = ltSv p.1 q.1) (fun _ _ => False) { s with heap := h' }
    rw [e, e', keyLt'_oneType]
    exact oneLt_str ⟨rfl, rfl⟩
end
theorem sv_str {vs : List Value} {ls : List (List Nat)} (h : StrsAre vs (ls.map tx)) : vs.map sv = ls := by
  have key : ∀ {vs : List Value} {ss : List Str}, StrsAre vs ss → vs.map sv = ss.map fun x => x.cps.toList := by
    intro vs ss h
    induction h with
    | nil => rfl
    | cons x t r ih => rw [List.map_cons, List.map_cons, ih]; rfl
  rw [key h, List.map_map]
  have : ((fun x : Str => x.cps.toList) ∘ tx) = id := funext fun l => rfl
  rw [this, List.map_id]
theorem str_sv {vs : List Value} (h : ∀ v ∈ vs, ∃ x t, v = Value.str x t) : StrsAre vs ((vs.map sv).map tx) := by
  have e : (vs.map sv).map tx = vs.map strOf := by
    rw [List.map_map]
    refine List.map_congr_left fun v hv => ?_
    obtain ⟨x, t, rfl⟩ := h v hv
    show tx x.cps.toList = x
    exact tx_eq.symm
  rw [e]
  exact strsAre_map vs h
/-- sorted(xs), texts, any number of them -/
def rSortedS (K : PySem.W.Frag) : List V → Hp → VK → Prop := fun vs H Q => ∃ (a : Addr) (ls : List (List Nat)), vs = [V.ref a] ∧ SqL K H a (ls.map fun l => V.str (tx l)) ∧
  ∀ (ls' : List (List Nat)) (p : Addr), ls'.Perm ls → ls'.Pairwise (fun a b => ¬ b < a) → H p = none → Q (.ref p) (upd H p (.lst (ls'.map fun l => V.str (tx l))))
theorem map_tx (ls : List (List Nat)) : (ls.map fun l => V.str (tx l)) = (ls.map tx).map V.str := by rw [List.map_map]; rfl
section
variable {X : Cx}
theorem cr_sortedT : CallR X (.builtin "sorted") (rSortedS X.K) := by
  intro pins s σ H vs us Q I r h
  obtain ⟨a, ls, rfl, hs, q⟩ := h
  rw [map_tx] at hs
  obtain ⟨its, rv, hl, hz⟩ := I.list hs
  rw [Vals.ref1 r]
  have hi := rv.strs
  refine sorted_ord swo_str hl.isList (by rw [← rv.length]; exact hz) (fun h2 h₁ a' _ _ => str_sortable hi h2) fun out h1 h2 => ?_
  have all := fun v hv => hi.all v (h2.perm.mem_iff.mp hv)
  have k1 : StrsAre out ((out.map sv).map tx) := str_sv all
  have k2 : (out.map sv).Perm ls := by
    have := h2.perm.map sv
    rw [sv_str hi] at this
    exact this
  have k3 : (out.map sv).Pairwise (fun a b => ¬ b < a) := List.pairwise_map.mpr (h1.imp fun {x y} h => of_decide_eq_false (p := sv y < sv x) h)
  obtain ⟨ep, he'⟩ := sortedAll_at s.heap its out.toArray
  have hlen : (((out.map sv).map tx).map V.str).length ≤ sizeLine := by
    rw [List.length_map, List.length_map, k2.length_eq]
    rw [List.length_map, List.length_map] at hz
    exact hz
  have q := q _ (s.heap.objs.size + 1) k2 k3 (I.hok.fresh (Nat.le_succ _))
  rw [map_tx] at q
  exact ⟨.ref _, upd H (s.heap.objs.size + 1) (.lst (((out.map sv).map tx).map V.str)), I.laid (t' := s.toks) (fun _ _ => sortedAll_old) (Nat.le_succ _) ⟨hlen, out, ep, vals_of_strs k1, he'⟩, rfl, q⟩
end
end Cw
set_option Elab.async false
set_option linter.all false
set_option maxRecDepth 100000
set_option maxHeartbeats 4000000
/-! sorted(xs, key=len) of texts, any number of them: stable -/
namespace Cw
open PySem PySem.Spec PyProof.Rows Srt SrtO
def ltLen (v u : Value) : Bool := decide ((sv v).length < (sv u).length)
section
variable {prog : Program} {w : World} {A : Around} {E : Value → Shared → Prop} {s : Shared} {a kS : Addr} {vs : List Value} {keys : Array Value} {e e1 : Nat} {R : PySem.Fin → Shared → Prop}
/-- the end of a sort by keys: the keys go, the items are laid -/
theorem len_tail {st : SortSt} (hk : s.heap.get? kS = some (seqObj "list" keys e)) (ha : s.heap.get? a = some (seqObj "list" #[] e1)) (ne : kS ≠ a) (zk : keys.size ≤ sizeLine) (zs : (arrOf st).size ≤ sizeLine) (hf : failedOf st = none)
    (q : ∀ h', (∀ b o, b ≠ a → b ≠ kS → s.heap.get? b = some o → h'.get? b = some o) → (∃ c, h'.get? a = some (seqObj "list" ((arrOf st).map (·.2)) c)) → R (.done (.ret .none)) { s with heap := h' }) :
    wpAny (model prog w) A (ksk_tail a false e1 (.ref kS) st) R E s := by
  have b1 := Heap.SameBut.update s.heap kS (Obj.mapSeq fun _ => (#[] : Array Value))
  have a1 := (b1.2 a ne.symm).trans ha
  have b2 := Heap.SameBut.update (s.heap.update kS (Obj.mapSeq fun _ => (#[] : Array Value))) a (Obj.mapSeq fun _ => (arrOf st).map (·.2))
  have a2 := get?_update_seq a1 fun _ => (arrOf st).map (·.2)
  unfold ksk_tail
  dsimp only
  refine wpAny_bind (listUpdate_at hk rfl ?_ zk (Nat.zero_le _))
  refine wpAny_bind (wpAny_letGo ?_)
  refine wpAny_bind (seqEpoch_at a1 rfl ?_)
  refine wpAny_bind (listUpdate_at a1 rfl ?_ (Nat.zero_le _) (by
    show ((arrOf st).map (·.2)).size ≤ sizeLine + 1
    rw [Array.size_map]
    omega))
  rw [hf]
  simp only [bne_self_eq_false, Bool.false_eq_true, if_false]
  exact wpAny_pure (q _ (fun b o n1 n2 z => (b2.2 b n1).trans ((b1.2 b n2).trans z)) ⟨_, a2⟩)
theorem zip_keys (ks : Array Value) (xs : List Value) : (ks.zip xs.toArray).toList = ks.toList.zip xs := by simp
/-- what the pairs of lengths and texts come to -/
theorem len_out {xs ks : List Value} (hS : ∀ v ∈ xs, ∃ x t, v = Value.str x t) (hk : ks.map iv = xs.map fun v => ((sv v).length : Int)) {l : List Keyed} (h1 : Srtd (lt2 ltIv) l) (h2 : Stb (lt2 ltIv) l (ks.zip xs)) : Srtd ltLen (l.map (·.2)) ∧ Stb ltLen (l.map (·.2)) xs := by
  have hl : ks.length = xs.length := by
    have := congrArg List.length hk
    rw [List.length_map, List.length_map] at this
    exact this
  have pair : ∀ p ∈ ks.zip xs, iv p.1 = ((sv p.2).length : Int) := by
    intro p hp
    obtain ⟨i, hi, rfl⟩ := List.mem_iff_getElem.mp hp
    rw [List.length_zip] at hi
    have := congrArg (·[i]?) hk
    simp only [List.getElem?_map] at this
    rw [List.getElem?_eq_getElem (by omega), List.getElem?_eq_getElem (by omega)] at this
    rw [List.getElem_zip]
    injection this
  have pl : ∀ p ∈ l, iv p.1 = ((sv p.2).length : Int) := fun p hp => pair p (h2.perm.mem_iff.mp hp)
  have lt_eq : ∀ p q : Keyed, iv p.1 = ((sv p.2).length : Int) → iv q.1 = ((sv q.2).length : Int) → lt2 ltIv p q = ltLen p.2 q.2 := by
    intro p q e1 e2
    show decide (iv p.1 < iv q.1) = decide _
    rw [e1, e2]
    exact decide_eq_decide.mpr (by omega)
  refine ⟨?_, ?_, fun v => ?_⟩
  · show (l.map (·.2)).Pairwise _
    rw [List.pairwise_map]
    refine List.Pairwise.imp_of_mem (fun {p q} hp hq h => ?_) h1
    rw [← lt_eq q p (pl q hq) (pl p hp)]
    exact h
  · have := h2.perm.map (·.2)
    rw [List.map_snd_zip (by omega)] at this
    exact this
  · have c := congrArg (List.map (·.2)) (h2.cls ((.int ((sv v).length : Int) 0, v) : Keyed))
    have key : ∀ m : List Keyed, (∀ p ∈ m, iv p.1 = ((sv p.2).length : Int)) → (m.filter (eqv (lt2 ltIv) ((.int ((sv v).length : Int) 0, v) : Keyed))).map (·.2) = (m.map (·.2)).filter (eqv ltLen v) := by
      intro m hm
      rw [List.filter_map]
      congr 1
      refine List.filter_congr fun p hp => ?_
      show eqv (lt2 ltIv) _ p = eqv ltLen v p.2
      unfold eqv
      rw [lt_eq _ p rfl (hm p hp), lt_eq p _ (hm p hp) rfl]
    rw [key l pl, key _ pair, List.map_snd_zip (by omega)] at c
    exact c
theorem len_end {ss : List Str} (hS : StrsAre vs ss) (hk : s.heap.get? kS = some (seqObj "list" keys e)) (ha : s.heap.get? a = some (seqObj "list" #[] e1)) (ne : kS ≠ a) (zv : vs.length ≤ sizeLine) (hi : IntsAre keys.toList (vs.map fun v => ((sv v).length : Int)))
    (q : ∀ h' (out : List Value), (∀ b o, b ≠ a → b ≠ kS → s.heap.get? b = some o → h'.get? b = some o) → (∃ c, h'.get? a = some (seqObj "list" out.toArray c)) → Srtd ltLen out → Stb ltLen out vs → R (.done (.ret .none)) { s with heap := h' }) :
    wpAny (model prog w) A (ksk_end a false vs.toArray e1 (.ref kS) keys) R E s := by
  have hl : keys.size = vs.length := by
    have := hi.length
    rw [Array.length_toList, List.length_map] at this
    exact this
  have hkz : (keys.zip vs.toArray).toList = keys.toList.zip vs := zip_keys _ _
  have zz : (keys.zip vs.toArray).size = vs.length := by rw [Array.size_zip, hl, List.size_toArray, Nat.min_self]
  have fin : ∀ st' : SortSt, Srtd (lt2 ltIv) (arrOf st').toList → Stb (lt2 ltIv) (arrOf st').toList (keys.zip vs.toArray).toList → failedOf st' = none → wpAny (model prog w) A (ksk_tail a false e1 (.ref kS) st') R E s := by
    intro st' h1 h2 h3
    have hz : (arrOf st').size = vs.length := by
      have := h2.perm.length_eq
      rw [Array.length_toList, Array.length_toList, zz] at this
      exact this
    rw [hkz] at h2
    obtain ⟨k1, k2⟩ := len_out (fun v hv => hS.all v hv) (iv_ints hi) h1 h2
    refine len_tail hk ha ne (by rw [hl]; exact zv) (by rw [hz]; exact zv) h3 fun h' kp ⟨c, hc⟩ => ?_
    refine q h' ((arrOf st').toList.map (·.2)) kp ⟨c, ?_⟩ k1 k2
    rw [hc]
    congr 2
    apply Array.ext'
    simp
  unfold ksk_end
  dsimp only
  rw [if_neg Bool.false_ne_true]
  by_cases h2 : vs.toArray.size < 2
  · rw [if_pos h2, if_pos h2]
    refine wpAny_bind (wpAny_pure ?_)
    rw [StateT.run_pure]
    refine wpAny_bind (wpAny_pure ?_)
    refine fin (SortSt.mk' general' (keys.zip vs.toArray) #[] 7 none) ?_ (Stb.refl _) rfl
    show Srtd (lt2 ltIv) (keys.zip vs.toArray).toList
    have hlen : (keys.zip vs.toArray).toList.length < 2 := by
      rw [Array.length_toList, zz]
      rw [List.size_toArray] at h2
      exact h2
    match (keys.zip vs.toArray).toList, hlen with
    | [], _ => exact List.Pairwise.nil
    | [v], _ => exact List.pairwise_singleton _ _
    | _ :: _ :: l, h => exact absurd h (by simp)
  · rw [if_neg h2, if_neg h2]
    rw [List.size_toArray] at h2
    rw [ksk_kind hi (by rw [hl]; omega)]
    refine wpAny_bind (wpAny_pure ?_)
    have all : AllL (fun p : Keyed => p.1 ∈ keys.toList) (keys.zip vs.toArray).toList := fun p hm => by
      rw [hkz] at hm
      obtain ⟨x, y⟩ := p
      exact (List.of_mem_zip hm).1
    refine wpAny_bind (wpAny_mono (wpS_sortO (st0 := SortSt.mk' oneType' (keys.zip vs.toArray) #[] 7 none)
      (Q := fun _ st' => Srtd (lt2 ltIv) (arrOf st').toList ∧ Stb (lt2 ltIv) (arrOf st').toList (keys.zip vs.toArray).toList ∧ failedOf st' = none) (swo2 swo_int) (int_cmp hi) rfl all rfl rfl fun st' c1 c2 c3 => ⟨c1, c2, c3⟩) ?_ fun _ _ z => z)
    rintro ⟨⟨⟩, st'⟩ s' ⟨rfl, c1, c2, c3⟩
    exact fin st' c1 c2 c3
theorem ints_app {n : Int} {t : Tok} : ∀ {xs : List Value} {ns : List Int}, IntsAre xs ns → IntsAre (xs ++ [.int n t]) (ns ++ [n])
  | _, _, .nil => .cons n t .nil
  | _, _, .cons m u r => .cons m u (ints_app r)
/-- the lengths are taken one by one -/
theorem len_rest {ss : List Str} (hS : StrsAre vs ss) (hz : ∀ v ∈ vs, (sv v).length ≤ 1000000) (hk : s.heap.get? kS = some (seqObj "list" #[] e)) (ha : s.heap.get? a = some (seqObj "list" #[] e1)) (ne : kS ≠ a) (zv : vs.length ≤ sizeLine)
    (q : ∀ h' tk (out : List Value), (∀ b o, b ≠ a → b ≠ kS → s.heap.get? b = some o → h'.get? b = some o) → (∃ c, h'.get? a = some (seqObj "list" out.toArray c)) → Srtd ltLen out → Stb ltLen out vs → R (.done (.ret .none)) { s with heap := h', toks := tk }) :
    wpAny (model prog w) A (ksk_rest a (.builtin "len") false vs.toArray e1 (.ref kS)) R E s := by
  unfold ksk_rest
  refine wpAny_bind (wpAny_rule ?_)
  rw [List.forIn_toArray]
  refine wpAny_bind (ksk_fold (fun i s' => ∃ h' tk kA c, s' = { s with heap := h', toks := tk } ∧ (∀ b o, b ≠ a → b ≠ kS → s.heap.get? b = some o → h'.get? b = some o) ∧ h'.get? kS = some (seqObj "list" kA c) ∧ h'.get? a = some (seqObj "list" #[] e1) ∧ IntsAre kA.toList ((vs.map fun v => ((sv v).length : Int)).take i)) vs 0 s
    ⟨s.heap, s.toks, #[], e, rfl, fun _ _ _ _ z => z, hk, ha, by simpa using IntsAre.nil⟩ ?step ?done)
  case step =>
    rintro j x s' hx ⟨h', tk, kA, c, rfl, kp, k1, a1, hi⟩
    simp only [Nat.zero_add] at hi ⊢
    have hj : j < vs.length := (List.getElem?_eq_some_iff.mp hx).1
    have hm : x ∈ vs := List.mem_of_getElem? hx
    obtain ⟨y, t, rfl⟩ := hS.all _ hm
    have ly : (y.length : Int) = ((sv (.str y t)).length : Int) := by
      show (y.cps.size : Int) = (y.cps.toList.length : Int)
      rw [Array.length_toList]
    have lz : y.length ≤ 1000000 := by
      have := hz _ hm
      omega
    have zk : kA.size ≤ vs.length := by
      have := hi.length
      rw [Array.length_toList, List.length_take, List.length_map] at this
      omega
    refine wpAny_bind (wpAny_attempt (PySem.P.len_str (by omega) ?_))
    dsimp only
    have b1 := Heap.SameBut.update h' kS (Obj.mapSeq (·.push (.int y.length (tk + 1))))
    have k2 := get?_update_seq k1 (·.push (Value.int y.length (tk + 1)))
    refine wpAny_bind (listUpdate_at k1 rfl ?_ (Nat.le_trans zk zv) (Nat.le_trans (Nat.le_of_eq (Array.size_push ..)) (Nat.succ_le_succ (Nat.le_trans zk zv))))
    refine wpAny_pure ⟨rfl, _, _, kA.push (.int y.length (tk + 1)), _, rfl, fun b o n1 n2 z => (b1.2 b n2).trans (kp b o n1 n2 z), k2, (b1.2 a ne.symm).trans a1, ?_⟩
    have ek : (vs.map fun v => ((sv v).length : Int)).take (j + 1) = (vs.map fun v => ((sv v).length : Int)).take j ++ [(y.length : Int)] := by
      rw [List.take_add_one, List.getElem?_map, hx, ly]
      rfl
    rw [ek, Array.toList_push]
    exact ints_app hi
  case done =>
    rintro s' ⟨h', tk, kA, c, rfl, kp, k1, a1, hi⟩
    have ek : (vs.map fun v => ((sv v).length : Int)).take (0 + vs.length) = vs.map fun v => ((sv v).length : Int) := List.take_of_length_le (by rw [List.length_map]; omega)
    rw [ek] at hi
    refine wpAny_bind (listItems_at k1 rfl ?_)
    exact len_end hS k1 a1 ne zv hi fun h2 out kp2 ho r1 r2 => q h2 tk out (fun b o n1 n2 z => kp2 b o n1 n2 (kp b o n1 n2 z)) ho r1 r2
theorem len_sort {ss : List Str} {n : Nat} (hS : StrsAre vs ss) (hz : ∀ v ∈ vs, (sv v).length ≤ 1000000) (ho : s.heap.get? a = some (seqObj "list" vs.toArray n)) (zv : vs.length ≤ sizeLine)
    (q : ∀ h' tk (out : List Value), (∀ b o, b ≠ a → s.heap.get? b = some o → h'.get? b = some o) → (∃ c, h'.get? a = some (seqObj "list" out.toArray c)) → Srtd ltLen out → Stb ltLen out vs → R (.done (.ret .none)) { s with heap := h', toks := tk }) :
    wpAny (model prog w) A (ksk_tree a (.builtin "len") false) R E s := by
  have la : a < s.heap.objs.size := Heap.lt_size ho
  have b1 := Heap.SameBut.update s.heap a (Obj.mapSeq fun _ => (#[] : Array Value))
  have a1 := get?_update_seq ho fun _ => (#[] : Array Value)
  have hk : ((s.heap.update a (Obj.mapSeq fun _ => (#[] : Array Value))).push (seqObj "tuple" vs.toArray 0)).objs.size = s.heap.objs.size + 1 := by rw [size_push', Heap.size_update]
  unfold ksk_tree
  refine wpAny_bind (listItems_at ho rfl ?_)
  refine wpAny_bind (listUpdate_at ho rfl ?_ (by rw [List.size_toArray]; exact zv) (Nat.zero_le _))
  refine wpAny_bind (seqEpoch_at a1 rfl ?_)
  refine wpAny_bind (wpAny_newTuple ?_ (by show vs.length ≤ _; exact zv))
  refine wpAny_bind (wpAny_newList ?_ (Nat.zero_le _))
  refine wpAny_holding ?_
  have more : ∀ b o, b ≠ a → s.heap.get? b = some o → (((s.heap.update a (Obj.mapSeq fun _ => (#[] : Array Value))).push (seqObj "tuple" vs.toArray 0)).push (seqObj "list" #[] 0)).get? b = some o := fun b o nb z => Heap.get?_push_of_some _ (Heap.get?_push_of_some _ ((b1.2 b nb).trans z))
  refine len_rest (s := { s with heap := ((s.heap.update a (Obj.mapSeq fun _ => (#[] : Array Value))).push (seqObj "tuple" vs.toArray 0)).push (seqObj "list" #[] 0) }) (kS := ((s.heap.update a (Obj.mapSeq fun _ => (#[] : Array Value))).push (seqObj "tuple" vs.toArray 0)).objs.size) (e := 0) hS hz
    (Heap.get?_push_size _ rfl) (Heap.get?_push_of_some _ (Heap.get?_push_of_some _ a1)) (by rw [hk]; exact Nat.ne_of_gt (Nat.lt_succ_of_lt la)) zv fun h' tk out kp ho' r1 r2 => ?_
  refine q h' tk out (fun b o nb z => ?_) ho' r1 r2
  have lb : b < s.heap.objs.size := Heap.lt_size z
  exact kp b o nb (by rw [hk]; exact Nat.ne_of_lt (Nat.lt_succ_of_lt lb)) (more b o nb z)
/-- sorted(l, key=len) -/
theorem len_sorted {ss : List Str} {l : Addr} {Q : Value → Shared → Prop} (hS : StrsAre vs ss) (hz : ∀ v ∈ vs, (sv v).length ≤ 1000000) (hl : s.heap.IsList l vs.toArray) (zv : vs.length ≤ sizeLine)
    (q : ∀ h' tk (out : List Value), (∀ b o, s.heap.get? b = some o → h'.get? b = some o) → (∃ c, h'.get? (s.heap.objs.size + 1) = some (seqObj "list" out.toArray c)) → Srtd ltLen out → Stb ltLen out vs → Q (.ref (s.heap.objs.size + 1)) { s with heap := h', toks := tk }) :
    wpAny (model prog w) A (call (.builtin "sorted") [.ref l] [(Str.ofString "key", .builtin "len")]) Q E s := by
  refine call_function_entry_kw kind_sorted plain_sorted entry_sorted (ksk_s1 _ _) ?_
  unfold Builtin.«sorted»
  refine wpAny_bind (m := checkCount "sorted" 1 1 _) (wpAny_pure ?_)
  refine wpAny_bind (collect_list hl ?_ zv)
  refine wpAny_bind (wpAny_newList ?_ zv)
  have zs : ((s.heap.push (seqObj "list" #[] 0)).update s.heap.objs.size (Obj.mapSeq (· ++ vs.toArray))).objs.size = s.heap.objs.size + 1 := by rw [Heap.size_update, size_push']
  have hL : (((s.heap.push (seqObj "list" #[] 0)).update s.heap.objs.size (Obj.mapSeq (· ++ vs.toArray))).push (seqObj "list" vs.toArray 0)).get? (s.heap.objs.size + 1) = some (seqObj "list" vs.toArray 0) := by
    rw [← zs]
    exact Heap.get?_push_size _ rfl
  have kp : ∀ b o, s.heap.get? b = some o → b ≠ s.heap.objs.size + 1 ∧ (((s.heap.push (seqObj "list" #[] 0)).update s.heap.objs.size (Obj.mapSeq (· ++ vs.toArray))).push (seqObj "list" vs.toArray 0)).get? b = some o := fun b o z => by
    have lb : b < s.heap.objs.size := Heap.lt_size z
    refine ⟨Nat.ne_of_lt (Nat.lt_succ_of_lt lb), Heap.get?_push_of_some _ ?_⟩
    rw [Heap.get?_update_ne _ _ _ _ (Nat.ne_of_lt lb)]
    exact Heap.get?_push_of_some _ z
  show wpAny _ _ _ _ _ { s with heap := ((s.heap.push (seqObj "list" #[] 0)).update s.heap.objs.size (Obj.mapSeq (· ++ vs.toArray))).push (seqObj "list" vs.toArray 0) }
  rw [zs]
  refine wpAny_bind (wpAny_holding (wpAny_call_entry_kw slot_list_sort ⟨_, hL, rfl⟩ entry_list_sort ?body (ksk_l1 _ _)))
  case body =>
    show wpAny (model prog w) A.in1.in1 (Builtin.«list.sort» ⟨[.ref (s.heap.objs.size + 1)], [(Str.ofString "key", .builtin "len")]⟩) _ _ _
    rw [ksk_t4]
    refine len_sort (s := { s with heap := ((s.heap.push (seqObj "list" #[] 0)).update s.heap.objs.size (Obj.mapSeq (· ++ vs.toArray))).push (seqObj "list" vs.toArray 0) }) hS hz hL zv fun h' tk out kp2 ho r1 r2 => ⟨_, rfl, ?_⟩
    exact wpAny_pure ⟨_, rfl, q h' tk out (fun b o z => kp2 b o (kp b o z).1 (kp b o z).2) ho r1 r2⟩
end
end Cw
set_option Elab.async false
set_option linter.all false
set_option maxRecDepth 100000
set_option maxHeartbeats 4000000
/-! the expression sorted(xs, key=len) -/
namespace Cw
open PySem PySem.Spec L2
def rSortedL (K : PySem.W.Frag) : List V → Hp → VK → Prop := fun vs H Q => ∃ (a : Addr) (ls : List (List Nat)), vs = [V.ref a] ∧ SqL K H a (ls.map fun l => V.str (tx l)) ∧ (∀ l ∈ ls, l.length ≤ 1000000) ∧
  ∀ (ls' : List (List Nat)) (p : Addr), ls'.Perm ls → ls'.Pairwise (fun a b => a.length ≤ b.length) → (∀ n, (ls'.filter fun l => decide (l.length = n)) = ls.filter fun l => decide (l.length = n)) → H p = none → Q (.ref p) (upd H p (.lst (ls'.map fun l => V.str (tx l))))
def tSortL (K : PySem.W.Frag) (t : TA) : TE := fun σ H Q => t σ H fun vs H1 => rSortedL K vs H1 Q
theorem e_sortL {K : PySem.W.Frag} {t : TA} {σ : St} {H : Hp} {Q : VK} (q : t σ H fun vs H1 => rSortedL K vs H1 Q) : tSortL K t σ H Q := q
theorem pe_sortL {X : Cx} {K : PySem.W.Frag} {p pos p2 kp : PySem.Pos} {e : Expr} {t : TA} (h : X.K = K) (hg : Gl X "sorted") (hm : X.mg "sorted" = none) (hgl : Gl X "len") (hml : X.mg "len" = none) (ha : PA X [e] t)
    (he : backTo pos (starEach [e] X.env) = (false, eval e X.env) :: backTo pos (starEach [] X.env) := by rfl) (hpl : (backTo pos (starEach [e] X.env)).any (·.1) = false := by rfl) :
    PE X (.Call (.Name "sorted" p) [e] [⟨some "key", .Name "len" p2, kp⟩] pos) (tSortL K t) := by
  subst h
  refine ⟨fun pins s σ H Q I hq => ?_⟩
  refine wpAny_Call_Name_kw (ld_blt I hg hm (u := .builtin "sorted") (by decide +kernel) ?_ (by decide) (by decide))
  refine PyProof.Rows.callWith_kw (thn (ha.run pos pins s σ H _ I hq) fun us s1 ⟨vs, H1, I1, r1, q1⟩ => ?_) he hpl rfl rfl
  show wpAny _ _ (evalAll ((do let v ← eval (.Name "len" p2) X.env; standAt pos; pure v) :: (backToKw pos (keywordEach [] X.env)).map (·.2))) _ _ s1
  refine PySem.wpAny_evalAll_cons (wpAny_bind (ld_blt I1 hgl hml (u := .builtin "len") (by decide +kernel) ?_ (by decide) (by decide)))
  refine wpAny_bind (wpAny_standAt (wpAny_pure ?_))
  refine PySem.wpAny_evalAll_nil ?_
  obtain ⟨a, ls, rfl, hs, lz, q⟩ := q1
  rw [map_tx] at hs
  obtain ⟨its, rv, hl, hz⟩ := I1.list hs
  obtain rfl := Vals.ref1 r1
  have hi := rv.strs
  have zi : its.length ≤ sizeLine := by
    rw [← rv.length]
    exact hz
  have svl : its.map sv = ls := sv_str hi
  show wpAny _ _ (call (.builtin "sorted") [.ref a] [(Str.ofString "key", .builtin "len")]) _ _ s1
  refine len_sorted hi (fun v hv => lz _ (by rw [← svl]; exact List.mem_map.mpr ⟨v, hv, rfl⟩)) hl.isList zi fun h' tk out kp ho r1 r2 => ?_
  have all := fun v hv => hi.all v (r2.perm.mem_iff.mp hv)
  have k1 : PyProof.Rows.StrsAre out ((out.map sv).map tx) := str_sv all
  have k2 : (out.map sv).Perm ls := by
    have := r2.perm.map sv
    rw [svl] at this
    exact this
  have k3 : (out.map sv).Pairwise (fun a b => a.length ≤ b.length) := List.pairwise_map.mpr (r1.imp fun {x y} h => by
    have := of_decide_eq_false (p := (sv y).length < (sv x).length) h
    omega)
  have k4 : ∀ n, ((out.map sv).filter fun l => decide (l.length = n)) = ls.filter fun l => decide (l.length = n) := by
    intro n
    have c := congrArg (List.map sv) (r2.cls (.str (tx (List.replicate n 0)) 0))
    have key : ∀ m : List Value, (m.filter (SrtO.eqv ltLen (.str (tx (List.replicate n 0)) 0))).map sv = (m.map sv).filter fun l => decide (l.length = n) := by
      intro m
      rw [List.filter_map]
      congr 1
      refine List.filter_congr fun v _ => ?_
      show SrtO.eqv ltLen _ v = decide ((sv v).length = n)
      unfold SrtO.eqv ltLen
      have e0 : (sv (.str (tx (List.replicate n 0)) 0)).length = n := by
        show (List.replicate n 0).length = n
        rw [List.length_replicate]
      rw [e0, Bool.eq_iff_iff]
      simp only [Bool.and_eq_true, Bool.not_eq_true', decide_eq_false_iff_not, decide_eq_true_eq]
      omega
    rw [key, key, svl] at c
    exact c
  obtain ⟨ep, he'⟩ := ho
  have hlen : (((out.map sv).map tx).map V.str).length ≤ sizeLine := by
    rw [List.length_map, List.length_map, k2.length_eq, ← svl, List.length_map]
    exact zi
  have q := q _ (s1.heap.objs.size + 1) k2 k3 k4 (I1.hok.fresh (Nat.le_succ _))
  rw [map_tx] at q
  exact ⟨.ref _, upd H1 (s1.heap.objs.size + 1) (.lst (((out.map sv).map tx).map V.str)), I1.laid (t' := tk) kp (Nat.le_succ _) ⟨hlen, out, ep, vals_of_strs k1, he'⟩, rfl, q⟩
def rStrS : List V → Hp → VK → Prop := fun xs H Q => ∃ a, xs = [.str a] ∧ Q (.str a) H
theorem c_strS {X : Cx} : CallR X (.type "str") rStrS := SkE.call_str_str
theorem v_strS {H : Hp} {Q : VK} {a : Str} (q : Q (.str a) H) : rStrS [.str a] H Q := ⟨a, rfl, q⟩
theorem cr_sortedTK {X : Cx} {K : PySem.W.Frag} (h : X.K = K) : CallR X (.builtin "sorted") (rSortedS K) := h ▸ cr_sortedT
/-- texts by length, then by the alphabet -/
def shortLe (a b : List Nat) : Prop := a.length < b.length ∨ (a.length = b.length ∧ ¬ b < a)
theorem sorted_twice {l m n : List (List Nat)} (h1 : m.Perm l) (h2 : m.Pairwise fun a b => ¬ b < a) (h3 : n.Perm m) (h4 : n.Pairwise fun a b => a.length ≤ b.length) (h5 : ∀ k, (n.filter fun l => decide (l.length = k)) = m.filter fun l => decide (l.length = k)) : n.Perm l ∧ n.Pairwise shortLe := by
  refine ⟨h3.trans h1, ?_⟩
  rw [List.pairwise_iff_getElem] at h4 ⊢
  intro i j hi hj hij
  have hl := h4 i j hi hj hij
  by_cases c : n[i].length = n[j].length
  · right
    refine ⟨c, ?_⟩
    have hp : (n.filter fun l => decide (l.length = n[j].length)).Pairwise fun a b => ¬ b < a := by
      rw [h5]
      exact h2.filter _
    have e : n = n.take i ++ (n[i] :: (n.drop (i + 1)).take (j - i - 1) ++ n[j] :: n.drop (j + 1)) := by
      have e1 : n.drop (i + 1) = (n.drop (i + 1)).take (j - i - 1) ++ n[j] :: n.drop (j + 1) := by
        have := List.take_append_drop (j - i - 1) (n.drop (i + 1))
        rw [List.drop_drop, show i + 1 + (j - i - 1) = j by omega] at this
        rw [← List.drop_eq_getElem_cons hj]
        exact this.symm
      rw [List.cons_append, ← e1, ← List.drop_eq_getElem_cons hi, List.take_append_drop]
    generalize hx : n[i] = x at *
    generalize hy : n[j] = y at *
    rw [e, List.filter_append, List.filter_append] at hp
    have hp := (List.pairwise_append.mp hp).2.1
    have px : decide (x.length = y.length) = true := decide_eq_true c
    have py : decide (y.length = y.length) = true := decide_eq_true rfl
    rw [List.filter_cons_of_pos (by simpa using c), List.filter_cons_of_pos (by simp)] at hp
    exact (List.pairwise_append.mp hp).2.2 x (List.mem_cons_self ..) y (List.mem_cons_self ..)
  · left
    omega
end Cw
set_option Elab.async false
set_option linter.all false
set_option maxRecDepth 100000
set_option maxHeartbeats 4000000
/-! the first two walls that do not cross -/
namespace Cw
open PySem PySem.Spec L2
section
variable {P : List Nat → List Nat → Prop} [∀ a b, Decidable (P a b)] {l1 l2 : List (List Nat)}
end
/-- two walls, told by room and kind, do not cross -/
def apartK (f : Nat → List Nat) (ls : List Nat) (a b : List Nat) : Prop := prodV f ls (markK f a) (markK f b) ≠ 0
instance (f : Nat → List Nat) (ls : List Nat) (a b : List Nat) : Decidable (apartK f ls a b) := inferInstanceAs (Decidable (_ ≠ _))
section
variable {f : Nat → List Nat} {ls : List Nat}
theorem KeyOk.w2 (hn : ls.Nodup) (ok : CrOk f) {m n : List Nat} {k j : Nat} (h1 : KeyOk f ls m k) (h2 : KeyOk f ls n j) : W2 f ls m k n j := ⟨hn, ok, h1.hk, h2.hk, h1.nf, h2.nf, h1.mem, h2.mem, ⟨h1.nf.red, h1.td, h1.fr⟩, ⟨h2.nf.red, h2.td, h2.fr⟩⟩
theorem apart_iff (hn : ls.Nodup) (ok : CrOk f) {m n : List Nat} {k j : Nat} (h1 : KeyOk f ls m k) (h2 : KeyOk f ls n j) : apartK f ls (m ++ [k]) (n ++ [j]) ↔ ¬ crossP f m k n j := by
  have w := h1.w2 hn ok h2
  unfold apartK crossP
  rw [markK_app, markK_app, w.prod]
  exact not_congr w.crosses
theorem prodV_smul (e e' : Int) (a b : Nat → Int) : prodV f ls (fun x => e * a x) (fun x => e' * b x) = e * (e' * prodV f ls a b) := by
  have sm : ∀ (c : Int) (g : Nat → Int) (l : List Nat), sumL l (fun x => c * g x) = c * sumL l g := fun c g l => by
    have := sumL_comb c 0 g g l
    rw [show (fun x => c * g x + 0 * g x) = fun x => c * g x from by funext x; omega] at this
    rw [this]
    omega
  unfold prodV
  rw [← sm, ← sm]
  refine congrArg (sumL ls) (funext fun x => ?_)
  rw [show (fun y => e' * b y * bt f y x) = fun y => e' * (b y * bt f y x) from by funext y; rw [Int.mul_assoc], sm]
  rw [Int.mul_assoc, ← Int.mul_assoc (a x), Int.mul_comm (a x) e', Int.mul_assoc e']
/-- the walls of two ways from one room all cross just if the letters do -/
theorem keys_cross (hn : ls.Nodup) (ok : CrOk f) {M u v : List Nat} (mM : ∀ y ∈ M, y ∈ ls) (mu : ∀ y ∈ u, y ∈ ls) (mv : ∀ y ∈ v, y ∈ ls) : (∀ a ∈ keyI f M u u.length, ∀ b ∈ keyI f M v v.length, ¬ apartK f ls a b) ↔ ∀ a ∈ u, ∀ b ∈ v, a ∈ f b := by
  rw [← all_cross hn ok mM mu mv]
  have key : ∀ i j, apartK f ls (startC f (nameOf f (M ++ u.take i)) (u.getD i 0) ++ [u.getD i 0]) (startC f (nameOf f (M ++ v.take j)) (v.getD j 0) ++ [v.getD j 0]) ↔ prodV f ls (mark f (M ++ u.take i).reverse (u.getD i 0)) (mark f (M ++ v.take j).reverse (v.getD j 0)) ≠ 0 := fun i j => by
    unfold apartK
    rw [markK_app, markK_app]
    obtain ⟨e, he, h1⟩ := start_sgn ok (M ++ u.take i) (u.getD i 0)
    obtain ⟨e', he', h2⟩ := start_sgn ok (M ++ v.take j) (v.getD j 0)
    have a1 : mark f (startC f (nameOf f (M ++ u.take i)) (u.getD i 0)).reverse (u.getD i 0) = fun x => e * mark f (M ++ u.take i).reverse (u.getD i 0) x := funext fun x => h1 (unit x)
    have a2 : mark f (startC f (nameOf f (M ++ v.take j)) (v.getD j 0)).reverse (v.getD j 0) = fun x => e' * mark f (M ++ v.take j).reverse (v.getD j 0) x := funext fun x => h2 (unit x)
    rw [a1, a2, prodV_smul]
    generalize prodV f ls (mark f (M ++ u.take i).reverse (u.getD i 0)) (mark f (M ++ v.take j).reverse (v.getD j 0)) = p
    rcases he with rfl | rfl <;> rcases he' with rfl | rfl <;> omega
  unfold keyI
  constructor
  · intro h i hi j hj
    have := h _ (List.mem_map.mpr ⟨i, List.mem_range.mpr hi, rfl⟩) _ (List.mem_map.mpr ⟨j, List.mem_range.mpr hj, rfl⟩)
    rw [key i j] at this
    exact Decidable.not_not.mp this
  · intro h a ha b hb
    obtain ⟨i, hi, rfl⟩ := List.mem_map.mp ha
    obtain ⟨j, hj, rfl⟩ := List.mem_map.mp hb
    rw [key i j]
    exact fun z => z (h i (List.mem_range.mp hi) j (List.mem_range.mp hj))
/-- sorted keys are one list -/
theorem short_uniq {a b : List (List Nat)} (p : a.Perm b) (h1 : a.Pairwise shortLe) (h2 : b.Pairwise shortLe) : a = b := by
  refine p.eq_of_pairwise (le := shortLe) (fun x y _ _ h1 h2 => ?_) h1 h2
  unfold shortLe at h1 h2
  rcases h1 with h1 | ⟨e, h1⟩
  · rcases h2 with h2 | ⟨e, _⟩ <;> omega
  · rcases h2 with h2 | ⟨_, h2⟩
    · omega
    · exact List.le_antisymm (show x ≤ y from h1) (show y ≤ x from h2)
end
end Cw
set_option Elab.async false
set_option linter.all false
set_option maxRecDepth 100000
set_option maxHeartbeats 4000000
/-! xs != ys of lists: their lengths differ, or they hold the same objects -/
namespace Cw
open PySem PySem.Spec L2
end Cw
set_option Elab.async false
set_option linter.all false
set_option maxRecDepth 100000
set_option maxHeartbeats 4000000
/-! [e for i, x in enumerate(list)] -/
namespace Cw
open PySem PySem.Spec L2
section
variable {K : PySem.W.Frag} {σ : L2.St} {H : Hp} {i j : Nat} {tt : TT} {te : TE} {P : Addr → Hp → Prop} {a : Addr}
end
end Cw
set_option Elab.async false
set_option linter.all false
set_option maxRecDepth 100000
set_option maxHeartbeats 4000000
/-! enumerate(tuple) -/
namespace PySem
open Sem (wp)
open AutoSeq1 (wpAny_loadPart')
section
variable {prog : Program} {w : World} {A : Around} {E : Value → Shared → Prop} {s : Shared}
end
end PySem
namespace Cw
open PySem PySem.Spec L2
end Cw
set_option Elab.async false
set_option linter.all false
set_option maxRecDepth 100000
set_option maxHeartbeats 4000000
/-! an own exception over ValueError whose __init__ calls super().__init__(..) -/
namespace Cw
open PySem PySem.Spec L2
section
variable {X : Cx} {pins : List (Addr × Obj)} {σ : L2.St} {H : Hp} {s : Shared} {C a f cda cc : Addr}
/-- a parameter is read -/
theorem ld_par {E : Value → Shared → Prop} {i : Nat} {x : Str} {v : V} {Q : Value → Shared → Prop} (I : Inv X pins σ H s) (hN : X.N[i]? = some x) (hk : X.env.scope.names.lookup x = some .local) (e : σ[i]? = some (some v)) (h : ∀ u, RelV v u → Q u s) : wpAny (model X.prog X.w) X.A (loadName X.env x) Q E s := by
  obtain ⟨m, hn, hl⟩ := I.loc
  obtain ⟨u, r, l⟩ := hl i x v hN e (Or.inl hk)
  rcases l with ⟨_, hm⟩ | ⟨hk2, c, hc, hcell⟩
  · exact wpAny_loadName_local I.ok.kind hk hn hm (h u r)
  · have hk : X.env.kindOf x = some .local := hk
    rcases hk2 with hk2 | hk2
    · rw [hk] at hk2
      cases hk2
    · rw [hk] at hk2
      cases hk2
/-- what the written part says of the def -/
structure SupC (P : Program) (K : PySem.W.Frag) (C f cda cc : Addr) (fd : FuncData) (sf : Str) : Prop where
  fn : ∃ oc od osl, K.lookup f = some ⟨oc, od, .func fd, osl⟩
  par : ∃ ar, (fd.params.posonlyargs ++ fd.params.args).head? = some ar ∧ ar.arg = sf
  code : ∃ ccl cdd vs ccs file tf, K.lookup cda = some ⟨ccl, cdd, .fields vs, ccs⟩ ∧ vs[2]? = some (.str file tf) ∧ ((P.main.file : Str) == file) = true
  top : (P.main.scope.names.lookup ("super" : Str)).isSome = false
  cell : ∃ cl cld csl, K.lookup cc = some ⟨cl, cld, .cell (some (.ref C)), csl⟩
  op : PySem.W.nsIn K PySem.cStatics "thirdparty.any" = some none
  up : PySem.W.ks_superIn K C C "__init__" = some (some (.builtin "ValueError.__init__"))
/-- super().__init__(v, ..) -/
theorem ws_super {body : List Stmt} {fd : FuncData} {self : Str} {es : List Expr} {p0 p1 p2 p3 p4 : PySem.Pos} {Q : Flow → Shared → Prop} {pl : Sem Bool} (S : SupC X.prog X.K C f cda cc fd self) (I : Inv X pins σ H s) (T : OexC X.K C) (ea : H a = some (exo a C none))
    (hks : X.env.kindOf "super" = some .globalImplicit) (hkc : X.env.kindOf "__class__" = some .free) (hfu : X.env.func = some f) (hco : X.env.code = .ref cda) (hcl : X.env.cells.lookup ("__class__" : Str) = some cc) (hm : X.mg "super" = none) (hN : X.N[0]? = some self) (hself : X.env.scope.names.lookup self = some .local)
    (e0 : σ[0]? = some (some (.ref a))) (hargs : ∀ s', Inv X pins σ H s' → ∀ (Q : List Value → Shared → Prop), (∀ us, us.length ≤ sizeLine → Q us s') → wpAny (model X.prog X.w) X.A (spliced (backTo p3 (starEach es X.env))) Q X.xe s')
    (hpl : (backTo p3 (starEach es X.env)).any (·.1) = false) (hi : interactive X.env = false) (hcons : ∃ m r, backTo p3 (starEach es X.env) = (false, m) :: r)
    (he : eval (.Call (.Attribute (.Call (.Name "super" p0) [] [] p1) "__init__" p2) es [] p3) X.env = (do
      let ov ← attributeBase (.Call (.Name "super" p0) [] [] p1) "__init__" X.env (eval (.Call (.Name "super" p0) [] [] p1) X.env)
      standAt p2.atName
      let (f, first) ← holding [ov] (getMethod ov "__init__" pl)
      callWith p3 f first (backTo p3 (starEach es X.env)) []))
    (q : ∀ s', Inv X pins σ H s' → Q .next s') :
    PySem.wpAt (model X.prog X.w) X.A (.func body X.env) (exec (.Expr (.Call (.Attribute (.Call (.Name "super" p0) [] [] p1) "__init__" p2) es [] p3) p4) X.env) Q X.xe s := by
  obtain ⟨nm, qn, N, bs, bm, sn, sub, ab, col, dd, k0, k1, k2, k3, k5, hC, hbm⟩ := T.cls
  have hcl' : PySem.W.clsIn X.K C = some { name := nm, bases := bs, mro := .ref C :: bm, ns := N, qualname := qn, hasDict := true, slotNames := sn, subclasses := sub, abstract := ab, collection := col, hasDel := false } := by unfold PySem.W.clsIn; rw [hC] <;> rfl
  obtain ⟨oc, od, osl, hf⟩ := S.fn
  obtain ⟨ar, hp, har⟩ := S.par
  obtain ⟨ccl, cdd, vs, ccs, file, tf, hcode, hvs, hfile⟩ := S.code
  obtain ⟨cl, cld, csl, hcell⟩ := S.cell
  have hup : PySem.W.alongIn X.K "__init__" bm = some (some (.builtin "ValueError.__init__")) := by
    have h := S.up
    unfold PySem.W.ks_superIn at h
    rw [hcl'] at h
    have e : ((Value.ref C :: bm).dropWhile (· != .ref C)).drop 1 = bm := by simp [List.dropWhile]
    exact e ▸ h
  refine PySem.ks_wpAt_Expr_any (hi := hi) (PySem.ks_wpAt_MethodCall (pl := pl) ?_ he)
  refine PySem.ks_wpAt_super_base hks hkc (by decide +kernel) hfu (I.kIn _ _ hf) rfl hp hco (I.kIn _ _ hcode) rfl hvs hfile S.top ?_
  obtain ⟨mb, g1, g2⟩ := I.mod.blt
  refine PySem.W.ks_loadName_global I.ok.kind hks (Calls.loadGlobal_builtin (by rw [I.ok.glob]; exact I.mod.glob.keeps I.bk) hm (by rw [I.ok.blt]; exact g1.keeps I.bk) ((g2 "super" (by decide)).trans (show bootBuiltins "super" = some (.type "super") by decide +kernel)) ⟨rfl, ?_⟩)
  refine wpAny_loadName_free I.ok.kind hkc hcl ⟨_, I.kIn _ _ hcell, rfl⟩ ?_
  rw [har]
  refine ld_par I hN hself e0 fun u ru => ?_
  obtain rfl : u = Value.ref a := ru
  obtain ⟨t1, ho⟩ := exo_at I.hok ea
  have hCh := I.kIn _ _ hC
  refine PySem.ks_wpAny_isType_cls hCh rfl ⟨rfl, ?_⟩
  have naC : a ≠ C := by
    rintro rfl
    rw [hCh] at ho
    injection ho with ho
    injection ho with _ _ z
    cases z
  have hne : (Value.ref C :: bm).isEmpty = false := rfl
  have hmro : ∀ v : Value, (Value.ref C :: bm).contains v = true → PySem.W.mroIn X.K C v = some true := fun v hv => by
    unfold PySem.W.mroIn
    rw [hcl', Option.bind_some, if_neg (by rw [hne]; decide), hv]
  have hsub : PySem.W.Looks (model X.prog X.w) s.heap (isSubtype (.ref C) (.ref C)) true := PySem.W.looks_mroIn I.kIn (hmro _ (by simp))
  obtain ⟨hp0, g, d, t, os⟩ := s
  refine PySem.ks_wpAny_call_super hCh rfl ho rfl (fun c z => nomatch z) hsub fun h1 hso k1 => ?_
  have I1 := I.kept (t' := t) k1
  have J1 : PySem.W.InstAt h1 a ({ cls := .ref C, dict := none, data := .fields #[.ref t1, .none, .none, .none, .bool false, .none] } : Obj) C none := ⟨k1 _ _ ho, rfl, rfl, trivial⟩
  have hVE : (Value.ref C :: bm).contains (.type "ValueError") = true := by
    rw [List.contains_cons, PySem.HandSPX.refsVE_contains "ValueError" bm hbm]
    simp
  refine PySem.W.kxs_getMethod PySem.W.kxs_ValueError hso (PySem.W.looks_opaque I1.kIn S.op) (l₀ := .ref C :: bm) ((PySem.W.looks_clsIn I1.kIn hcl').andThen .now) (by simp [List.dropWhile]) I1.kIn hup (J1.type.andThen (PySem.W.looks_mroIn I1.kIn (hmro _ hVE))) naC (by decide +kernel) ?_
  have k2 : ∀ b o, h1.get? b = some o → (h1.push (PySem.W.kxs_mw "ValueError.__init__" a)).get? b = some o := fun b o e => Heap.get?_push_of_some _ e
  have I2 := I1.kept (t' := t + 1) k2
  have hu : (h1.push (PySem.W.kxs_mw "ValueError.__init__" a)).get? h1.objs.size = some (PySem.W.kxs_mw "ValueError.__init__" a) := Heap.get?_push_at rfl rfl
  have ho2 := k2 _ _ (k1 _ _ ho)
  obtain ⟨m0, r0, hc0⟩ := hcons
  have ha := hargs _ I2 (fun vs s₁ => PySem.W.KxsAt "ValueError.__init__" h1.objs.size a s₁.heap ∧ wpAny (model X.prog X.w) X.A (call (.ref h1.objs.size) vs) (fun _ => Q .next) X.xe s₁)
  rw [hc0] at hpl ha ⊢
  refine PySem.W.kxs_callWith (i := "ValueError.__init__") (x := a) hpl (PySem.Calls.evalArgs_plain (ha fun us hus => ⟨hu, ?_⟩))
  refine wpAny_call (codeAny_of_tree ?_)
  show wpAny _ X.A.in1 (callAny (.ref h1.objs.size) ⟨us, []⟩) _ _ _
  simp only [callAny]
  refine wpAny_bind (wpAny_load hu ?_)
  simp only [PySem.W.kxs_mw, show (Value.type "method-wrapper" == Value.type "method" || Value.type "method-wrapper" == Value.type "builtin_function_or_method" || Value.type "method-wrapper" == Value.type "method-wrapper") = true by decide, if_true]
  refine PySem.W.KFB.if_so (by decide) ?_
  refine wpAny_bind (PySem.W.check_bound_init PySem.F.excBase_ValueError.toExcCallFacts (I2.kIn _ _ hC) ho2 rfl ?_)
  refine wpAny_bind (wpAny_pure (wpAny_pure ?_))
  refine ⟨plainId_quiet PySem.F.excBase_ValueError.init.plain _, codeAny_builtin PySem.F.excBase_ValueError.initEntry ?_⟩
  refine PySem.W.exc_init_tree (cls := .ref C) (t0 := t1) (dv := none) (c2 := .none) (c3 := .none) (b4 := .bool false) ho2 hus fun h3 k3 e3 _ => ?_
  have J := I2.write (t' := t + 1) (x := a) (e := a) (o := exo a C none) (by rw [ea]; exact True.intro) (.inl rfl) k3 ⟨_, e3⟩ (exo_ok e3)
  have eu : upd H a (exo a C none) = H := by
    funext b
    by_cases hb : b = a
    · rw [hb, upd_same, ea]
    · rw [upd_ne hb]
  rw [eu] at J
  exact q _ J
theorem sp_name1 {y : Str} {i : Nat} {v : V} {q p3 : PySem.Pos} (I : Inv X pins σ H s) (hN : X.N[i]? = some y) (hk : X.env.scope.names.lookup y = some .local) (e : σ[i]? = some (some v)) (hd : (y == ("__debug__" : Str)) = false) {Q : List Value → Shared → Prop} (h : ∀ us, us.length ≤ sizeLine → Q us s) :
    wpAny (model X.prog X.w) X.A (spliced (backTo p3 (starEach [.Name y q] X.env))) Q X.xe s := by
  show wpAny _ _ (spliced ((false, eval (.Name y q) X.env) :: backTo p3 (starEach [] X.env))) _ _ s
  exact Calls.spliced_cons (wpAny_Name (ld_par I hN hk e fun u _ => Calls.spliced_nil (h [u] (by show 1 ≤ sizeLine; decide))) hd)
end
section
variable {CX : CXT} {P : Program} {w : World} {K : PySem.W.Frag} {mg : Str → Option Value} {base : Heap} {k : Nat} {C f cc : Addr} {N ps : List Str} {sp : Sp}
/-- such a def by its body -/
theorem exc_init {fd : FuncData} {F : NdefX.NF} {sf : Str} {es : List Expr} {rest : List Stmt} {p0 p1 p2 p3 p4 : PySem.Pos} {pl : Env → Sem Bool} (S : SupC P K C f F.c cc fd sf)
    (hfd : ∃ kV doc pm an ct, fd = PySem.W.fnX F.name F.qual F.params F.body F.scope F.cl .none kV doc pm an (.ref F.c) ct) (hcl : F.cl = [(("__class__" : Str), cc)]) (hcd : PySem.W.codeIn K (.ref F.c) F.qual = true) (NS : NdefX.NScope N ps ["__class__"] F.scope)
    (hb : F.body = .Expr (.Call (.Attribute (.Call (.Name "super" p0) [] [] p1) "__init__" p2) es [] p3) p4 :: rest) (hm : mg "super" = none) (h0 : N[0]? = some sf) (hsf : F.scope.names.lookup sf = some .local) (hks : F.scope.names.lookup ("super" : Str) = some .globalImplicit)
    (len : ∀ vs H Q E, sp vs H Q E → vs.length = ps.length)
    (hcons : ∀ env : Env, ∃ m r, backTo p3 (starEach es env) = (false, m) :: r) (hpl : ∀ env : Env, (backTo p3 (starEach es env)).any (·.1) = false)
    (he : ∀ env : Env, eval (.Call (.Attribute (.Call (.Name "super" p0) [] [] p1) "__init__" p2) es [] p3) env = (do
      let ov ← attributeBase (.Call (.Name "super" p0) [] [] p1) "__init__" env (eval (.Call (.Name "super" p0) [] [] p1) env)
      standAt p2.atName
      let (f, first) ← holding [ov] (getMethod ov "__init__" (pl env))
      callWith p3 f first (backTo p3 (starEach es env)) []))
    (hgo : ∀ (A : Around) (outer : List Env) (s : Shared) (H : Hp) (vs : List V) (Q : VK) (E : XK), Room k (A.deeper (NdefX.envF F f s.heap.objs.size)) → sp vs H Q E → ∃ a vs', vs = .ref a :: vs' ∧ OexC K C ∧ H a = some (exo a C none) ∧
      (∀ s', Inv (NdefX.ncx CX P w K mg base N F f A outer s H E) [] (NdefX.startF N vs [some (.ref C)]) H s' → ∀ (Q : List Value → Shared → Prop), (∀ us, us.length ≤ sizeLine → Q us s') → wpAny (model P w) (A.deeper (NdefX.envF F f s.heap.objs.size)) (spliced (backTo p3 (starEach es (NdefX.envF F f s.heap.objs.size)))) Q (NdefX.ncx CX P w K mg base N F f A outer s H E).xe s') ∧
      ∃ t, PSs (NdefX.ncx CX P w K mg base N F f A outer s H E) rest t ∧ t { nx := fun _ H' => Q .non H', rt := Q } (NdefX.startF N vs [some (.ref C)]) H) : FnOk P w K mg base CX (k + 1) f fd ps sp := by
  refine ⟨len, fun A outer s H args us vs Q E hr e0 hbd r hsp => ?_⟩
  have hl := len _ _ _ _ hsp
  obtain ⟨kV, doc, pm, an, ct, rfl⟩ := hfd
  obtain ⟨oc, od, osl, lk⟩ := S.fn
  obtain ⟨cl, cld, csl, hcell⟩ := S.cell
  have KX : K.In s.heap := e0.mod.kin.keeps fun b o e => (e0.bs b o e).1
  have lim : s.heap.NoLimit := e0.mod.nolimit.keeps fun b o e => (e0.bs b o e).1
  refine PySem.ks_codeAny_call_defAt (body := F.body) hr.depth (KX _ _ lk) rfl lim (PySem.W.codeRec_of KX hcd) rfl hbd NS.nocell (fun ⟨n, v⟩ hy => NS.par n (List.of_mem_zip hy).1) (fun h₁ hns kp => ?_) NS.co NS.gen NS.kind
  obtain ⟨a, vs', rfl, T, ea, hargs, t, ht, hq⟩ := hgo A outer s H vs Q E (hr.deeper _) hsp
  have hccH : H cc = none := (e0.bs cc _ (e0.mod.kin _ _ hcell)).2
  have hccI : s.heap.IsCell cc (some (.ref C)) := ⟨_, KX _ _ hcell, rfl⟩
  have lk1 : ∀ y c, F.cl.lookup y = some c → y = "__class__" ∧ c = cc := fun y c h => by
    rw [hcl] at h
    by_cases e : y = ("__class__" : Str)
    · subst e
      simp [List.lookup] at h
      exact ⟨rfl, h.symm⟩
    · have e' : (y == ("__class__" : Str)) = false := by simpa using e
      simp [List.lookup, e'] at h
  have hcc : F.cl.lookup ("__class__" : Str) = some cc := by rw [hcl]; simp [List.lookup]
  have C1 : NdefX.CellsAt F.cl ["__class__"] [some (.ref C)] s.heap H := {
    len := rfl
    all := fun y c h => by
      obtain ⟨_, rfl⟩ := lk1 y c h
      exact ⟨hccH, _, hccI⟩
    inj := fun x y c h1 h2 => (lk1 x c h1).1.trans (lk1 y c h2).1.symm
    has := fun i y h => by
      cases i with
      | succ i => simp at h
      | zero =>
        simp at h
        subst h
        refine ⟨cc, hcc, fun v hv => ?_⟩
        simp at hv
        subst hv
        exact ⟨_, rfl, hccI⟩ }
  have I : Inv (NdefX.ncx CX P w K mg base N F f A outer s H E) [] (NdefX.startF N (.ref a :: vs') [some (.ref C)]) H { s with heap := h₁, toks := s.toks + (ps.zip us).length } := NdefX.inv_startN NS hr.hd e0 hl r C1 hns kp
  show PySem.wpAt (model P w) (A.deeper (NdefX.envF F f s.heap.objs.size)) (.func F.body (NdefX.envF F f s.heap.objs.size)) (execs F.body (NdefX.envF F f s.heap.objs.size)) _ _ _
  rw [hb]
  refine PySem.ks_wpAt_execs_cons ?_
  refine ws_super (X := NdefX.ncx CX P w K mg base N F f A outer s H E) (a := a) (cc := cc) S I T ea hks (NS.frk _ (List.mem_singleton_self _)) rfl rfl hcc hm h0 hsf rfl hargs (hpl _) (by unfold interactive; simp [show (NdefX.ncx CX P w K mg base N F f A outer s H E).env.scope.kind = .function from NS.kind]) (hcons _) (he _) fun s' J => ?_
  show PySem.wpAt _ _ _ (execs rest _) _ _ _
  refine PySem.wpAt_of_wpAny (wpAny_mono (ht.run [] s' _ H _ J hq) (fun fl s2 hs => ?_) fun e s2 hs => hs)
  have fin : ∀ {σ' : L2.St} {H' : Hp} {v : V} {u : Value}, Inv (NdefX.ncx CX P w K mg base N F f A outer s H E) [] σ' H' s2 → L2.RelV v u → Q v H' → CE outer P w H s Q u s2 :=
    fun {σ' H' v u} J rv q => ⟨v, H', J.os, J.bare, J.base, J.hok, rv, q⟩
  cases fl with
  | ret u =>
    obtain ⟨v, σ', H', J, rv, q⟩ := hs
    exact fin J rv q
  | next =>
    obtain ⟨σ', H', J, q⟩ := hs
    exact fin (v := V.non) (u := Value.none) J rfl q
  | brk =>
    obtain ⟨_, _, _, q⟩ := hs
    exact False.elim q
  | cont =>
    obtain ⟨_, _, _, q⟩ := hs
    exact False.elim q
end
end Cw
set_option Elab.async false
set_option linter.all false
set_option maxRecDepth 100000
set_option maxHeartbeats 4000000
/-! own exceptions with fields: made, raised -/
namespace Cw
open PySem PySem.Spec L2
/-- what the top has left of such a class; st: its __init__ -/
structure ExcE (P : Program) (K : PySem.W.Frag) (mg : Str → Option Value) (x : Str) (B : Addr) (qual : Str) (st : Stmt) : Prop where
  «at» : mg x = some (.ref B)
  oex : OexC K B
  xf : XfC K B
  ec : ExcC K B
  init : ∃ (f cda cc : Addr) (fd : FuncData) (kV doc pm : Value) (an : Option Addr) (ct : Value), PySem.W.findIn K (.ref B) "__init__" = some (some (.ref f)) ∧ PySem.W.typeIn K (.ref f) = some (.type "function") ∧
    fd = PySem.W.fnX "__init__" qual (defArgs st) (defBody st) (defScope st) [(("__class__" : Str), cc)] .none kV doc pm an (.ref cda) ct ∧ PySem.W.codeIn K (.ref cda) qual = true ∧ SupC P K B f cda cc fd "self"
/-- its __init__: g tells the fields of the arguments -/
def spE (B : Addr) (n : Nat) (g : List V → List (Str × V)) : Sp := fun vs H Q _ => ∃ (a : Addr) (ws : List V), vs = .ref a :: ws ∧ ws.length = n ∧ H a = some (exo a B none) ∧
  ∀ d H', H d = none → d ≠ a → H' a = some (exo a B (some d)) → H' d = some (exd d (g ws)) → (∀ b, b ≠ a → b ≠ d → H' b = H b) → Q .non H'
structure XDef (P : Program) (w : World) (K : PySem.W.Frag) (mg : Str → Option Value) (base : Heap) (k : Nat) (x : Str) (B : Addr) (n : Nat) (g : List V → List (Str × V)) : Prop where
  «at» : mg x = some (.ref B)
  oex : OexC K B
  ex : ∃ (f : Addr) (fd : FuncData) (ps : List Str), PySem.W.findIn K (.ref B) "__init__" = some (some (.ref f)) ∧ PySem.W.typeIn K (.ref f) = some (.type "function") ∧ Binds K fd ps [] ∧ FnOk P w K mg base CX0 k f fd ps (spE B n g)
theorem XDef.mono {P : Program} {w : World} {K : PySem.W.Frag} {mg : Str → Option Value} {base : Heap} {j k : Nat} {x : Str} {B : Addr} {n : Nat} {g : List V → List (Str × V)} (D : XDef P w K mg base j x B n g) (h : j ≤ k) : XDef P w K mg base k x B n g := by
  obtain ⟨f, fd, ps, a, b, c, d⟩ := D.ex
  exact ⟨D.at, D.oex, f, fd, ps, a, b, c, d.mono h⟩
section
variable {X : Cx} {k n : Nat} {x : Str} {B : Addr} {g : List V → List (Str × V)} {e : Expr} {es : List Expr} {ta : TA} {p pos : PySem.Pos}
theorem pmk_E (D : XDef X.prog X.w X.K X.mg X.base k x B n g) (hr : Room (k + 1) X.A) (ha : PA X (e :: es) ta) (hg : Gl X x := by rfl) (hdb : (x == ("__debug__" : Str)) = false := by decide)
    (he : starEach (e :: es) X.env = (false, eval e X.env) :: starEach es X.env := by rfl) (hpl : (backTo pos (starEach es X.env)).any (·.1) = false := by rfl) : PMk X (.Call (.Name x p) (e :: es) [] pos) (tMkO B (spE B n g) [] ta) := by
  obtain ⟨f, fd, ps, a, b, c, d⟩ := D.ex
  exact pmk_oex D.oex a b d hr c .nil pass0 hg D.at ha hdb he hpl
end
/-- it is made -/
theorem v_mkE {B : Addr} {n : Nat} {g : List V → List (Str × V)} {H1 : Hp} {Q : XK} {ws : List V} (hl : ws.length = n) (hn : n ≤ 1000) (q : ∀ d, H1 d = none → Q (.ref B) (some d) (upd H1 d (.xd (g ws)))) :
    ws.length ≤ 1000 ∧ ∀ a, H1 a = none → spE B n g (.ref a :: (ws ++ [])) (upd H1 a (exo a B none)) (fun v H2 => v = .non ∧ ∃ (d : Addr) (fs : List (Str × V)), H2 a = some (exo a B (some d)) ∧ H2 d = some (exd d fs) ∧ H1 d = none ∧ Q (.ref B) (some d) (upd (del H2 a) d (.xd fs))) (fun _ _ _ => False) := by
  refine ⟨by omega, fun a ha => ⟨a, ws ++ [], rfl, by rw [List.append_nil]; exact hl, upd_same, fun d H' hd nd ea ed kp => ?_⟩⟩
  rw [List.append_nil] at ed
  rw [upd_ne nd] at hd
  refine ⟨rfl, d, _, ea, ed, hd, ?_⟩
  have e : upd (del H' a) d (.xd (g ws)) = upd H1 d (.xd (g ws)) := by
    funext b
    by_cases h1 : b = d
    · rw [h1, upd_same, upd_same]
    · rw [upd_ne h1, upd_ne h1]
      by_cases h2 : b = a
      · rw [h2, del_same, ha]
      · rw [del_ne h2, kp b h2 h1, upd_ne h2]
  rw [e]
  exact q d hd
section
variable {P : Program} {w : World} {K : PySem.W.Frag} {mg : Str → Option Value} {base : Heap} {k : Nat} {x qual : Str} {B : Addr} {st : Stmt}
/-- one field -/
theorem ok_E1 {fld y : Str} {p0 p1 p2 p3 p4 q0 q1 q2 q3 q4 : PySem.Pos} {pl : Env → Sem Bool} (E : ExcE P K mg x B qual st) (hs : mg "super" = none) (hno : PySem.W.findIn K (.ref B) fld = some none)
    (hb : defBody st = [.Expr (.Call (.Attribute (.Call (.Name "super" p0) [] [] p1) "__init__" p2) [.Name y q4] [] p3) p4, .Assign [.Attribute (.Name "self" q0) fld q1] (.Name y q2) q3])
    (NS : NdefX.NScope ["self", y, "__class__"] ["self", y] ["__class__"] (defScope st)) (hks : (defScope st).names.lookup ("super" : Str) = some .globalImplicit) (hd : (y == ("__debug__" : Str)) = false) (hd2 : (y == ("__classdict__" : Str)) = false)
    (hbd : ∀ (kV doc pm : Value) (an : Option Addr) (cda cc : Addr) (ct : Value) (us : List Value), us.length = 2 → bindArgs (PySem.W.fnX "__init__" qual (defArgs st) (defBody st) (defScope st) [(("__class__" : Str), cc)] .none kV doc pm an (.ref cda) ct) ⟨us, []⟩ = pure ((["self", y] : List Str).zip us))
    (he : ∀ env : Env, eval (.Call (.Attribute (.Call (.Name "super" p0) [] [] p1) "__init__" p2) [.Name y q4] [] p3) env = (do
      let ov ← attributeBase (.Call (.Name "super" p0) [] [] p1) "__init__" env (eval (.Call (.Name "super" p0) [] [] p1) env)
      standAt p2.atName
      let (f, first) ← holding [ov] (getMethod ov "__init__" (pl env))
      callWith p3 f first (backTo p3 (starEach [.Name y q4] env)) [])) :
    XDef P w K mg base (k + 1) x B 1 (fun ws => [(fld, ws.getD 0 .non)]) := by
  obtain ⟨f, cda, cc, fd, kV, doc, pm, an, ct, hi, ht, hfd, hcd, S⟩ := E.init
  refine ⟨E.at, E.oex, f, fd, ["self", y], hi, ht, .all fun us hl => by rw [hfd]; exact hbd kV doc pm an cda cc ct us hl, ?_⟩
  have ls := NS.par "self" (by simp)
  have ly := NS.par y (by simp)
  refine exc_init (F := ⟨"__init__", qual, defArgs st, defBody st, defScope st, [(("__class__" : Str), cc)], cda⟩) S ⟨kV, doc, pm, an, ct, hfd⟩ rfl hcd NS hb hs rfl ls hks (fun vs H Q E h => ?_) (fun env => ⟨_, _, rfl⟩) (fun env => rfl) he fun A outer s H vs Q E' hr h => ?_
  · obtain ⟨a, ws, rfl, hw, _⟩ := h
    show ws.length + 1 = 2
    omega
  obtain ⟨a, ws, rfl, hw, ea, q⟩ := h
  obtain ⟨v, rfl⟩ : ∃ v, ws = [v] := by
    match ws, hw with
    | [v], _ => exact ⟨v, rfl⟩
  refine ⟨a, [v], rfl, E.oex, ea, fun s' I Q h => sp_name1 (i := 1) (v := v) I rfl ly rfl hd h, _, pss_one (ps_ost (pe_var (i := 0) rfl (Or.inl ls)) (pe_var (i := 1) rfl (Or.inl ly) hd hd2)), ?_⟩
  refine ⟨v, rfl, .ref a, rfl, a, B, rfl, E.oex, hno, .inl ⟨ea, fun d hd nd => ?_⟩⟩
  refine q d _ hd nd upd_same (by rw [upd_ne nd, upd_same]; rfl) fun b h1 h2 => by rw [upd_ne h1, upd_ne h2]
end
end Cw
set_option Elab.async false
set_option linter.all false
set_option maxRecDepth 100000
set_option maxHeartbeats 4000000
/-! in the suite: an own exception with fields -/
namespace Cw
open PySem PySem.Spec L2
def rIsEd (K : PySem.W.Frag) (D a : Addr) (d : Option Addr) : List V → Hp → VK → Prop := fun xs H Q => ∃ (dd : Addr) (fs : List (Str × V)) (c : V) (cv : Value) (b : Bool), d = some dd ∧ H dd = some (.xd fs) ∧ xs = [.ref a, c] ∧ (∀ u, RelV c u → u = cv) ∧ PySem.W.kitOne K (.ref D) cv = some b ∧ Q (.bl b) H
theorem call_isEd {X : Cx} {a D : Addr} {oe : Obj} {d : Option Addr} {cls : Value} {pn : List (Addr × Obj)} (C : ExcC X.K D) (hc : cls = .ref D) (hz : Zc cls d oe) (hf : ∃ vs, oe.data = .fields vs) : CallR (X.suite a ((a, oe) :: pn)) (.builtin "isinstance") (rIsEd X.K D a d) := by
  intro pins s σ H xs us Q I r h
  obtain ⟨dd, fs, c, cv, b, rfl, ea, rfl, hcv, e, q⟩ := h
  subst hc
  cases r with
  | cons rx rr =>
    cases rr with
    | cons rt rr =>
      cases rr
      cases rx
      have ec := hcv _ rt
      subst ec
      obtain ⟨ha, _⟩ := I.pin (a, oe) (List.mem_append_left _ List.mem_cons_self)
      obtain ⟨vs, hd⟩ := hf
      have hx : ObjOk X.prog X.w H s.heap dd (.xd fs) := I.hok dd _ ea
      obtain ⟨mA, hns, hr⟩ := hx
      obtain ⟨od, ho, hl⟩ := lookIn_ns hns
      have J : PySem.W.InstAt s.heap a oe D (some od) := ⟨ha, hz.1, by unfold PySem.W.notCls; rw [hd] <;> rfl, by rw [hz.2]; exact ho⟩
      have hcl : (PySem.W.clsIn X.K D).isSome = true := by
        have hd := C.hd
        unfold PySem.W.hasDictIn at hd
        obtain ⟨cd, hc, _⟩ := PySem.W.any_some hd
        rw [hc]
        rfl
      refine PySem.W.kia_one (PySem.W.kitx_exc hcl C.hg C.hk C.hs C.ha C.hn C.ht C.hm) I.kIn J e (fun z => nomatch z) fun tk => ⟨.bl b, H, I.kept (t' := tk) fun _ _ z => z, rfl, q⟩
end Cw
set_option Elab.async false
set_option linter.all false
set_option maxRecDepth 100000
set_option maxHeartbeats 4000000
/-! several except clauses that name what they caught -/
namespace Cw
open PySem PySem.Spec PyProof.Rows L2
/-- a clause's ends: its name goes -/
def gone (i : Nat) (D : Ends) : Ends := { nx := fun σ' H' => D.nx (σ'.set i none) H', rt := D.rt, bk := fun σ' H' => D.bk (σ'.set i none) H', ct := fun σ' H' => D.ct (σ'.set i none) H' }
def wManyA (K : PySem.W.Frag) (i m : Nat) (Wout : WX) (D : Ends) : List (Value × (Addr → Value → Option Addr → TS)) → WX
  | [] => Wout
  | (c, ts) :: r => fun cls d σ H => ∃ b, PySem.W.exmOne K cls c = some b ∧ (b = true → ∀ a, H a = none → σ.length = m → ts a cls d (gone i D) (σ.set i (some (.ref a))) H) ∧ (b = false → wManyA K i m Wout D r cls d σ H)
inductive HdsA (X : Cx) (n : Str) : List ExceptHandler → List (Value × (Addr → Value → Option Addr → TS)) → Prop
  | nil : HdsA X n [] []
  | cons {x : Str} {c : Value} {ts : Addr → Value → Option Addr → TS} {b₀ : Stmt} {suite : List Stmt} {np pos' : PySem.Pos} {hds : List ExceptHandler} {l : List (Value × (Addr → Value → Option Addr → TS))} (hc : Names X x c)
      (hsu : ∀ (a : Addr) (oe : Obj) (cls : Value) (d : Option Addr) (pn : List (Addr × Obj)), Zc cls d oe → (∃ vs, oe.data = .fields vs) → PSs (X.suite a ((a, oe) :: pn)) (b₀ :: suite) (ts a cls d)) (r : HdsA X n hds l) :
      HdsA X n (.ExceptHandler (some (.Name x np)) (some n) (b₀ :: suite) pos' :: hds) ((c, ts) :: l)
section
variable {X : Cx} {n : Str} {i : Nat} {body : List Stmt} {h₀ : ExceptHandler} {hds : List ExceptHandler} {l : List (Value × (Addr → Value → Option Addr → TS))} {pos : PySem.Pos} {tb : WX → TS} {Wout : WX}
theorem ps_try_manyA (hs : X.stack = X.env :: X.outer) (hf : X.env.frame = some X.env.locals) (hN : X.N.Nodup) (hi : X.N[i]? = some n) (hln : X.env.kindOf n = some .local) (tk : Takes X Wout)
    (hb : ∀ (W : WX) (pn : List (Addr × Obj)) (xe : Value → Shared → Prop), Takes (X.tr pn xe) W → PassesOwn (model X.prog X.w) X.A X.env xe → PSs (X.tr pn xe) body (tb W))
    (hh : HdsA X n (h₀ :: hds) l) : PS X (.Try body (h₀ :: hds) [] [] pos) (fun D σ H => tb (wManyA X.K i X.N.length Wout D l) D σ H) := by
  refine ⟨fun pins s σ H D I h => ?_⟩
  have ok := I.ok
  have hfr : X.A.frames = some (X.env :: X.outer) := by rw [ok.frames, hs]
  have hloc : Loc X.env.scope n := .inl hln
  refine wpAny_Try_except ?_
  refine wpAny_mono ((hb (wManyA X.K i X.N.length Wout D l) (X.pn ++ pins) (fun e s₁ => wpAny (model X.prog X.w) X.A (noteFrame e X.env) (fun _ s₂ => wpAny (model X.prog X.w) X.A (setFlight e none) (fun _ s₃ =>
    wpAny (model X.prog X.w) X.A (handleBy e X.env (h₀ :: hds)) (SP X pins D) X.xe s₃) X.xe s₂) X.xe s₁) (fun u s' xx => ?_) PassesOwn.looking).run [] s σ H D (I.toTry _) h) (fun f s1 hsp => ?_) (fun e s1 he => he)
  · obtain ⟨a, B, sI, pins', σ', H', cls, d, rfl, J', nb, up, sky, na, os, ag, w⟩ := xx
    have J : Inv X pins σ' H' sI := J'.ofTry ok
    have sky' : Sky B (X.env :: X.outer) a (Zc cls d) X.env.locals s'.heap := by rw [← hs]; exact sky
    show wpAny (model X.prog X.w) X.A (noteFrame (.ref a) X.env) _ _ _
    refine Sky.land Zc.steady hfr hf sky' fun h3 fl3 up3 => ?_
    have J3 : Inv X pins σ' H' { s' with heap := h3 } := J.landed nb fl3.1 (up.trans up3) os ag
    obtain ⟨oe3, vs3, he3, hz3, hd3⟩ := fl3.there
    have notFr : ∀ {h : Heap} {o : Obj} {vs : Array Value}, h.FunFrames B (X.env :: X.outer) → h.get? a = some o → o.data = .fields vs → a ∉ frs (X.env :: X.outer) := fun {h o vs} ff e dd hm => by
      obtain ⟨_, o', e', hnf⟩ := ff.mem hm
      rw [e] at e'; cases e'
      exact hnf _ dd
    have nfr := notFr fl3.2.2.1 he3 hd3
    have nL : a ≠ X.env.locals := fun z => nfr (List.mem_filterMap.mpr ⟨X.env, List.mem_cons_self, by rw [hf, z]⟩)
    have nF : a ∉ X.fs := fun hm => by
      obtain ⟨e, he, q⟩ := List.mem_filterMap.mp hm
      exact nfr (List.mem_filterMap.mpr ⟨e, List.mem_cons_of_mem _ he, q⟩)
    have S3 := J3.suite he3 hd3 na nL nF
    have go : ∀ {hds' : List ExceptHandler} {l' : List (Value × (Addr → Value → Option Addr → TS))}, HdsA X n hds' l' → wManyA X.K i X.N.length Wout D l' cls d σ' H' →
        wpAny (model X.prog X.w) X.A (handleBy (.ref a) X.env hds') (SP X pins D) X.xe { s' with heap := h3 } := by
      intro hds' l' hk
      induction hk with
      | nil =>
        intro w
        refine wpAny_handleBy_nil ?_
        obtain ⟨k1, k2, k3, oe, vs, T, oT, ts', he, hz, hd, h1, hr⟩ := id fl3
        unfold PySem.passOn
        refine wpAny_bind (wpAny_field he hd h1 ?_)
        rw [if_neg (show ¬ ((Value.ref T == Value.none) = true) from by simp)]
        have fin : wpAny (model X.prog X.w) X.A (setFlight (.ref a) X.env.frame) (fun _ s4 => wpAny (model X.prog X.w) X.A (throw (.ref a) : Sem Flow) (SP X pins D) X.xe s4) X.xe { s' with heap := h3 } := by
          rw [hf]
          refine HandSPX.setFlight_upZ fl3 fun h4 hh4 up4 => wpAny_throw (tk _ _ ?_)
          exact ⟨a, B, sI, pins, σ', H', cls, d, rfl, J, nb, (up.trans up3).trans up4, .inr (.inr (by rw [hs]; exact hh4)), na, os, ag, w⟩
        first
          | exact wpAny_bind (wpAny_pure (wpAny_bind fin))
          | exact wpAny_bind fin
      | @cons x c ts b₀ suite np pos' hds2 l2 hc hsu r ih =>
        intro w
        obtain ⟨b, hb1, hyes, hno⟩ := w
        refine wpAny_handleBy_cons (codeAny_handlers_test ?_) (by intro q; cases q)
        have LT : PySem.W.Looks (model X.prog X.w) h3 (typeOf (.ref a)) cls := fun A Q E s k q => wpAny_typeOf_ref (k _ _ he3) (by rw [hz3.1]; exact q)
        have LM := PySem.W.exm_one (M := model X.prog X.w) (J3.kIn) LT hb1
        have test : ∀ {Q : Value → Shared → Prop} {E : Value → Shared → Prop}, Q c { s' with heap := h3 } → wpAny (model X.prog X.w) (X.A.mark (some (.ref a))) (eval (.Name x np) X.env) Q E { s' with heap := h3 } := fun {Q E} q => by
          obtain ⟨hg, hdbg, hm | ⟨hm, hv, hnn⟩⟩ := hc
          · exact ld_glob (X := X.suite a ((a, oe3) :: (X.pn ++ pins))) S3 hg hm q hdbg
          · exact ld_blt (X := X.suite a ((a, oe3) :: (X.pn ++ pins))) S3 hg hm hv q hnn hdbg
        refine test (LM.here ?_)
        cases b with
        | true =>
          refine codeAny_handlers_suite_as ?_
          refine HandSPX.lands_againZ fl3 fun h4 fl4 up4 => ?_
          have J4 : Inv X pins σ' H' { s' with heap := h4 } := J.landed nb fl4.1 ((up.trans up3).trans up4) os ag
          obtain ⟨oe4, vs4, he4, hz4, hd4⟩ := fl4.there
          have S4 := J4.suite he4 hd4 na nL nF
          refine store_ok (X := X.suite a ((a, oe4) :: (X.pn ++ pins))) (v := .ref a) S4 hN hi hloc rfl (fun s5 S5 => ?_) (.inr hln)
          refine wpAny_mono ((hsu a oe4 cls d (X.pn ++ pins) hz4 ⟨_, hd4⟩).run [] s5 _ H' _ S5 (hyes rfl a na J.len)) (fun f s6 hsp => ?_) (fun _ _ z => False.elim z)
          have end_ : ∀ {σ6 : L2.St} {H6 : Hp} {Q : Shared → Prop}, Inv (X.suite a ((a, oe4) :: (X.pn ++ pins))) [] σ6 H6 s6 → (∀ s7, Inv X pins (σ6.set i none) H6 s7 → Q s7) →
              wpAny (model X.prog X.w) X.A (do bindName X.env n .none; unbindBehindTheSuite X.env n pos') (fun _ s7 => Q s7) X.xe s6 := fun {σ6 H6 Q} S6 hq => gone_ok (S6.unsuite ok) hN hi hln hq
          cases f with
          | next =>
            obtain ⟨σ6, H6, S6, q6⟩ := hsp
            exact end_ S6 fun s7 J7 => ⟨_, _, J7, q6⟩
          | brk =>
            obtain ⟨σ6, H6, S6, q6⟩ := hsp
            exact end_ S6 fun s7 J7 => ⟨_, _, J7, q6⟩
          | cont =>
            obtain ⟨σ6, H6, S6, q6⟩ := hsp
            exact end_ S6 fun s7 J7 => ⟨_, _, J7, q6⟩
          | ret u =>
            obtain ⟨v6, σ6, H6, S6, r6, q6⟩ := hsp
            exact end_ S6 fun s7 J7 => ⟨_, _, _, J7, r6, q6⟩
        | false =>
          show wpAny _ X.A (handleBy (.ref a) X.env hds2) _ _ _
          exact ih (hno rfl)
    exact go hh w
  · cases f with
    | next =>
      obtain ⟨σ', H', J', q⟩ := hsp
      exact wpAny_execs_nil ⟨σ', H', J'.ofTry ok, q⟩
    | brk =>
      obtain ⟨σ', H', J', q⟩ := hsp
      exact ⟨σ', H', J'.ofTry ok, q⟩
    | cont =>
      obtain ⟨σ', H', J', q⟩ := hsp
      exact ⟨σ', H', J'.ofTry ok, q⟩
    | ret u =>
      obtain ⟨v, σ', H', J', r, q⟩ := hsp
      exact ⟨v, σ', H', J'.ofTry ok, r, q⟩
end
theorem e_mkE {C : Addr} {sp : Sp} {dvs : List V} {ta : TA} {σ : L2.St} {H : Hp} {Q : XK} (q : ta σ H fun vs H1 => vs.length ≤ 1000 ∧ ∀ a, H1 a = none → sp (.ref a :: (vs ++ dvs)) (upd H1 a (exo a C none))
  (fun v H2 => v = .non ∧ ∃ (d : Addr) (fs : List (Str × V)), H2 a = some (exo a C (some d)) ∧ H2 d = some (exd d fs) ∧ H1 d = none ∧ Q (.ref C) (some d) (upd (del H2 a) d (.xd fs))) (fun _ _ _ => False)) : tMkO C sp dvs ta σ H Q := q
end Cw
set_option Elab.async false
set_option linter.all false
set_option maxRecDepth 100000
set_option maxHeartbeats 4000000
/-! rooms that lie ahead of a room, their joins -/
namespace Cw
open PySem PySem.Spec L2
section
variable {f : Nat → List Nat} {ls : List Nat}
/-- two ways act alike -/
def Alike (f : Nat → List Nat) (v w : List Nat) : Prop := ∀ g, act f v g = act f w g
theorem Alike.refl (v : List Nat) : Alike f v v := fun _ => rfl
theorem Alike.symm {v w : List Nat} (h : Alike f v w) : Alike f w v := fun g => (h g).symm
theorem Alike.trans {u v w : List Nat} (h : Alike f u v) (h2 : Alike f v w) : Alike f u w := fun g => (h g).trans (h2 g)
theorem Alike.app {u v u' v' : List Nat} (h : Alike f u u') (h2 : Alike f v v') : Alike f (u ++ v) (u' ++ v') := fun g => by rw [act_app, act_app, h2 g, h]
theorem Alike.cancel (ok : CrOk f) {a u v : List Nat} (h : Alike f (a ++ u) (a ++ v)) : Alike f u v := fun g => by
  have e := h g
  rw [act_app, act_app] at e
  have e2 := congrArg (act f a.reverse) e
  rwa [act_rev ok, act_rev ok] at e2
theorem Alike.red (ok : CrOk f) {v w : List Nat} (h : Alike f v w) (mw : ∀ y ∈ w, y ∈ ls) (rw' : Red f w) (l : v.length = w.length) : Red f v := by
  refine red_of_len ok ?_
  rw [name_eq ok h, red_len ok mw rw', l]
theorem Alike.len (ok : CrOk f) {v w : List Nat} (h : Alike f v w) (mv : ∀ y ∈ v, y ∈ ls) (mw : ∀ y ∈ w, y ∈ ls) (rv : Red f v) (rw' : Red f w) : v.length = w.length := by
  rw [← red_len ok mv rv, ← red_len ok mw rw', name_eq ok h]
theorem Alike.desc (ok : CrOk f) {v w : List Nat} {s : Nat} (h : Alike f v w) (mv : ∀ y ∈ v, y ∈ ls) (mw : ∀ y ∈ w, y ∈ ls) (rv : Red f v) (rw' : Red f w) (hs : s ∈ ls) : desc f s v ↔ desc f s w :=
  (ng_desc ok rv mv hs).symm.trans ((ng_act h s).trans (ng_desc ok rw' mw hs))
theorem desc_cut {s : Nat} {q : List Nat} : ∀ {p : List Nat}, desc f s (p ++ q) → desc f s p ∨ ((∀ y ∈ p, y ∈ f s) ∧ desc f s q)
  | [], h => .inr ⟨fun _ z => (nomatch z), h⟩
  | y :: p, h => by
    rcases h with h | ⟨h1, h2⟩
    · exact .inl (.inl h)
    · rcases desc_cut (p := p) h2 with z | ⟨z1, z2⟩
      · exact .inl (.inr ⟨h1, z⟩)
      · exact .inr ⟨fun t ht => (List.mem_cons.mp ht).elim (fun e => e ▸ h1) (z1 t), z2⟩
/-- a lies on a shortest way to c -/
def Pre (f : Nat → List Nat) (ls a c : List Nat) : Prop := ∃ v, (∀ t ∈ v, t ∈ ls) ∧ Red f (a ++ v) ∧ Alike f (a ++ v) c
theorem Pre.trans (ok : CrOk f) {a b c : List Nat} (ma : ∀ t ∈ a, t ∈ ls) (mb : ∀ t ∈ b, t ∈ ls) (rb : Red f b) (h : Pre f ls a b) (h2 : Pre f ls b c) : Pre f ls a c := by
  obtain ⟨v, mv, rv, ev⟩ := h
  obtain ⟨w, mw, rw', ew⟩ := h2
  have e : Alike f (a ++ (v ++ w)) (b ++ w) := by
    rw [← List.append_assoc]
    exact ev.app (.refl w)
  have l := ev.len ok (fun t ht => (List.mem_append.mp ht).elim (ma t) (mv t)) mb rv rb
  refine ⟨v ++ w, fun t ht => (List.mem_append.mp ht).elim (mv t) (mw t), e.red ok (fun t ht => (List.mem_append.mp ht).elim (mb t) (mw t)) rw' ?_, e.trans ew⟩
  rw [List.length_append] at l
  simp only [List.length_append]
  omega
end
end Cw
set_option Elab.async false
set_option linter.all false
set_option maxRecDepth 100000
set_option maxHeartbeats 4000000
/-! the room at the corner of walls that cross -/
namespace Cw
open PySem PySem.Spec L2
/-- the join of a row of rooms, one after the other -/
inductive JoinAll (fn : Nat → List Nat) (ls : List Nat) : List Nat → List (List Nat) → List Nat → Prop
  | nil (n : List Nat) : JoinAll fn ls n [] n
  | cons {n g fd u v m : List Nat} {gs : List (List Nat)} : Share fn ls n g fd u v → (∀ t ∈ ls, ¬ (desc fn t u ∧ desc fn t v)) → JoinAll fn ls (joinC fn n (wayC fn fd g)) gs m → JoinAll fn ls n (g :: gs) m
section
variable {f : Nat → List Nat} {ls : List Nat}
theorem Pre.self (a : List Nat) (ra : Red f a) : Pre f ls a a := ⟨[], (fun _ z => nomatch z), by rw [List.append_nil]; exact ra, by rw [List.append_nil]; exact .refl a⟩
theorem Alike.rev (ok : CrOk f) {v w : List Nat} (h : Alike f v w) : Alike f v.reverse w.reverse := fun g => act_rev_eq ok h g
/-- what is taken off behind -/
theorem split_back (ok : CrOk f) (w free : List Nat) : ∃ e, (∀ t ∈ e, t ∈ free) ∧ (∀ t ∈ e, t ∈ w) ∧ Alike f ((splitA f free w.reverse).2.reverse ++ e) w ∧ (splitA f free w.reverse).2.length + e.length = w.length := by
  refine ⟨(splitA f free w.reverse).1.reverse, fun t ht => splitA_in f _ _ t (List.mem_reverse.mp ht), fun t ht => List.mem_reverse.mp (splitA_mem1 f _ _ t (List.mem_reverse.mp ht)), ?_, ?_⟩
  · have h : Alike f ((splitA f free w.reverse).1 ++ (splitA f free w.reverse).2) w.reverse := fun g => splitA_act ok g _ _
    have h2 := h.rev ok
    rw [List.reverse_append, List.reverse_reverse] at h2
    exact h2
  · have := splitA_len f w.reverse free
    rw [List.length_reverse] at *
    omega
theorem start_split16 (ok : CrOk f) {w : List Nat} {k : Nat} (h : ¬ desc f k w.reverse) : ∃ e, (∀ t ∈ e, t ∈ f k) ∧ (∀ t ∈ e, t ∈ w) ∧ Alike f (startC f w k ++ e) w ∧ (startC f w k).length + e.length = w.length := by
  have e1 : nearC f w k = w := if_neg h
  obtain ⟨e, a1, a2, a3, a4⟩ := split_back ok w (f k)
  refine ⟨e, a1, a2, ?_, ?_⟩
  · unfold startC
    rw [e1]
    exact a3
  · unfold startC
    rw [e1, List.length_reverse]
    exact a4
/-- letters along a wall leave the wall -/
theorem wall_along (hn : ls.Nodup) (ok : CrOk f) {k : Nat} (hk : k ∈ ls) : ∀ (e w : List Nat), (∀ t ∈ w, t ∈ ls) → (∀ t ∈ e, t ∈ ls ∧ (t = k ∨ t ∈ f k)) → startC f (nameOf f (w ++ e)) k = startC f (nameOf f w) k
  | [], w, _, _ => by rw [List.append_nil]
  | t :: e, w, mw, me => by
    obtain ⟨h1, h2⟩ := me t (List.mem_cons_self ..)
    have q : w ++ t :: e = (w ++ [t]) ++ e := by simp
    rw [q, wall_along hn ok hk e (w ++ [t]) (fun y hy => (List.mem_append.mp hy).elim (mw y) fun z => List.mem_singleton.mp z ▸ h1) fun y hy => me y (List.mem_cons_of_mem _ hy)]
    exact near_step hn ok mw hk h1 h2
/-- the kinds that cross all others of a group -/
def Along (f : Nat → List Nat) (G : List Nat) (d : Nat) : Prop := ∀ g ∈ G, g = d ∨ d ∈ f g
/-- a group of kinds that all cross, and a room that is the nearest one along it -/
structure Grp (f : Nat → List Nat) (ls G mm : List Nat) : Prop where
  nd : G.Nodup
  mG : ∀ g ∈ G, g ∈ ls
  cr : ∀ g ∈ G, ∀ h ∈ G, g ≠ h → g ∈ f h
  nf : NF f mm
  mem : ∀ t ∈ mm, t ∈ ls
  least : ∀ d ∈ ls, Along f G d → ¬ desc f d mm.reverse
section
variable {G mm : List Nat}
theorem Grp.along (h : Grp f ls G mm) {g : Nat} (hg : g ∈ G) : Along f G g := fun k hk => by
  by_cases e : k = g
  · exact .inl e
  · exact .inr (h.cr g hg k hk fun z => e z.symm)
theorem Grp.side (h : Grp f ls G mm) (ok : CrOk f) {k t : Nat} (hk : k ∈ G) (ht : t ∈ ls) (a : Along f G t) : t ∈ ls ∧ (t = k ∨ t ∈ f k) := ⟨ht, (a k hk).elim (fun z => .inl z.symm) .inr⟩
/-- the doors back of the room at the corner -/
theorem Grp.back (h : Grp f ls G mm) (ok : CrOk f) {d : Nat} (hd : d ∈ ls) (z : desc f d (mm ++ G).reverse) : d ∈ G ∨ ¬ Along f G d := by
  rw [List.reverse_append] at z
  rcases desc_cut z with z | ⟨z1, z2⟩
  · exact .inl (List.mem_reverse.mp (desc_mem z))
  · refine .inr fun a => h.least d hd a z2
theorem red_grp (ok : CrOk f) : ∀ (E mm : List Nat), E.Nodup → (∀ g ∈ E, ∀ k ∈ E, g ≠ k → g ∈ f k) → Red f mm.reverse → (∀ g ∈ E, ¬ desc f g mm.reverse) → Red f (E ++ mm.reverse)
  | [], _, _, _, r, _ => r
  | g :: E, mm, n, c, r, nd => by
    have n' := List.nodup_cons.mp n
    refine ⟨fun z => ?_, red_grp ok E mm n'.2 (fun a ha b hb => c a (List.mem_cons_of_mem _ ha) b (List.mem_cons_of_mem _ hb)) r fun a ha => nd a (List.mem_cons_of_mem _ ha)⟩
    refine nd g (List.mem_cons_self ..) ((desc_pass ok fun y hy => ?_).mp z)
    refine c y (List.mem_cons_of_mem _ hy) g (List.mem_cons_self ..) fun e => n'.1 (e ▸ hy)
theorem Grp.red (h : Grp f ls G mm) (ok : CrOk f) {E : List Nat} (hE : ∀ t ∈ E, t ∈ G) (nE : E.Nodup) : Red f (mm ++ E) := by
  have r : Red f (E.reverse ++ mm.reverse) := red_grp ok E.reverse mm (List.pairwise_reverse.mpr (List.Pairwise.imp (fun z => Ne.symm z) nE)) (fun g hg k hk => h.cr g (hE g (List.mem_reverse.mp hg)) k (hE k (List.mem_reverse.mp hk))) h.nf.red.rev fun g hg => h.least g (h.mG g (hE g (List.mem_reverse.mp hg))) (h.along (hE g (List.mem_reverse.mp hg)))
  have r2 := r.rev
  rwa [List.reverse_append, List.reverse_reverse, List.reverse_reverse] at r2
theorem Grp.wall (h : Grp f ls G mm) (hn : ls.Nodup) (ok : CrOk f) {k : Nat} (hk : k ∈ G) {E : List Nat} (hE : ∀ t ∈ E, t ∈ G) : startC f (nameOf f (mm ++ E)) k = startC f mm k := by
  rw [wall_along hn ok (h.mG k hk) E mm h.mem fun t ht => h.side ok hk (h.mG t (hE t ht)) (h.along (hE t ht)), show nameOf f mm = mm from (is_NF ok).mpr h.nf]
/-- what lies ahead of the room behind the corner, beyond each of the walls, is that room -/
theorem Grp.join (h : Grp f ls G mm) (hn : ls.Nodup) (ok : CrOk f) {n : List Nat} (nn : NF f n) (mn : ∀ t ∈ n, t ∈ ls) (p : Pre f ls n (mm ++ G)) (hg : ∀ k ∈ G, Pre f ls (startC f mm k ++ [k]) n) : Alike f n (mm ++ G) := by
  obtain ⟨x, mx, rx, ex⟩ := p
  rcases List.eq_nil_or_concat x with rfl | ⟨x', d, rfl⟩
  · rwa [List.append_nil] at ex
  rw [List.concat_eq_append] at *
  have hd : d ∈ ls := mx d (by simp)
  have mc : ∀ t ∈ mm ++ G, t ∈ ls := fun t ht => (List.mem_append.mp ht).elim (h.mem t) (h.mG t)
  have mnx : ∀ t ∈ n ++ (x' ++ [d]), t ∈ ls := fun t ht => (List.mem_append.mp ht).elim (mn t) (mx t)
  have rc := h.red ok (E := G) (fun _ z => z) h.nd
  have db : desc f d (mm ++ G).reverse := (Alike.desc ok (ex.rev ok) (fun t ht => mnx t (List.mem_reverse.mp ht)) (fun t ht => mc t (List.mem_reverse.mp ht)) rx.rev rc.rev hd).mp (by
    rw [← List.append_assoc, List.reverse_append]
    exact .inl rfl)
  have dG : d ∈ G := by
    rcases h.back ok hd db with z | z
    · exact z
    · exfalso
      rw [List.reverse_append] at db
      rcases desc_cut db with q | ⟨q1, q2⟩
      · exact z (h.along (List.mem_reverse.mp (desc_mem q)))
      · exact z fun g hg' => .inr (ok.sym _ _ (q1 g (List.mem_reverse.mpr hg')))
  exfalso
  have mn' : ∀ t ∈ n ++ x', t ∈ ls := fun t ht => (List.mem_append.mp ht).elim (mn t) fun z => mx t (List.mem_append_left _ z)
  have q0 : n ++ (x' ++ [d]) = (n ++ x') ++ [d] := by simp
  rw [q0] at rx ex
  have r' : Red f (n ++ x') := Red_left rx
  have w0 : startC f (nameOf f (n ++ x')) d = startC f mm d := by
    rw [← wall_thr hn ok hd mn', name_eq ok ex, h.wall hn ok dG fun _ z => z]
  have ds : ¬ desc f d (nameOf f (n ++ x')).reverse := fun z => by
    have a : Alike f (nameOf f (n ++ x')).reverse (n ++ x').reverse := Alike.rev ok fun g => name_act ok _ g
    have z2 := (a.desc ok (fun t ht => mn' t (name_mem (List.mem_reverse.mp ht))) (fun t ht => mn' t (List.mem_reverse.mp ht)) (name_NF ok _).red.rev r'.rev hd).mp z
    have r3 := rx.rev
    rw [List.reverse_append] at r3
    exact r3.1 z2
  obtain ⟨e, e1, e2, e3, e4⟩ := start_split16 ok ds
  rw [w0] at e3 e4
  obtain ⟨y, my, ry, ey⟩ := hg d dG
  have a1 : Alike f (startC f mm d ++ ([d] ++ (y ++ x'))) (n ++ x') := by
    have q : startC f mm d ++ ([d] ++ (y ++ x')) = (startC f mm d ++ [d] ++ y) ++ x' := by simp
    rw [q]
    exact ey.app (.refl x')
  have a2 : Alike f (startC f mm d ++ e) (n ++ x') := e3.trans fun g => name_act ok _ g
  have a3 : Alike f ([d] ++ (y ++ x')) e := Alike.cancel (a := startC f mm d) ok (a1.trans a2.symm)
  have ms : ∀ t ∈ startC f mm d, t ∈ ls := fun t ht => (start_mem ht).elim (fun z => z ▸ hd) (h.mem t)
  have me : ∀ t ∈ e, t ∈ ls := fun t ht => mn' t (name_mem (e2 t ht))
  have ln := red_len ok mn' r'
  have re : Red f e := Red_right (a2.red ok mn' r' (by rw [List.length_append, e4, ln]))
  have ly := ey.len ok (fun t ht => (List.mem_append.mp ht).elim (fun z => (List.mem_append.mp z).elim (ms t) fun q => List.mem_singleton.mp q ▸ hd) (my t)) mn ry nn.red
  have ry' : Red f (startC f mm d ++ ([d] ++ (y ++ x'))) := a1.red ok mn' r' (by simp only [List.length_append, List.length_singleton] at *; omega)
  have dm : desc f d e := (a3.desc ok (fun t ht => (List.mem_append.mp ht).elim (fun q => List.mem_singleton.mp q ▸ hd) fun z => (List.mem_append.mp z).elim (my t) fun q => mx t (List.mem_append_left _ q)) me (Red_right ry') re hd).mp (.inl rfl)
  exact ok.irr d (e1 d (desc_mem dm))
end
end
end Cw
set_option Elab.async false
set_option linter.all false
set_option maxRecDepth 100000
set_option maxHeartbeats 4000000
/-! what corner tells -/
namespace Cw
open PySem PySem.Spec L2
instance (f : Nat → List Nat) (G : List Nat) (d : Nat) : Decidable (Along f G d) := inferInstanceAs (Decidable (∀ g ∈ G, g = d ∨ d ∈ f g))
def crossK (fn : Nat → List Nat) (a b : List Nat × Nat) : Prop := crossP fn a.1 a.2 b.1 b.2
instance (fn : Nat → List Nat) (a b : List Nat × Nat) : Decidable (crossK fn a b) := inferInstanceAs (Decidable (crossP fn a.1 a.2 b.1 b.2))
/-- the room just beyond a wall -/
def goalK (fn : Nat → List Nat) (a : List Nat × Nat) : List Nat := stepOf (fn a.2) a.1 a.2
section
variable {f : Nat → List Nat} {ls : List Nat} {G mm : List Nat}
theorem Grp.key (h : Grp f ls G mm) (ok : CrOk f) {k : Nat} (hk : k ∈ G) : KeyOk f ls (startC f mm k) k :=
  ⟨start_NF ok h.nf k, fun y hy => (start_mem hy).elim (fun z => z ▸ h.mG k hk) (h.mem y), h.mG k hk, start_not ok h.nf k, start_free ok mm k⟩
theorem KeyOk.goal (ok : CrOk f) {m : List Nat} {k : Nat} (h : KeyOk f ls m k) : NF f (goalK f (m, k)) ∧ (∀ t ∈ goalK f (m, k), t ∈ ls) ∧ Alike f (goalK f (m, k)) (m ++ [k]) ∧ (goalK f (m, k)).length = m.length + 1 ∧ Red f (m ++ [k]) := by
  have l : (goalK f (m, k)).length = m.length + 1 := (step_len_desc ok m k).2 h.td
  refine ⟨NF_step ok h.nf, fun t ht => (stepOf_mem ht).elim (fun z => z ▸ h.hk) (h.mem t), fun g => act_step ok m k g, l, ?_⟩
  have r : Red f (k :: m.reverse) := ⟨h.td, h.nf.red.rev⟩
  have r2 := r.rev
  rwa [List.reverse_cons, List.reverse_reverse] at r2
theorem Pre.alike (ok : CrOk f) {a b c : List Nat} (h : Pre f ls a c) (e : Alike f b a) (ma : ∀ t ∈ a, t ∈ ls) (l : b.length = a.length) : Pre f ls b c := by
  obtain ⟨v, mv, rv, ev⟩ := h
  have e2 : Alike f (b ++ v) (a ++ v) := e.app (.refl v)
  exact ⟨v, mv, e2.red ok (fun t ht => (List.mem_append.mp ht).elim (ma t) (mv t)) rv (by simp only [List.length_append]; omega), e2.trans ev⟩
/-- the block's first room -/
theorem Grp.base (h : Grp f ls G mm) (hn : ls.Nodup) (ok : CrOk f) {n kinds : List Nat} (mn : ∀ t ∈ n, t ∈ ls) (nn : NF f n) (al : Alike f n (mm ++ G)) (hk : ∀ t, t ∈ kinds ↔ t ∈ G) :
    (∀ t ∈ (splitA f kinds n.reverse).2.reverse, t ∈ ls) ∧ (splitA f kinds n.reverse).2.reverse.length ≤ n.length ∧ (∀ k ∈ G, startC f (nameOf f (splitA f kinds n.reverse).2.reverse) k = startC f mm k) ∧ ∀ d ∈ ls, Along f G d → ¬ desc f d (nameOf f (splitA f kinds n.reverse).2.reverse).reverse := by
  obtain ⟨e, e1, e2, e3, e4⟩ := split_back ok n kinds
  have mb : ∀ t ∈ (splitA f kinds n.reverse).2.reverse, t ∈ ls := fun t ht => mn t (List.mem_reverse.mp (splitA_mem2 f _ _ t (List.mem_reverse.mp ht)))
  have nb : NF f (splitA f kinds n.reverse).2.reverse := by
    have h : NFr f n.reverse := nn
    show NFr f _
    rw [List.reverse_reverse]
    exact NFr_rest h
  have eb : nameOf f (splitA f kinds n.reverse).2.reverse = (splitA f kinds n.reverse).2.reverse := (is_NF ok).mpr nb
  have eG : ∀ t ∈ e, t ∈ G := fun t ht => (hk t).mp (e1 t ht)
  have mc : ∀ t ∈ mm ++ G, t ∈ ls := fun t ht => (List.mem_append.mp ht).elim (h.mem t) (h.mG t)
  have rc := h.red ok (E := G) (fun _ z => z) h.nd
  refine ⟨mb, by rw [List.length_reverse]; omega, fun k hk' => ?_, fun d hd a z => ?_⟩
  · have w := wall_along hn ok (h.mG k hk') e _ mb fun t ht => h.side ok hk' (h.mG t (eG t ht)) (h.along (eG t ht))
    rw [name_eq ok (e3.trans al), h.wall hn ok hk' fun _ z => z] at w
    exact w.symm
  · rw [eb, List.reverse_reverse] at z
    have dG : d ∉ G := fun q => splitA_desc ok _ _ d ((hk d).mpr q) z
    have c : ∀ t ∈ e.reverse, t ∈ f d := fun t ht => by
      have tG := eG t (List.mem_reverse.mp ht)
      exact ok.sym _ _ ((a t tG).resolve_left fun q => dG (q ▸ tG))
    have z2 : desc f d (e.reverse ++ (splitA f kinds n.reverse).2) := (desc_pass ok c).mpr z
    have al2 : Alike f (e.reverse ++ (splitA f kinds n.reverse).2) (mm ++ G).reverse := by
      have q := (e3.trans al).rev ok
      rwa [List.reverse_append, List.reverse_reverse] at q
    have me : ∀ t ∈ e.reverse ++ (splitA f kinds n.reverse).2, t ∈ ls := fun t ht => (List.mem_append.mp ht).elim (fun q => h.mG t (eG t (List.mem_reverse.mp q))) fun q => mb t (List.mem_reverse.mpr q)
    have ln := al.len ok mn mc nn.red rc
    have re : Red f (e.reverse ++ (splitA f kinds n.reverse).2) := al2.red ok (fun t ht => mc t (List.mem_reverse.mp ht)) rc.rev (by rw [List.length_append, List.length_reverse, List.length_reverse]; omega)
    rcases h.back ok hd ((al2.desc ok me (fun t ht => mc t (List.mem_reverse.mp ht)) re rc.rev hd).mp z2) with q | q
    · exact dG q
    · exact q a
/-- the walls of the group cross -/
theorem Grp.cross (h : Grp f ls G mm) (hn : ls.Nodup) (ok : CrOk f) {g k : Nat} (hg : g ∈ G) (hk : k ∈ G) (ne : g ≠ k) : crossK f (startC f mm g, g) (startC f mm k, k) := by
  have z := (keys_cross hn ok (M := mm) (u := [g]) (v := [k]) h.mem (fun y hy => List.mem_singleton.mp hy ▸ h.mG g hg) fun y hy => List.mem_singleton.mp hy ▸ h.mG k hk).mpr fun a ha b hb => by
    rw [List.mem_singleton.mp ha, List.mem_singleton.mp hb]
    exact h.cr g hg k hk ne
  have e : ∀ {j : Nat}, startC f mm j ++ [j] ∈ keyI f mm [j] [j].length := fun {j} => List.mem_map.mpr ⟨0, List.mem_range.mpr (by simp), by
    show startC f (nameOf f (mm ++ [])) j ++ [j] = _
    rw [List.append_nil, show nameOf f mm = mm from (is_NF ok).mpr h.nf]⟩
  have z2 := z _ (e (j := g)) _ (e (j := k))
  exact Classical.byContradiction fun c => z2 ((apart_iff hn ok (h.key ok hg) (h.key ok hk)).mpr c)
end
end Cw
set_option Elab.async false
set_option linter.all false
set_option maxRecDepth 100000
set_option maxHeartbeats 4000000
/-! a list comprehension within an except suite (the handled exception's context is None), its iterator a list's -/
namespace Cw
open PySem PySem.Spec PyProof.Rows L2 L2H HotX
section
variable {prog : Program} {w : World} {A : Around} {E : Value → Shared → Prop} {s : Shared}
end
/-- the handled exception among some pins -/
def HotP (X : Cx) (pins : List (Addr × Obj)) : Prop := ∃ p : Addr × Obj, Hot1 X.A p ∧ p ∈ pins
theorem HotP.at {X : Cx} {pins : List (Addr × Obj)} {σ : L2.St} {H : Hp} {s : Shared} (c : HotP X pins) (I : Inv X pins σ H s) : ∃ x1, HotAt X.A x1 s.heap := by
  obtain ⟨p, ⟨hh, v1, e1, c1⟩, hp⟩ := c
  exact ⟨p.1, hh, p.2, v1, (I.pin p (List.mem_append_right _ hp)).1, e1, c1⟩
structure TurnG (P : Program) (w : World) (K : PySem.W.Frag) (tg : Expr) (J : It) (fp : List Addr) (it : Addr) (tn : Nat → Heap → Prop) : Prop where
  mem : it ∈ fp
  obj : ∀ i h, tn i h → ∀ b ∈ fp, ∃ o, h.get? b = some o ∧ ∀ v, o.data ≠ .cell v
  keep : ∀ i h h', tn i h → (∀ b ∈ fp, ∀ o, h.get? b = some o → h'.get? b = some o) → tn i h'
  item : ∀ (X : Cx), X.prog = P → X.w = w → X.K = K → ∀ (i : Nat) (pins : List (Addr × Obj)) (s : Shared) (σ : L2.St) (H : Hp) (E : Value → Shared → Prop), HotP X pins → Inv X pins σ H s → (∀ b ∈ fp, FpOk X pins H b) → tn i s.heap → J.go i H →
    wpAny (model P w) X.A (pyNext (.ref it)) (fun r s1 => ∃ u, r = some u ∧
      wpAny (model P w) X.A (letOwnedTupleGo tg (.ref it) u) (fun _ s2 => ∃ x H', Inv X pins σ H' s2 ∧ RelV x u ∧ J.yld i H x H' ∧ tn (i + 1) s2.heap ∧ ∀ b ∈ fp, H' b = none) E s1) E s
  done : ∀ (X : Cx), X.prog = P → X.w = w → X.K = K → ∀ (i : Nat) (pins : List (Addr × Obj)) (s : Shared) (σ : L2.St) (H : Hp) (E : Value → Shared → Prop), HotP X pins → Inv X pins σ H s → (∀ b ∈ fp, FpOk X pins H b) → tn i s.heap → J.stop i H →
    wpAny (model P w) X.A (pyNext (.ref it)) (fun r s1 => r = none ∧ Inv X pins σ H s1) E s
  self : ∀ (A : Around) (i : Nat) (s : Shared) (Q : Value → Shared → Prop) (E : Value → Shared → Prop), tn i s.heap → Q (.ref it) s → wpAny (model P w) A (pyIter (.ref it)) Q E s
def PIEG (X : Cx) (pins : List (Addr × Obj)) (σ : L2.St) (tg : Expr) (R : It → Hp → Prop) (itv : Value) (s2 : Shared) : Prop :=
  ∃ (it : Addr) (fp : List Addr) (tn : Nat → Heap → Prop) (J : It) (H' : Hp), itv = .ref it ∧ Inv X pins σ H' s2 ∧ TurnG X.prog X.w X.K tg J fp it tn ∧ tn 0 s2.heap ∧ (∀ b ∈ fp, FpOk X pins H' b) ∧ R J H'
structure PIG (X : Cx) (tg iter : Expr) (wi : TI) : Prop where
  run : ∀ (pins : List (Addr × Obj)) (s : Shared) (σ : L2.St) (H : Hp) (R : It → Hp → Prop), Inv X pins σ H s → wi σ H R →
    wpAny (model X.prog X.w) X.A (eval iter X.env) (fun v s1 => wpAny (model X.prog X.w) X.A (pyIter v) (PIEG X pins σ tg R) X.xe s1) X.xe s
section
variable {X : Cx}
end
end Cw
set_option Elab.async false
set_option linter.all false
set_option maxRecDepth 100000
set_option maxHeartbeats 4000000
/-! own exceptions with fields whose context is None -/
namespace Cw
open PySem PySem.Spec PyProof.Rows L2
section
variable {X : Cx} {e : Expr} {es : List Expr} {ta : TA} {p pos : PySem.Pos}
end
section
variable {X : Cx} {k n : Nat} {x : Str} {B : Addr} {g : List V → List (Str × V)} {e : Expr} {es : List Expr} {ta : TA} {p pos : PySem.Pos}
end
section
variable {P : Program} {w : World} {K : PySem.W.Frag} {mg : Str → Option Value} {base : Heap} {k : Nat} {x : Str} {ps N : List Str} {sp : Sp} {st : Stmt}
end
end Cw
set_option Elab.async false
set_option linter.all false
set_option maxRecDepth 100000
set_option maxHeartbeats 4000000
/-! the way from one block of rooms to another -/
namespace Cw
section
variable {f : Nat → List Nat} {ls A B : List Nat} {k : Nat}
/-- a shortest way that no letter of A begins and no letter of B ends -/
structure Mn (f : Nat → List Nat) (A B w : List Nat) : Prop where
  red : Red f w
  hd : ∀ t ∈ A, ¬ desc f t w
  tl : ∀ t ∈ B, ¬ desc f t w.reverse
theorem red_ahead {w : List Nat} (rw : Red f w) (h : ∀ t ∈ A, ¬ desc f t w) : ∀ {a : List Nat}, Red f a → (∀ t ∈ a, t ∈ A) → Red f (a ++ w)
  | [], _, _ => rw
  | t :: a, ra, m => ⟨fun z => (desc_cut z).elim (fun z => ra.1 z) fun z => h t (m t (.head _)) z.2, red_ahead rw h ra.2 fun y hy => m y (.tail _ hy)⟩
theorem red_behind {w b : List Nat} (rw : Red f w) (h : ∀ t ∈ B, ¬ desc f t w.reverse) (rb : Red f b) (m : ∀ t ∈ b, t ∈ B) : Red f (w ++ b) := by
  have := (red_ahead (A := B) rw.rev h rb.rev (fun t ht => m t (List.mem_reverse.mp ht))).rev
  rwa [List.reverse_append, List.reverse_reverse, List.reverse_reverse] at this
theorem Mn.rev (ok : CrOk f) {w : List Nat} (h : Mn f A B w) : Mn f B A w.reverse := ⟨h.red.rev, h.tl, by rw [List.reverse_reverse]; exact h.hd⟩
theorem Mn.alike (ok : CrOk f) {w v : List Nat} (h : Mn f A B w) (e : Alike f v w) (rv : Red f v) (mw : ∀ y ∈ w, y ∈ ls) (mv : ∀ y ∈ v, y ∈ ls) (mA : ∀ y ∈ A, y ∈ ls) (mB : ∀ y ∈ B, y ∈ ls) : Mn f A B v where
  red := rv
  hd t ht z := h.hd t ht ((e.desc ok mv mw rv h.red (mA t ht)).mp z)
  tl t ht z := h.tl t ht (((e.rev ok).desc ok (fun y hy => mv y (List.mem_reverse.mp hy)) (fun y hy => mw y (List.mem_reverse.mp hy)) rv.rev h.red.rev (mB t ht)).mp z)
theorem pass_alike (ok : CrOk f) {w : List Nat} : ∀ {d : List Nat}, (∀ t ∈ d, ∀ y ∈ w, y ∈ f t) → Alike f (d ++ w) (w ++ d)
  | [], _ => by rw [List.append_nil]; exact .refl _
  | t :: d, h => fun g => by
    have e := pass_alike ok (d := d) (fun y hy => h y (.tail _ hy)) g
    show thr f t (act f (d ++ w) g) = _
    rw [e, act_app, act_app, ← act_comm ok (h t (.head _))]
    rfl
theorem Alike.back (ok : CrOk f) {a b c : List Nat} (h : Alike f (a ++ b) c) : Alike f b (a.reverse ++ c) := fun g => by
  rw [act_app, ← h g, act_app, act_rev ok]
theorem Alike.there (ok : CrOk f) (a b : List Nat) : Alike f (a ++ (a.reverse ++ b)) b := fun g => by
  rw [act_app, act_app, act_rev' ok]
theorem Alike.home (ok : CrOk f) (a b : List Nat) : Alike f (a.reverse ++ (a ++ b)) b := fun g => by
  rw [act_app, act_app, act_rev ok]
theorem Alike.out (ok : CrOk f) (a b : List Nat) : Alike f ((a ++ b) ++ b.reverse) a := fun g => by
  rw [act_app, act_app, act_rev' ok]
theorem name_alike (ok : CrOk f) (w : List Nat) : Alike f (nameOf f w) w := name_act ok w
theorem Alike.name (ok : CrOk f) {v w : List Nat} (h : Alike f v w) : nameOf f v = nameOf f w := name_eq ok h
theorem Alike.nf (ok : CrOk f) {v w : List Nat} (h : Alike f v w) (hv : NF f v) (hw : NF f w) : v = w := by
  have e := h.name ok
  rwa [show nameOf f v = v from (is_NF ok).mpr hv, show nameOf f w = w from (is_NF ok).mpr hw] at e
/-- such a way is the only one between two blocks -/
theorem mn_uniq (ok : CrOk f) {w w' : List Nat} (h : Mn f A B w) (h' : Mn f A B w') (mw : ∀ y ∈ w, y ∈ ls) (mw' : ∀ y ∈ w', y ∈ ls) (mA : ∀ y ∈ A, y ∈ ls) (mB : ∀ y ∈ B, y ∈ ls) :
    ∀ (a b : List Nat), Red f a → Red f b → (∀ t ∈ a, t ∈ A) → (∀ t ∈ b, t ∈ B) → Alike f (a ++ w) (w' ++ b) → Alike f w w' ∧ Alike f a b ∧ ∀ t ∈ a, t ∈ B ∧ ∀ y ∈ w', y ∈ f t
  | [], b, _, rb, _, hb, e => by
    cases hr : b.reverse with
    | nil =>
      have hb0 : b = [] := List.reverse_eq_nil_iff.mp hr
      subst hb0
      rw [List.append_nil] at e
      exact ⟨e, .refl _, fun _ z => nomatch z⟩
    | cons t r =>
      have htb : t ∈ b := List.mem_reverse.mp (hr ▸ List.mem_cons_self ..)
      have rr : Red f (w' ++ b) := red_behind h'.red h'.tl rb hb
      have d := ((e.rev ok).desc (s := t) ok (fun y hy => mw y (List.mem_reverse.mp hy)) (fun y hy => (List.mem_append.mp (List.mem_reverse.mp hy)).elim (mw' y) fun z => mB y (hb y z)) h.red.rev rr.rev (mB t (hb t htb))).mpr (by
        rw [List.reverse_append, hr]
        exact Or.inl rfl)
      exact absurd d (h.tl t (hb t htb))
  | t :: a, b, ra, rb, ha, hb, e => by
    have ht := ha t (.head _)
    have r1 : Red f ((t :: a) ++ w) := red_ahead h.red h.hd ra ha
    have r2 : Red f (w' ++ b) := red_behind h'.red h'.tl rb hb
    have d : desc f t (w' ++ b) := (e.desc ok (fun y hy => (List.mem_append.mp hy).elim (fun z => mA y (ha y z)) (mw y)) (fun y hy => (List.mem_append.mp hy).elim (mw' y) fun z => mB y (hb y z)) r1 r2 (mA t ht)).mp (Or.inl rfl)
    rcases desc_cut d with z | ⟨hc, hd⟩
    · exact absurd z (h'.hd t ht)
    have tb : t ∈ b := by
      obtain ⟨p, q, e1, _⟩ := desc_split hd
      rw [e1]
      exact List.mem_append_right _ (.head _)
    have e3 : Alike f ([t] ++ (a ++ w)) ([t] ++ (w' ++ b.erase t)) := fun g => by
      have z : act f ((t :: a) ++ w) g = _ := e g
      rw [show [t] ++ (a ++ w) = (t :: a) ++ w from rfl, z, act_app, ← erase_act ok hd g]
      show act f w' (thr f t (act f (b.erase t) g)) = thr f t (act f (w' ++ b.erase t) g)
      rw [act_app, act_comm ok hc]
    obtain ⟨c1, c2, c3⟩ := mn_uniq ok h h' mw mw' mA mB a (b.erase t) ra.2 (erase_red ok hd rb) (fun y hy => ha y (.tail _ hy)) (fun y hy => hb y (List.mem_of_mem_erase hy)) (e3.cancel ok)
    refine ⟨c1, fun g => ?_, fun y hy => ?_⟩
    · rw [← erase_act ok hd g]
      show thr f t (act f a g) = thr f t (act f (b.erase t) g)
      rw [c2 g]
    · rcases List.mem_cons.mp hy with rfl | z
      · exact ⟨hb _ tb, hc⟩
      · exact c3 y z
/-! ### words of kinds that all cross -/
def Cliq (f : Nat → List Nat) (A : List Nat) : Prop := ∀ a ∈ A, ∀ b ∈ A, a ≠ b → a ∈ f b
theorem perm_alike (ok : CrOk f) (cl : Cliq f A) {u v : List Nat} (h : u.Perm v) : (∀ t ∈ u, t ∈ A) → Alike f u v := by
  induction h with
  | nil => exact fun _ => .refl _
  | cons x h ih => exact fun m g => congrArg (thr f x) (ih (fun t ht => m t (.tail _ ht)) g)
  | swap x y l =>
    intro m g
    show thr f y (thr f x _) = thr f x (thr f y _)
    by_cases e : x = y
    · rw [e]
    · exact thr_comm ok (cl y (m y (.head _)) x (m x (.tail _ (.head _))) fun z => e z.symm)
  | trans h1 h2 ih1 ih2 => exact fun m => (ih1 m).trans (ih2 fun t ht => m t (h1.mem_iff.mpr ht))
theorem cliq_red : ∀ {u : List Nat}, u.Nodup → Red f u
  | [], _ => trivial
  | t :: u, h => ⟨fun z => by
    obtain ⟨p, q, e, _⟩ := desc_split z
    exact (List.nodup_cons.mp h).1 (e ▸ List.mem_append_right _ (.head _)), cliq_red (List.nodup_cons.mp h).2⟩
/-- the letters of A that stand an odd number of times in u -/
def canW (A u : List Nat) : List Nat := A.filter fun k => decide (u.count k % 2 = 1)
theorem can_alike (ok : CrOk f) (nA : A.Nodup) (cl : Cliq f A) : ∀ u : List Nat, (∀ t ∈ u, t ∈ A) → Alike f u (canW A u)
  | [], _ => by
    rw [show canW A [] = [] from List.filter_eq_nil_iff.mpr fun k _ => by simp]
    exact .refl _
  | t :: u, m => fun g => by
    have ih := can_alike ok nA cl u (fun y hy => m y (.tail _ hy)) g
    show thr f t (act f u g) = _
    rw [ih]
    obtain ⟨p, q, e⟩ := List.append_of_mem (m t (.head _))
    subst e
    have np : t ∉ p := fun z => by
      have := (List.nodup_append.mp nA).2.2 t z t (.head _)
      exact this rfl
    have nq : t ∉ q := (List.nodup_cons.mp (List.nodup_append.mp nA).2.1).1
    have same : ∀ {l : List Nat}, t ∉ l → canW l (t :: u) = canW l u := fun {l} hl => List.filter_congr fun k hk => by
      rw [List.count_cons_of_ne (fun z => by subst z; exact hl hk)]
    have cp : ∀ y ∈ canW p u, y ∈ f t := fun y hy => by
      have hy' := (List.mem_filter.mp hy).1
      exact cl y (List.mem_append_left _ hy') t (List.mem_append_right _ (.head _)) fun z => np (z ▸ hy')
    have ec : (t :: u).count t = u.count t + 1 := List.count_cons_self
    have s1 : ∀ v, canW (p ++ t :: q) v = canW p v ++ ((if v.count t % 2 = 1 then [t] else []) ++ canW q v) := fun v => by
      unfold canW
      rw [List.filter_append, List.filter_cons]
      by_cases z : v.count t % 2 = 1
      · rw [if_pos (by simpa using z), if_pos z]
        rfl
      · rw [if_neg (by simpa using z), if_neg z]
        rfl
    rw [s1 u, s1 (t :: u), same np, same nq, ec]
    by_cases z : u.count t % 2 = 1
    · rw [if_pos z, if_neg (by omega), act_app, ← act_comm ok cp]
      show act f (canW p u) (thr f t (thr f t (act f (canW q u) g))) = _
      rw [thr_thr ok]
      exact (act_app _ _ _).symm
    · rw [if_neg z, if_pos (by omega), List.nil_append, act_app, act_app, ← act_comm ok cp]
      rfl
theorem can_nodup (nA : A.Nodup) (u : List Nat) : (canW A u).Nodup := nA.sublist List.filter_sublist
theorem can_mem {u : List Nat} {t : Nat} : t ∈ canW A u ↔ t ∈ A ∧ u.count t % 2 = 1 := by
  unfold canW
  rw [List.mem_filter, decide_eq_true_iff]
/-- how far apart two rooms of the blocks are -/
theorem near_iff (ok : CrOk f) {w : List Nat} (h : Mn f A B w) (cA : Cliq f A) (cB : Cliq f B) {S T : List Nat} (nS : S.Nodup) (nT : T.Nodup) (mS : ∀ t ∈ S, t ∈ A) (mT : ∀ t ∈ T, t ∈ B) (mw : ∀ y ∈ w, y ∈ ls) (mA : ∀ y ∈ A, y ∈ ls) (mB : ∀ y ∈ B, y ∈ ls) :
    w.length ≤ (nameOf f (S.reverse ++ w ++ T)).length ∧ ((nameOf f (S.reverse ++ w ++ T)).length = w.length ↔ (∀ t, t ∈ S ↔ t ∈ T) ∧ ∀ t ∈ S, ∀ y ∈ w, y ∈ f t) := by
  classical
  let D : Nat → Bool := fun t => decide (t ∈ S ∧ t ∈ T ∧ ∀ y ∈ w, y ∈ f t)
  have hD : ∀ t, D t = true ↔ (t ∈ S ∧ t ∈ T ∧ ∀ y ∈ w, y ∈ f t) := fun t => decide_eq_true_iff
  have pS : S.reverse.Perm (S.filter (fun t => !D t) ++ S.filter D) := (List.reverse_perm S).trans ((List.filter_append_perm D S).symm.trans List.perm_append_comm)
  have pT : T.Perm (T.filter D ++ T.filter (fun t => !D t)) := (List.filter_append_perm D T).symm
  have pD : (S.filter D).Perm (T.filter D).reverse := by
    refine ((List.perm_ext_iff_of_nodup (nS.sublist List.filter_sublist) (nT.sublist List.filter_sublist)).mpr fun t => ?_).trans (List.reverse_perm _).symm
    rw [List.mem_filter, List.mem_filter]
    exact ⟨fun z => ⟨((hD t).mp z.2).2.1, z.2⟩, fun z => ⟨((hD t).mp z.2).1, z.2⟩⟩
  have mem1 : ∀ t ∈ S.reverse, t ∈ A := fun t ht => mS t (List.mem_reverse.mp ht)
  have a1 : Alike f S.reverse (S.filter (fun t => !D t) ++ S.filter D) := perm_alike ok cA pS mem1
  have a2 : Alike f T (T.filter D ++ T.filter (fun t => !D t)) := perm_alike ok cB pT mT
  have a3 : Alike f (S.filter D) (T.filter D).reverse := perm_alike ok cA pD fun t ht => mS t (List.mem_filter.mp ht).1
  have a4 : Alike f (S.filter D ++ w) (w ++ S.filter D) := pass_alike ok fun t ht => ((hD t).mp (List.mem_filter.mp ht).2).2.2
  have al : Alike f (S.reverse ++ w ++ T) (S.filter (fun t => !D t) ++ (w ++ T.filter fun t => !D t)) := fun g => by
    have z1 := fun g => a1 g
    have z4 := fun g => a4 g
    rw [act_app, act_app, a1, a2, act_app, act_app]
    have e : act f (S.filter D) (act f w (act f (T.filter D) (act f (T.filter fun t => !D t) g))) = act f w (act f (T.filter fun t => !D t) g) := by
      have := a4 (act f (T.filter D) (act f (T.filter fun t => !D t) g))
      rw [act_app, act_app] at this
      rw [this, a3, act_rev ok]
    rw [e, act_app, act_app]
  have r2 : Red f (w ++ T.filter fun t => !D t) := red_behind h.red h.tl (cliq_red (nT.sublist List.filter_sublist)) fun t ht => mT t (List.mem_filter.mp ht).1
  have r1 : ∀ S' : List Nat, S'.Nodup → (∀ t ∈ S', t ∈ S ∧ (!D t) = true) → Red f (S' ++ (w ++ T.filter fun t => !D t)) := by
    intro S'
    induction S' with
    | nil => exact fun _ _ => r2
    | cons t S' ih =>
      intro n m
      refine ⟨fun z => ?_, ih (List.nodup_cons.mp n).2 fun y hy => m y (.tail _ hy)⟩
      obtain ⟨m1, m2⟩ := m t (.head _)
      rcases desc_cut z with z | ⟨_, z⟩
      · obtain ⟨p, q, e, _⟩ := desc_split z
        exact (List.nodup_cons.mp n).1 (e ▸ List.mem_append_right _ (.head _))
      · rcases desc_cut z with z | ⟨hc, z⟩
        · exact h.hd t (mS t m1) z
        · obtain ⟨p, q, e, _⟩ := desc_split z
          have tt : t ∈ T.filter fun t => !D t := e ▸ List.mem_append_right _ (.head _)
          rw [(hD t).mpr ⟨m1, (List.mem_filter.mp tt).1, hc⟩] at m2
          cases m2
  have rr := r1 (S.filter fun t => !D t) (nS.sublist List.filter_sublist) fun t ht => List.mem_filter.mp ht
  have len : (nameOf f (S.reverse ++ w ++ T)).length = (S.filter fun t => !D t).length + (w.length + (T.filter fun t => !D t).length) := by
    rw [(al.name ok), ← List.length_append, ← List.length_append]
    refine Alike.len (ls := ls) ok (name_alike ok _) (fun y hy => ?_) (fun y hy => ?_) (name_NF ok _).red rr
    · rcases List.mem_append.mp (name_mem hy) with z | z
      · exact mA y (mS y (List.mem_filter.mp z).1)
      · exact (List.mem_append.mp z).elim (mw y) fun z => mB y (mT y (List.mem_filter.mp z).1)
    · rcases List.mem_append.mp hy with z | z
      · exact mA y (mS y (List.mem_filter.mp z).1)
      · exact (List.mem_append.mp z).elim (mw y) fun z => mB y (mT y (List.mem_filter.mp z).1)
  refine ⟨by omega, ⟨fun e => ?_, fun e => ?_⟩⟩
  · have e1 : S.filter (fun t => !D t) = [] := List.length_eq_zero_iff.mp (by omega)
    have e2 : T.filter (fun t => !D t) = [] := List.length_eq_zero_iff.mp (by omega)
    have d1 : ∀ t ∈ S, D t = true := fun t ht => by
      have := List.filter_eq_nil_iff.mp e1 t ht
      simpa using this
    have d2 : ∀ t ∈ T, D t = true := fun t ht => by
      have := List.filter_eq_nil_iff.mp e2 t ht
      simpa using this
    exact ⟨fun t => ⟨fun ht => ((hD t).mp (d1 t ht)).2.1, fun ht => ((hD t).mp (d2 t ht)).1⟩, fun t ht => ((hD t).mp (d1 t ht)).2.2⟩
  · have e1 : S.filter (fun t => !D t) = [] := List.filter_eq_nil_iff.mpr fun t ht => by
      rw [(hD t).mpr ⟨ht, (e.1 t).mp ht, e.2 t ht⟩]
      simp
    have e2 : T.filter (fun t => !D t) = [] := List.filter_eq_nil_iff.mpr fun t ht => by
      rw [(hD t).mpr ⟨(e.1 t).mpr ht, ht, e.2 t ((e.1 t).mpr ht)⟩]
      simp
    rw [len, e1, e2]
    simp
end
end Cw
set_option Elab.async false
set_option linter.all false
set_option maxRecDepth 100000
set_option maxHeartbeats 4000000
/-! bridges between blocks, what the law sees of them -/
namespace Cw
section
variable {f : Nat → List Nat} {ls A B D N M h t : List Nat} {k : Nat}
/-- the first room of the block at n -/
def baseC (f : Nat → List Nat) (A n : List Nat) : List Nat := (splitA f A n.reverse).2.reverse
theorem base_NF {n : List Nat} (hn : NF f n) : NF f (baseC f A n) := by
  unfold baseC NF
  rw [List.reverse_reverse]
  exact NFr_rest hn
theorem base_mem {n : List Nat} : ∀ y ∈ baseC f A n, y ∈ n := fun y hy => List.mem_reverse.mp (splitA_mem2 f _ _ y (List.mem_reverse.mp hy))
theorem base_free (ok : CrOk f) (A n : List Nat) : ∀ t ∈ A, ¬ desc f t (baseC f A n).reverse := fun t ht => by
  unfold baseC
  rw [List.reverse_reverse]
  exact splitA_desc ok _ _ t ht
theorem base_spec (ok : CrOk f) (A n : List Nat) : ∃ e, (∀ t ∈ e, t ∈ A) ∧ (∀ t ∈ e, t ∈ n) ∧ Alike f (baseC f A n ++ e) n ∧ (baseC f A n).length + e.length = n.length := by
  unfold baseC
  rw [List.length_reverse]
  exact split_back ok n A
theorem base_name (ok : CrOk f) {n : List Nat} (hn : NF f n) : nameOf f (baseC f A n) = baseC f A n := (is_NF ok).mpr (base_NF hn)
theorem base_iff (ok : CrOk f) {n m : List Nat} (hn : NF f n) (hm : NF f m) (mn : ∀ y ∈ n, y ∈ ls) (mm : ∀ y ∈ m, y ∈ ls) (mA : ∀ y ∈ A, y ∈ ls) : baseC f A n = baseC f A m ↔ ∃ e, (∀ t ∈ e, t ∈ A) ∧ Alike f n (m ++ e) := by
  obtain ⟨e1, h1, _, a1, _⟩ := base_spec ok A n
  obtain ⟨e2, h2, _, a2, _⟩ := base_spec ok A m
  constructor
  · intro e
    rw [e] at a1
    refine ⟨e2.reverse ++ e1, fun t ht => (List.mem_append.mp ht).elim (fun z => h2 t (List.mem_reverse.mp z)) (h1 t), fun g => ?_⟩
    rw [← a1 g, act_app, act_app, act_app, ← a2, act_app, act_rev' ok]
  · rintro ⟨e, he, al⟩
    have w1 : Mn f [] A (baseC f A n) := ⟨(base_NF hn).red, (fun _ z => nomatch z), base_free ok A n⟩
    have w2 : Mn f [] A (baseC f A m) := ⟨(base_NF hm).red, (fun _ z => nomatch z), base_free ok A m⟩
    refine Alike.nf ok ?_ (base_NF hn) (base_NF hm)
    refine (mn_uniq (ls := ls) ok w1 w2 (fun y hy => mn y (base_mem y hy)) (fun y hy => mm y (base_mem y hy)) (fun _ z => nomatch z) mA [] (nameOf f (e2 ++ (e ++ e1.reverse))) trivial (name_NF ok _).red (fun _ z => nomatch z) (fun y hy => ?_) fun g => ?_).1
    · rcases List.mem_append.mp (name_mem hy) with z | z
      · exact h2 y z
      · exact (List.mem_append.mp z).elim (he y) fun z => h1 y (List.mem_reverse.mp z)
    · rw [List.nil_append, act_app, name_act ok, act_app, act_app, ← act_app (baseC f A m), a2, ← act_app m, ← al, ← a1, act_app, act_rev' ok]
/-- a room of the one block and a room of the other one, as near as can be -/
structure Bri (f : Nat → List Nat) (ls A B N M h t : List Nat) : Prop where
  nh : NF f h
  nt : NF f t
  mh : ∀ y ∈ h, y ∈ ls
  mt : ∀ y ∈ t, y ∈ ls
  a : ∃ a, (∀ y ∈ a, y ∈ A) ∧ Alike f h (N ++ a)
  b : ∃ b, (∀ y ∈ b, y ∈ B) ∧ Alike f t (M ++ b)
  mn : Mn f A B (wayC f h t)
theorem way_alike (ok : CrOk f) (a b : List Nat) : Alike f (wayC f a b) (a.reverse ++ b) := name_act ok _
theorem way_in25 {a b : List Nat} (ma : ∀ y ∈ a, y ∈ ls) (mb : ∀ y ∈ b, y ∈ ls) : ∀ y ∈ wayC f a b, y ∈ ls := fun y hy => (List.mem_append.mp (name_mem hy)).elim (fun z => ma y (List.mem_reverse.mp z)) (mb y)
theorem Bri.symm (ok : CrOk f) (mA : ∀ y ∈ A, y ∈ ls) (mB : ∀ y ∈ B, y ∈ ls) (x : Bri f ls A B N M h t) : Bri f ls B A M N t h where
  nh := x.nt
  nt := x.nh
  mh := x.mt
  mt := x.mh
  a := x.b
  b := x.a
  mn := by
    have m := way_in25 (f := f) x.mh x.mt
    refine (x.mn.rev ok).alike (ls := ls) ok ?_ (name_NF ok _).red (fun y hy => m y (List.mem_reverse.mp hy)) (way_in25 x.mt x.mh) mB mA
    rw [← way_rev ok h t]
    exact name_act ok _
theorem Bri.uniq (ok : CrOk f) (mA : ∀ y ∈ A, y ∈ ls) (mB : ∀ y ∈ B, y ∈ ls) {h' t' : List Nat} (x : Bri f ls A B N M h t) (y : Bri f ls A B N M h' t') :
    wayC f h t = wayC f h' t' ∧ ∃ e, (∀ s ∈ e, s ∈ A ∧ s ∈ B ∧ ∀ y ∈ wayC f h t, y ∈ f s) ∧ Alike f h (h' ++ e) ∧ Alike f t (t' ++ e) := by
  obtain ⟨a, ha, aa⟩ := x.a
  obtain ⟨b, hb, ab⟩ := x.b
  obtain ⟨a', ha', aa'⟩ := y.a
  obtain ⟨b', hb', ab'⟩ := y.b
  have e1 : ∀ g, act f (nameOf f (a'.reverse ++ a)) g = act f h'.reverse (act f h g) := fun g => by
    rw [name_act ok, act_app, aa, aa'.rev ok, List.reverse_append, act_app, act_app, act_rev ok]
  have e2 : ∀ g, act f (nameOf f (b'.reverse ++ b)) g = act f t'.reverse (act f t g) := fun g => by
    rw [name_act ok, act_app, ab, ab'.rev ok, List.reverse_append, act_app, act_app, act_rev ok]
  have mA' : ∀ s ∈ nameOf f (a'.reverse ++ a), s ∈ A := fun s hs => (List.mem_append.mp (name_mem hs)).elim (fun z => ha' s (List.mem_reverse.mp z)) (ha s)
  have mB' : ∀ s ∈ nameOf f (b'.reverse ++ b), s ∈ B := fun s hs => (List.mem_append.mp (name_mem hs)).elim (fun z => hb' s (List.mem_reverse.mp z)) (hb s)
  obtain ⟨u1, u2, u3⟩ := mn_uniq (ls := ls) ok x.mn y.mn (way_in25 x.mh x.mt) (way_in25 y.mh y.mt) mA mB _ _ (name_NF ok (a'.reverse ++ a)).red (name_NF ok (b'.reverse ++ b)).red mA' mB' fun g => by
    rw [act_app, e1, act_app, e2, way_alike ok h t, act_app, act_rev' ok, way_alike ok h' t', act_app, act_rev' ok]
  have ew : wayC f h t = wayC f h' t' := u1.nf ok (name_NF ok _) (name_NF ok _)
  refine ⟨ew, _, fun s hs => ⟨mA' s hs, (u3 s hs).1, by rw [ew]; exact (u3 s hs).2⟩, fun g => ?_, fun g => ?_⟩
  · rw [act_app, e1, act_rev' ok]
  · rw [act_app, u2, e2, act_rev' ok]
/-- what the law asks of the two rooms -/
theorem only_of (ok : CrOk f) {x y : List Nat} (e : Alike f x y) (my : ∀ c ∈ y, c ∈ A) : ∀ c ∈ nameOf f x, c ∈ A := fun c hc => by
  rw [e.name ok] at hc
  exact my c (name_mem hc)
structure BriR (f : Nat → List Nat) (A B D n1 n2 w s o : List Nat) : Prop where
  one : ∀ c ∈ nameOf f (n1.reverse ++ s), c ∈ A
  two : ∀ c ∈ nameOf f (n2.reverse ++ (s ++ w)), c ∈ B
  heads : ∀ c ∈ A, ¬ desc f c (nameOf f w.reverse).reverse
  tails : ∀ c ∈ B, ¬ desc f c (nameOf f w).reverse
  near1 : ∀ c ∈ D, ¬ desc f c (nameOf f s).reverse
  near2 : ∀ c ∈ D, ¬ desc f c (nameOf f o).reverse
  home : nameOf f (s.reverse ++ s) = []
  goal : ∀ c ∈ nameOf f (o.reverse ++ (s ++ w)), c ∈ D
theorem Bri.right (ok : CrOk f) (x : Bri f ls A B N M h t) (mA : ∀ y ∈ A, y ∈ ls) (mB : ∀ y ∈ B, y ∈ ls) (hD : ∀ t', t' ∈ D ↔ t' ∈ A ∧ t' ∈ B ∧ ∀ y ∈ wayC f h t, y ∈ f t') {n1 n2 : List Nat} (q1 : ∃ e, (∀ y ∈ e, y ∈ A) ∧ Alike f n1 (N ++ e)) (q2 : ∃ e, (∀ y ∈ e, y ∈ B) ∧ Alike f n2 (M ++ e)) :
    BriR f A B D n1 n2 (wayC f h t) (baseC f D h) (baseC f D t) := by
  obtain ⟨a, ha, aa⟩ := x.a
  obtain ⟨b, hb, ab⟩ := x.b
  obtain ⟨e1, he1, ae1⟩ := q1
  obtain ⟨e2, he2, ae2⟩ := q2
  obtain ⟨v, hv, _, av, _⟩ := base_spec ok D h
  obtain ⟨v2, hv2, _, av2, _⟩ := base_spec ok D t
  have mw := way_in25 (f := f) x.mh x.mt
  have hs : Alike f (baseC f D h) (h ++ v.reverse) := fun g => by rw [act_app, ← av, act_app, act_rev' ok]
  have ho : Alike f (baseC f D t) (t ++ v2.reverse) := fun g => by rw [act_app, ← av2, act_app, act_rev' ok]
  have hg : Alike f (baseC f D h ++ wayC f h t) (t ++ v.reverse) := fun g => by
    have z := pass_alike (w := wayC f h t) (d := v.reverse) ok (fun s hs y hy => ((hD s).mp (hv s (List.mem_reverse.mp hs))).2.2 y hy) g
    rw [act_app, act_app] at z
    rw [act_app, hs, act_app, z, way_alike ok h t, act_app, act_rev' ok, act_app]
  refine ⟨only_of ok (y := e1.reverse ++ (a ++ v.reverse)) (fun g => ?_) fun c hc => ?_, only_of ok (y := e2.reverse ++ (b ++ v.reverse)) (fun g => ?_) fun c hc => ?_, fun c hc z => ?_, fun c hc z => ?_, fun c hc => ?_, fun c hc => ?_, name_back ok _, only_of ok (y := v2 ++ v.reverse) (fun g => ?_) fun c hc => ?_⟩
  · rw [act_app, hs, act_app, aa, ae1.rev ok, List.reverse_append, act_app, act_app, act_rev ok, act_app, act_app]
  · rcases List.mem_append.mp hc with z | z
    · exact he1 c (List.mem_reverse.mp z)
    · exact (List.mem_append.mp z).elim (ha c) fun z => ((hD c).mp (hv c (List.mem_reverse.mp z))).1
  · rw [act_app, hg, act_app, ab, ae2.rev ok, List.reverse_append, act_app, act_app, act_rev ok, act_app, act_app]
  · rcases List.mem_append.mp hc with z | z
    · exact he2 c (List.mem_reverse.mp z)
    · exact (List.mem_append.mp z).elim (hb c) fun z => ((hD c).mp (hv c (List.mem_reverse.mp z))).2.1
  · refine x.mn.hd c hc ?_
    have e := ((name_alike ok (wayC f h t).reverse).rev ok)
    rw [List.reverse_reverse] at e
    exact (e.desc (ls := ls) ok (fun y hy => mw y (List.mem_reverse.mp (name_mem (List.mem_reverse.mp hy)))) mw (name_NF ok _).red.rev x.mn.red (mA c hc)).mp z
  · refine x.mn.tl c hc ?_
    rwa [show nameOf f (wayC f h t) = wayC f h t from name_name ok _] at z
  · rw [base_name ok x.nh]
    exact base_free ok D h c hc
  · rw [base_name ok x.nt]
    exact base_free ok D t c hc
  · rw [act_app, hg, act_app, ho.rev ok, List.reverse_append, List.reverse_reverse, act_app, act_rev ok, act_app]
  · exact (List.mem_append.mp hc).elim (hv2 c) fun z => hv c (List.mem_reverse.mp z)
/-! ### the rooms of both, listed -/
theorem cliq_desc (cl : Cliq f A) : ∀ {u : List Nat}, (∀ t ∈ u, t ∈ A) → ∀ {t : Nat}, t ∈ u → desc f t u
  | [], _, _, z => nomatch z
  | s :: u, m, t, z => by
    by_cases e : s = t
    · exact Or.inl e
    · refine Or.inr ⟨cl s (m s (.head _)) t (m t z) e, cliq_desc cl (fun y hy => m y (.tail _ hy)) ?_⟩
      rcases List.mem_cons.mp z with z | z
      · exact absurd z.symm e
      · exact z
theorem cliq_sub (ok : CrOk f) (cl : Cliq f A) (mA : ∀ y ∈ A, y ∈ ls) {S e : List Nat} (nS : S.Nodup) (mS : ∀ t ∈ S, t ∈ A) (me : ∀ t ∈ e, t ∈ ls) (al : Alike f S e) : ∀ t ∈ S, t ∈ e := fun t ht => by
  have d := ((al.trans (name_alike ok e).symm).desc (ls := ls) ok (fun y hy => mA y (mS y hy)) (fun y hy => me y (name_mem hy)) (cliq_red nS) (name_NF ok _).red (mA t (mS t ht))).mp (cliq_desc cl mS ht)
  obtain ⟨p, q, e1, _⟩ := desc_split d
  exact name_mem (f := f) (e1 ▸ List.mem_append_right _ (.head _))
/-- a room of each block, against the bridge -/
structure BriP (f : Nat → List Nat) (D h t w i p S T : List Nat) : Prop where
  le : w.length ≤ (nameOf f (i.reverse ++ p)).length
  near : (nameOf f (i.reverse ++ p)).length = w.length ↔ (∀ c ∈ S, c ∈ D) ∧ ∀ c, c ∈ S ↔ c ∈ T
  one : baseC f D i = baseC f D h ↔ ∀ c ∈ S, c ∈ D
  way : (∀ c ∈ S, c ∈ D) → (nameOf f (i ++ w) = p ↔ ∀ c, c ∈ S ↔ c ∈ T)
  two : (∀ c ∈ T, c ∈ D) → baseC f D p = baseC f D t
theorem Bri.pairs (ok : CrOk f) (x : Bri f ls A B N M h t) (mN : ∀ y ∈ N, y ∈ ls) (mM : ∀ y ∈ M, y ∈ ls) (mA : ∀ y ∈ A, y ∈ ls) (mB : ∀ y ∈ B, y ∈ ls) (nA : A.Nodup) (nB : B.Nodup) (cA : Cliq f A) (cB : Cliq f B) (hD : ∀ t', t' ∈ D ↔ t' ∈ A ∧ t' ∈ B ∧ ∀ y ∈ wayC f h t, y ∈ f t') :
    ∃ a b, ∀ S T : List Nat, (∀ c ∈ S, c ∈ A) → (∀ c ∈ T, c ∈ B) → BriP f D h t (wayC f h t) (nameOf f (N ++ S)) (nameOf f (M ++ T)) (canW A (a ++ S)) (canW B (b ++ T)) := by
  obtain ⟨a, ha, aa⟩ := x.a
  obtain ⟨b, hb, ab⟩ := x.b
  refine ⟨a.reverse, b.reverse, fun S T mS mT => ?_⟩
  have s1 := can_alike ok nA cA (a.reverse ++ S) fun c hc => (List.mem_append.mp hc).elim (fun z => ha c (List.mem_reverse.mp z)) (mS c)
  have t1 := can_alike ok nB cB (b.reverse ++ T) fun c hc => (List.mem_append.mp hc).elim (fun z => hb c (List.mem_reverse.mp z)) (mT c)
  have nS := can_nodup nA (a.reverse ++ S)
  have nT := can_nodup nB (b.reverse ++ T)
  have sA : ∀ c ∈ canW A (a.reverse ++ S), c ∈ A := fun c hc => (can_mem.mp hc).1
  have tB : ∀ c ∈ canW B (b.reverse ++ T), c ∈ B := fun c hc => (can_mem.mp hc).1
  have ai : Alike f (nameOf f (N ++ S)) (h ++ canW A (a.reverse ++ S)) := fun g => by
    rw [name_act ok, act_app, act_app, aa, ← s1, act_app, act_app, act_rev' ok]
  have ap : Alike f (nameOf f (M ++ T)) (t ++ canW B (b.reverse ++ T)) := fun g => by
    rw [name_act ok, act_app, act_app, ab, ← t1, act_app, act_app, act_rev' ok]
  generalize canW A (a.reverse ++ S) = S' at *
  generalize canW B (b.reverse ++ T) = T' at *
  have mi : ∀ y ∈ nameOf f (N ++ S), y ∈ ls := fun y hy => (List.mem_append.mp (name_mem hy)).elim (mN y) fun z => mA y (mS y z)
  have mp : ∀ y ∈ nameOf f (M ++ T), y ∈ ls := fun y hy => (List.mem_append.mp (name_mem hy)).elim (mM y) fun z => mB y (mT y z)
  have mw := way_in25 (f := f) x.mh x.mt
  have mD : ∀ y ∈ D, y ∈ ls := fun y hy => mA y ((hD y).mp hy).1
  have ni := name_NF ok (N ++ S)
  have np := name_NF ok (M ++ T)
  have e0 : nameOf f ((nameOf f (N ++ S)).reverse ++ nameOf f (M ++ T)) = nameOf f (S'.reverse ++ wayC f h t ++ T') := Alike.name ok fun g => by
    rw [act_app, ap, ai.rev ok, List.reverse_append, act_app, act_app, act_app, act_app, way_alike ok h t, act_app]
  obtain ⟨n1, n2⟩ := near_iff (ls := ls) ok x.mn cA cB nS nT sA tB mw mA mB
  rw [← e0] at n1 n2
  generalize nameOf f (N ++ S) = i at *
  generalize nameOf f (M ++ T) = p at *
  refine ⟨n1, n2.trans ⟨fun z => ⟨fun c hc => (hD c).mpr ⟨sA c hc, tB c ((z.1 c).mp hc), z.2 c hc⟩, z.1⟩, fun z => ⟨z.2, fun c hc => ((hD c).mp (z.1 c hc)).2.2⟩⟩, ?_, fun hS => ?_, fun hT => ?_⟩
  · rw [base_iff (ls := ls) ok ni x.nh mi x.mh mD]
    constructor
    · rintro ⟨e, he, al⟩ c hc
      exact he c (cliq_sub ok cA mA nS sA (fun y hy => mD y (he y hy)) (Alike.cancel ok (ai.symm.trans al)) c hc)
    · exact fun z => ⟨S', z, ai⟩
  · have e1 : Alike f (i ++ wayC f h t) (t ++ S') := fun g => by
      have z := pass_alike (w := wayC f h t) (d := S') ok (fun s hs y hy => ((hD s).mp (hS s hs)).2.2 y hy) g
      rw [act_app, act_app] at z
      rw [act_app, ai, act_app, z, way_alike ok h t, act_app, act_rev' ok, act_app]
    constructor
    · intro e
      have al : Alike f S' T' := Alike.cancel ok (e1.symm.trans (((name_alike ok _).symm.trans (by rw [e]; exact .refl _)).trans ap))
      exact fun c => ⟨fun z => cliq_sub ok cA mA nS sA (fun y hy => mB y (tB y hy)) al c z, fun z => cliq_sub ok cB mB nT tB (fun y hy => mA y (sA y hy)) al.symm c z⟩
    · intro e
      have al : Alike f S' T' := perm_alike ok cA ((List.perm_ext_iff_of_nodup nS nT).mpr e) sA
      refine (Alike.nf ok ((name_alike ok _).trans (e1.trans ?_)) (name_NF ok _) np)
      exact ((Alike.refl t).app al).trans ap.symm
  · exact (base_iff (ls := ls) ok np x.nt mp x.mt mD).mpr ⟨T', hT, ap⟩
/-- the words of a block's rooms, as the program lists them -/
def subsL (K : List Nat) : List (List Nat) := K.foldl (fun acc k => acc ++ acc.map fun S => S ++ [k]) [[]]
theorem subs_snoc (K : List Nat) (k : Nat) : subsL (K ++ [k]) = subsL K ++ (subsL K).map fun S => S ++ [k] := by
  unfold subsL
  rw [List.foldl_append]
  rfl
theorem snocRec {P : List Nat → Prop} (h0 : P []) (h1 : ∀ K k, P K → P (K ++ [k])) : ∀ K, P K := fun K => by
  have : ∀ n (K : List Nat), K.length = n → P K := by
    intro n
    induction n with
    | zero =>
      intro K e
      rw [List.length_eq_zero_iff.mp e]
      exact h0
    | succ n ih =>
      intro K e
      have ne : K ≠ [] := fun z => by rw [z] at e; cases e
      rw [← List.dropLast_concat_getLast ne]
      exact h1 _ _ (ih _ (by rw [List.length_dropLast, e]; rfl))
  exact this _ K rfl
theorem subs_mem : ∀ (K S : List Nat), S ∈ subsL K → ∀ c ∈ S, c ∈ K := by
  refine snocRec (fun S hS c hc => ?_) fun K k ih S hS c hc => ?_
  · have : S = [] := by simpa [subsL] using hS
    subst this
    cases hc
  · rw [subs_snoc] at hS
    rcases List.mem_append.mp hS with z | z
    · exact List.mem_append_left _ (ih S z c hc)
    · obtain ⟨S0, z0, rfl⟩ := List.mem_map.mp z
      rcases List.mem_append.mp hc with y | y
      · exact List.mem_append_left _ (ih S0 z0 c y)
      · exact List.mem_append_right _ y
theorem subs_len : ∀ K : List Nat, (subsL K).length = 2 ^ K.length := by
  refine snocRec rfl fun K k ih => ?_
  rw [subs_snoc, List.length_append, List.length_map, ih, List.length_append, List.length_singleton, Nat.pow_succ]
  omega
end
end Cw
set_option Elab.async false
set_option linter.all false
set_option maxRecDepth 100000
set_option maxHeartbeats 4000000
/-! [..] == [..] of texts and of objects with an own ==, whatever the answer -/
namespace GQ
open PySem PySem.SeqAt
open AutoSeq1 (wpAny_loadPart')
open MeetsSeq MeetsSeq2 MeetsSeq3 SeqRoads2
section
variable {prog : Program} {w : World} {A : Around} {R : Result → Shared → Prop}
end
section
variable {prog : Program} {w : World} {A : Around} {E : Value → Shared → Prop} {s : Shared}
end
end GQ
namespace Cw
open PySem PySem.Spec PyProof.Rows L2
/-- how two values compare -/
abbrev EqvB := V → V → Hp → Bool → Prop
def EqB (X : Cx) (n : Nat) (D : EqvB) : Prop :=
  ∀ (A : Around) (pins : List (Addr × Obj)) (s : Shared) (σ : L2.St) (H : Hp) (x y : V) (u v : Value) (b : Bool), L2.Sub X n A → Inv X pins σ H s → RelV x u → RelV y v → D x y H b →
    wpAny (model X.prog X.w) A (eqBool u v) (fun r s' => r = b ∧ ∃ H', Inv X pins σ H' s' ∧ Ext H H') X.xe s
section
variable {X : Cx} {n m : Nat} {D D' : EqvB}
theorem EqB.mono (h : EqB X n D) (hn : n ≤ m) : EqB X m D := fun A pins s σ H x y u v b sb => h A pins s σ H x y u v b (sb.mono hn)
end
end Cw
set_option Elab.async false
set_option linter.all false
set_option maxRecDepth 100000
set_option maxHeartbeats 4000000
/-! x + y, x * y of two objects of one own class -/
namespace PySem.W
open PySem PySem.Calls PyProof.Rows Builtin
section
variable {prog : Program} {w : World} {A : Around} {E : Value → Shared → Prop} {s : Shared} {K : Frag} {x y C L f : Addr} {h0 : Heap} {m : Str → Option Value} {ox oy : Obj} {od ody : Option Obj}
end
end PySem.W
namespace Cw
open PySem PySem.Spec L2
section
variable {X : Cx} {CX : CXT} {k : Nat} {C : Addr} {m : Str} {ps : List Str} {sp : Sp} {E : XK}
/-- o op p, of one class, by the class's own method -/
def rMP (C : Addr) (sp : Sp) (E : XK) : R2 := fun x y H Q => ∃ a dx fs b dy gs, x = .ref a ∧ y = .ref b ∧ H a = some (.ins C dx fs) ∧ H b = some (.ins C dy gs) ∧ sp [.ref a, .ref b] H Q E
theorem v_MP {H : Hp} {Q : VK} {a b dx dy : Addr} {fs gs : List (Str × V)} (h : H a = some (.ins C dx fs)) (h2 : H b = some (.ins C dy gs)) (q : sp [.ref a, .ref b] H Q E) : rMP C sp E (.ref a) (.ref b) H Q := ⟨a, dx, fs, b, dy, gs, rfl, rfl, h, h2, q⟩
end
end Cw
set_option Elab.async false
set_option linter.all false
set_option maxRecDepth 100000
set_option maxHeartbeats 4000000
/-! x & y, x <= y of two objects of one own class -/
namespace PySem.W
open PySem PySem.Calls PyProof.Rows Builtin
section
variable {prog : Program} {w : World} {A : Around} {E : Value → Shared → Prop} {s : Shared} {K : Frag} {x y C L f : Addr} {h0 : Heap} {m : Str → Option Value} {ox oy : Obj} {od ody : Option Obj}
theorem binop_and {Q : Value → Shared → Prop} (F : Fr h0 L s.heap m) (X0 : K.In h0) (I : InstAt s.heap x ox C od) (J : InstAt s.heap y oy C ody) (hc : selfFirst K C = true)
    (hs : findIn K (.ref C) (PySem.dunder "and") = some (some (.ref f))) (hf : isFn K (.ref f) = true)
    (h : wpAny (model prog w) A (call (.ref f) [.ref x, .ref y]) (CmpBack Q) E s) : wpAny (model prog w) A (binaryOp .BitAnd (.ref x) (.ref y)) Q E s := by
  have X := X0.keeps F.keep
  obtain ⟨cd, hcd, hm⟩ := any_some hc
  obtain ⟨rest, hm⟩ : ∃ rest, cd.mro = .ref C :: rest := by
    cases q : cd.mro with
    | nil => rw [q] at hm; cases hm
    | cons a r => rw [q] at hm; exact ⟨r, by rw [List.head?_cons] at hm; cases (beq_iff_eq.mp hm); rfl⟩
  have ne : (Value.ref C == Value.ref C) = true := by simp
  unfold binaryOp
  refine wpAny_holding (wpAny_bind ?_)
  unfold binaryOp1
  refine wpAny_bind (I.type.here (wpAny_bind (J.type.here (wpAny_bind ((fills_K X hcd hm hs).here ?_)))))
  simp only [ne, if_true]
  refine wpAny_bind (wpAny_pure ?_)
  simp only [Bool.and_false, Bool.false_eq_true, if_false, Bool.false_and]
  refine wpAny_bind (wpAny_pure ?_)
  simp only [Bool.false_eq_true, if_false, if_true]
  refine wpAny_bind (m := tryMethod (.ref x) _ (.ref y)) ?_
  unfold tryMethod
  refine wpAny_bind (special_fn X I hs (beq_iff_eq.mp hf) (wpAny_mono h (fun v s' hv => ?_) fun _ _ e => e))
  cases v <;> first | exact hv.elim | exact wpAny_pure (wpAny_pure (wpAny_pure hv))
end
end PySem.W
namespace Cw
open PySem PySem.Spec L2
section
variable {X : Cx} {CX : CXT} {k : Nat} {C C' : Addr} {m : Str} {ps : List Str} {sp : Sp} {E : XK}
theorem op_andM2 (D : MDef X.prog X.w X.K X.mg X.base CX k C "__and__" ps sp) (hc : PySem.W.selfFirst X.K C = true) (hr : Room k X.A) (hx : Passes CX X E) : OpR X (binaryOp .BitAnd) (rMP C sp E) := by
  obtain ⟨f, fd, h1, h2, kp, ⟨hb, _⟩, F⟩ := D.ex
  intro pins s σ H x y v u Q I rx ry h
  obtain ⟨a, dx, fs, b, dy, gs, rfl, rfl, ha, hb', hq⟩ := h
  cases rx
  cases ry
  obtain ⟨mA, J, _⟩ := ins_get I.hok ha
  obtain ⟨od, J, _⟩ := J.look
  obtain ⟨mB, J2, _⟩ := ins_get I.hok hb'
  obtain ⟨od2, J2, _⟩ := J2.look
  obtain ⟨mm, hF⟩ := I.fr
  refine PySem.W.binop_and hF I.ok.mod.kin J J2 hc h1 h2 ?_
  have z := run_fn (us := [.ref a, .ref b]) (vs := [.ref a, .ref b]) (dvs := []) F hr hb .nil hx I (.cons rfl (.cons rfl .nil)) hq
  refine wpAny_mono z (fun v s' q => ?_) fun _ _ q => q
  obtain ⟨y, H', I', r, q⟩ := q
  have k : EP X pins σ Q v s' := ⟨y, H', I', r, q⟩
  cases v <;> first | exact k | (exfalso; cases y <;> first | (obtain ⟨_, r⟩ := r; cases r) | cases r)
end
end Cw
set_option Elab.async false
set_option linter.all false
set_option maxRecDepth 100000
set_option maxHeartbeats 4000000
/-! x in c, by c's own __contains__ -/
namespace Cw
open PySem PySem.Spec L2
section
variable {X : Cx} {CX : CXT} {k : Nat} {C : Addr} {m : Str} {ps : List Str} {sp : Sp} {E : XK}
def rMIn (C : Addr) (sp : Sp) (E : XK) (n : Bool) : R2 := fun x y H Q => ∃ a dx fs, y = .ref a ∧ H a = some (.ins C dx fs) ∧ sp [.ref a, x] H (fun v H' => ∃ b, v = .bl b ∧ Q (.bl (b != n)) H') E
theorem in_run {Q : VK} {n : Bool} (D : MDef X.prog X.w X.K X.mg X.base CX k C "__contains__" ps sp) (hr : Room k X.A) (hx : Passes CX X E) {pins : List (Addr × Obj)} {s : Shared} {σ : St} {H : Hp} {x y : V} {v u : Value} (I : Inv X pins σ H s) (rx : RelV x v) (ry : RelV y u) (h : rMIn C sp E n x y H Q) :
    wpAny (model X.prog X.w) X.A (contains u v) (fun b s' => EP X pins σ Q (.bool (b != n)) s') X.xe s := by
  obtain ⟨f, fd, h1, h2, kp, ⟨hb, _⟩, F⟩ := D.ex
  obtain ⟨a, dx, fs, rfl, ha, hq⟩ := h
  cases ry
  obtain ⟨mA, J, _⟩ := ins_get I.hok ha
  obtain ⟨od, J, _⟩ := J.look
  obtain ⟨mm, hF⟩ := I.fr
  refine PySem.W.contains_K hF I.ok.mod.kin J h1 h2 ?_
  have z := run_fn (us := [.ref a, v]) (vs := [.ref a, x]) (dvs := []) F hr hb .nil hx I (.cons rfl (.cons rx .nil)) hq
  refine wpAny_mono z (fun w s' q => ?_) fun _ _ q => q
  obtain ⟨y, H', I', r, b, rfl, q⟩ := q
  cases r
  exact wpAny_truthy_bool ⟨.bl (b != n), H', I', rfl, q⟩
theorem op_inM (D : MDef X.prog X.w X.K X.mg X.base CX k C "__contains__" ps sp) (hr : Room k X.A) (hx : Passes CX X E) : OpR X (compareOp .In) (rMIn C sp E false) := by
  intro pins s σ H x y v u Q I rx ry h
  show wpAny (model X.prog X.w) X.A (contains u v >>= fun b => pure (Value.bool b)) _ _ _
  refine wpAny_bind (wpAny_mono (in_run D hr hx I rx ry h) (fun b s' q => wpAny_pure ?_) fun _ _ q => q)
  simpa using q
theorem op_notInM (D : MDef X.prog X.w X.K X.mg X.base CX k C "__contains__" ps sp) (hr : Room k X.A) (hx : Passes CX X E) : OpR X (compareOp .NotIn) (rMIn C sp E true) := by
  intro pins s σ H x y v u Q I rx ry h
  show wpAny (model X.prog X.w) X.A (contains u v >>= fun b => pure (Value.bool (!b))) _ _ _
  refine wpAny_bind (wpAny_mono (in_run D hr hx I rx ry h) (fun b s' q => wpAny_pure ?_) fun _ _ q => q)
  simpa using q
end
section
variable {σ : St} {H : Hp} {Q : VK}
theorem v_MIn {C : Addr} {sp : Sp} {E : XK} {a dx : Addr} {fs : List (Str × V)} {x : V} {n : Bool} (h : H a = some (.ins C dx fs)) (q : sp [.ref a, x] H (fun v H' => ∃ b, v = .bl b ∧ Q (.bl (b != n)) H') E) : rMIn C sp E n x (.ref a) H Q := ⟨a, dx, fs, rfl, h, q⟩
end
end Cw
set_option Elab.async false
set_option linter.all false
set_option maxRecDepth 100000
set_option maxHeartbeats 4000000
/-! C(..) whose __init__ may raise -/
namespace Cw
open PySem PySem.Spec L2
section
variable {P : Program} {w : World} {K : PySem.W.Frag} {mg : Str → Option Value} {base : Heap} {k : Nat} {C : Addr} {x qual : Str} {ps N : List Str} {sp sp0 : Sp} {st : Stmt} {dvs : List V}
end
end Cw
set_option Elab.async false
set_option linter.all false
set_option maxRecDepth 100000
set_option maxHeartbeats 4000000
/-! defs that make lambdas: their code objects are named -/
namespace Cw
open PySem PySem.Spec L2
structure FunC (K : PySem.W.Frag) (x qual : Str) (st : Stmt) (f : Addr) (fd : FuncData) (c : Addr) : Prop where
  ex : ∃ oc od kV doc pm an ct osl, fd = PySem.W.fnOf x qual (defArgs st) (defBody st) (defScope st) .none kV doc pm an (.ref c) ct ∧ K.lookup f = some ⟨oc, od, .func fd, osl⟩ ∧ PySem.W.codeIn K (.ref c) qual = true
  kp : PySem.W.keepIn K (.ref f) = true
structure FnAtC (K : PySem.W.Frag) (mg : Str → Option Value) (x : Str) (st : Stmt) (c : Addr) : Prop where
  ex : ∃ f fd, mg x = some (.ref f) ∧ FunC K x x st f fd c
theorem FunC.fn {K : PySem.W.Frag} {x qual : Str} {st : Stmt} {f : Addr} {fd : FuncData} {c : Addr} (F : FunC K x qual st f fd c) : Fun K x qual st f fd := by
  obtain ⟨oc, od, kV, doc, pm, an, ct, osl, e, lk, hcd⟩ := F.ex
  exact ⟨⟨oc, od, kV, doc, pm, an, .ref c, ct, osl, e, lk, hcd⟩, F.kp⟩
theorem FnAtC.fn {K : PySem.W.Frag} {mg : Str → Option Value} {x : Str} {st : Stmt} {c : Addr} (F : FnAtC K mg x st c) : FnAt K mg x st := by
  obtain ⟨f, fd, hm, G⟩ := F.ex
  exact ⟨f, fd, hm, G.fn⟩
section
variable {P : Program} {w : World} {K : PySem.W.Frag} {mg : Str → Option Value} {base : Heap} {k : Nat} {x qual : Str} {ps N : List Str} {sp : Sp} {st : Stmt} {c f : Addr} {fd : FuncData}
theorem FunC.ok (F : FunC K x qual st f fd c) (S : FnScope N ps (defScope st)) (len : ∀ vs H Q E, sp vs H Q E → vs.length = ps.length)
    (hbody : ∀ (A : Around) (outer : List Env) (s : Shared) (H : Hp) (vs : List V) (Q : VK) (E : XK), Room k (A.deeper (PyProof.Rows.envOfC qual (defScope st) s.heap.objs.size f (.ref c))) → sp vs H Q E →
      ∃ t, PSs (cxOf CX0 P w K mg base N qual (defScope st) f (.ref c) A outer s H E).nox (defBody st) t ∧ t { nx := fun _ H' => Q .non H', rt := Q } (start N vs) H) : FnOk P w K mg base CX0 (k + 1) f fd ps sp := by
  obtain ⟨oc, od, kV, doc, pm, an, ct, osl, rfl, lk, hcd⟩ := F.ex
  refine fn_of lk hcd S len fun A outer s H vs Q E hr hsp => ?_
  obtain ⟨t, h, q⟩ := hbody A outer s H vs Q E hr hsp
  exact ⟨t, h.nox, q⟩
theorem FnAtC.ok (F : FnAtC K mg x st c) (S : FnScope N ps (defScope st))
    (hb : ∀ (kV doc pm : Value) (an : Option Addr) (cdv ct : Value) (us : List Value), us.length = ps.length → bindArgs (PySem.W.fnOf x x (defArgs st) (defBody st) (defScope st) .none kV doc pm an cdv ct) ⟨us, []⟩ = pure (ps.zip us))
    (len : ∀ vs H Q E, sp vs H Q E → vs.length = ps.length)
    (hbody : ∀ (f : Addr) (A : Around) (outer : List Env) (s : Shared) (H : Hp) (vs : List V) (Q : VK) (E : XK), Room k (A.deeper (PyProof.Rows.envOfC x (defScope st) s.heap.objs.size f (.ref c))) → sp vs H Q E →
      ∃ t, PSs (cxOf CX0 P w K mg base N x (defScope st) f (.ref c) A outer s H E).nox (defBody st) t ∧ t { nx := fun _ H' => Q .non H', rt := Q } (start N vs) H) : Def P w K mg base CX0 (k + 1) x ps sp := by
  obtain ⟨f, fd, hm, G⟩ := F.ex
  exact ⟨f, fd, hm, G.kp, ⟨G.fn.binds hb, funLk G.fn⟩, G.ok S len fun A outer s H vs Q E hr h => hbody f A outer s H vs Q E hr h⟩
end
/-! ### what stays behind a lambda -/
section
variable {H H' H2 : Hp} {T : List (Addr × Str)}
theorem ext_of (s : Same H H') : LamX.ExtN H H' := LamX.ExtN.of s
theorem tabs_same (t : LamX.Tabs T H) (s : Same H H') : LamX.Tabs T H' := t.ext s
theorem tabs_keep {p : Addr} {o : HO} (t : LamX.Tabs T H) (k : Keep p H H') (hp : H p = some o) (h1 : ∀ ps, o ≠ .tbl ps) (h2 : ∀ c q, o ≠ LamX.CodeO c q) : LamX.Tabs T H' := fun x hx => by
  obtain ⟨ps, e, tr, al⟩ := t x hx
  refine ⟨ps, k _ _ e (fun z => ?_), tr, fun pos cv hc => ?_⟩
  · rw [z, hp] at e
    exact h1 _ (Option.some.inj e)
  · obtain ⟨c, ec, e2⟩ := al pos cv hc
    refine ⟨c, ec, k _ _ e2 fun z => ?_⟩
    rw [z, hp] at e2
    exact h2 _ _ (Option.some.inj e2)
theorem codeO_dK {c : Addr} {q : Str} {kvs : List (Key × V)} : HO.dK kvs ≠ LamX.CodeO c q := fun z => by
  have z' : HO.dK kvs = HO.ext _ := z
  cases z'
end
end Cw
set_option Elab.async false
set_option linter.all false
set_option maxRecDepth 100000
set_option maxHeartbeats 4000000
/-! tuples of the same values, compared -/
namespace Cw
open PySem PySem.Spec PyProof.Rows L2
def Plainly (v : V) : Prop := flatB v = true ∨ ∃ r, v = .ref r
def rNeS : R2 := fun x y H Q => ∃ a b xs, x = .ref a ∧ y = .ref b ∧ H a = some (.tup xs) ∧ H b = some (.tup xs) ∧ (∀ v ∈ xs, Plainly v) ∧ Q (.bl false) H
def rEqS : R2 := fun x y H Q => ∃ a b xs, x = .ref a ∧ y = .ref b ∧ H a = some (.tup xs) ∧ H b = some (.tup xs) ∧ (∀ v ∈ xs, Plainly v) ∧ Q (.bl true) H
theorem items_at {A : Around} {s : Shared} {xs : List V} (hx : ∀ v ∈ xs, Plainly v) : ∀ {us ws : List Value}, Vals xs us → Vals xs ws → ∀ j (h1 : j < us.length) (h2 : j < ws.length), SeqAt.EqAt A s us[j] ws[j] true := by
  induction xs with
  | nil =>
    intro us ws r1 r2 j h1 h2
    cases r1
    exact absurd h1 (Nat.not_lt_zero j)
  | cons v r ih =>
    intro us ws r1 r2 j h1 h2
    cases r1 with
    | cons a1 b1 =>
      cases r2 with
      | cons a2 b2 =>
        cases j with
        | zero =>
          rcases hx v (List.mem_cons_self ..) with f | ⟨q, rfl⟩
          · exact eqAt_same a1 a2 f
          · cases (show _ = Value.ref q from a1)
            cases (show _ = Value.ref q from a2)
            exact SeqAt.EqAt.same _
        | succ j => exact ih (fun z hz => hx z (List.mem_cons_of_mem _ hz)) b1 b2 j (Nat.lt_of_succ_lt_succ h1) (Nat.lt_of_succ_lt_succ h2)
theorem all_true (n : Nat) : ((List.range n).all fun _ => true) = true := List.all_eq_true.mpr fun _ _ => rfl
theorem isTup {h : Heap} {a : Addr} {its : Array Value} (t : IsTup h a its) : h.IsTuple a its := by
  first | exact t | exact t.1 | exact t.isTuple
section
variable {X : Cx} {K : PySem.W.Frag}
theorem op_neS (hu : X.A.units + 1 < cLine) : OpR X (compareOp .NotEq) rNeS := by
  intro pins s σ H x y v u Q I rx ry h
  obtain ⟨a, b, xs, rfl, rfl, ha, hb, hx, q⟩ := h
  cases (show v = Value.ref a from rx)
  cases (show u = Value.ref b from ry)
  obtain ⟨us, r1, p1, _⟩ := I.tuple (SqT.of ha)
  obtain ⟨ws, r2, p2, _⟩ := I.tuple (SqT.of hb)
  have hsz : us.length = ws.length := r1.length.symm.trans r2.length
  refine SeqAt.RcNeAt.tuples (e := fun _ => true) (isTup p1) (isTup p2) (Nat.lt_of_succ_lt hu) (fun j h1 h2 => ?_) X.prog X.w _ _ ?_
  · have k := items_at (A := X.A.in1) (s := s) hx r1 r2 j (by simpa using h1) (by simpa using h2)
    simpa using k
  · rw [all_true, Bool.true_and, show (us.toArray.size == ws.toArray.size) = true by simp [hsz]]
    exact ⟨.bl false, H, I, rfl, q⟩
theorem op_eqS (hu : X.A.units + 1 < cLine) : OpR X (compareOp .Eq) rEqS := by
  intro pins s σ H x y v u Q I rx ry h
  obtain ⟨a, b, xs, rfl, rfl, ha, hb, hx, q⟩ := h
  cases (show v = Value.ref a from rx)
  cases (show u = Value.ref b from ry)
  obtain ⟨us, r1, p1, _⟩ := I.tuple (SqT.of ha)
  obtain ⟨ws, r2, p2, _⟩ := I.tuple (SqT.of hb)
  have hsz : us.length = ws.length := r1.length.symm.trans r2.length
  refine SeqAt.RcAt.tuples (e := fun _ => true) (isTup p1) (isTup p2) (Nat.lt_of_succ_lt hu) (fun j h1 h2 => ?_) X.prog X.w _ _ ?_
  · have k := items_at (A := X.A.in1) (s := s) hx r1 r2 j (by simpa using h1) (by simpa using h2)
    simpa using k
  · rw [all_true, Bool.true_and, show (us.toArray.size == ws.toArray.size) = true by simp [hsz]]
    exact ⟨.bl true, H, I, rfl, q⟩
end
end Cw
set_option Elab.async false
set_option linter.all false
set_option maxRecDepth 100000
set_option maxHeartbeats 4000000
/-! blocks of rooms, what the law sees of them -/
namespace Cw
section
variable {f : Nat → List Nat} {ls A B D K L N M S F W b l h t w : List Nat} {k : Nat}
theorem min_left (ok : CrOk f) {v v' e : List Nat} (mK : ∀ y ∈ K, y ∈ ls) (rv : Red f v) (rv' : Red f v') (dv : ∀ t ∈ K, ¬ desc f t v) (dv' : ∀ t ∈ K, ¬ desc f t v') (mv : ∀ y ∈ v, y ∈ ls) (mv' : ∀ y ∈ v', y ∈ ls) (he : ∀ y ∈ e, y ∈ K) (al : Alike f (e ++ v) v') : Alike f v v' ∧ Alike f e [] := by
  obtain ⟨u1, u2, _⟩ := mn_uniq (ls := ls) (A := K) (B := []) ok ⟨rv, dv, fun _ z => nomatch z⟩ ⟨rv', dv', fun _ z => nomatch z⟩ mv mv' mK (fun _ z => nomatch z) (nameOf f e) [] (name_NF ok e).red trivial (fun y hy => he y (name_mem hy)) (fun _ z => nomatch z) (fun g => by
    rw [List.append_nil, act_app, name_act ok, ← act_app]
    exact al g)
  exact ⟨u1, (name_alike ok e).symm.trans u2⟩
/-- what the law strips of a walk -/
structure Strip (f : Nat → List Nat) (K w b l : List Nat) : Prop where
  sb : ∀ c ∈ b, c ∈ K
  sl : l = nameOf f (b.reverse ++ w)
  no : ∀ t ∈ K, ¬ desc f t l
theorem Strip.al (ok : CrOk f) (s : Strip f K w b l) : Alike f w (b ++ l) := fun g => by
  rw [s.sl, act_app, name_act ok, act_app, act_rev' ok]
theorem Strip.nf (ok : CrOk f) (s : Strip f K w b l) : NF f l := by
  rw [s.sl]
  exact name_NF ok _
theorem Strip.mem (s : Strip f K w b l) (mK : ∀ y ∈ K, y ∈ ls) (mw : ∀ y ∈ w, y ∈ ls) : ∀ y ∈ l, y ∈ ls := fun y hy => by
  rw [s.sl] at hy
  exact (List.mem_append.mp (name_mem hy)).elim (fun z => mK y (s.sb y (List.mem_reverse.mp z))) (mw y)
theorem Strip.uniq (ok : CrOk f) (mK : ∀ y ∈ K, y ∈ ls) (mw : ∀ y ∈ w, y ∈ ls) (s : Strip f K w b l) {c r : List Nat} (al : Alike f w (c ++ r)) (hc : ∀ y ∈ c, y ∈ K) (rr : Red f r) (dr : ∀ t ∈ K, ¬ desc f t r) (mr : ∀ y ∈ r, y ∈ ls) : Alike f l r ∧ Alike f b c := by
  obtain ⟨u1, u2⟩ := min_left (ls := ls) (e := c.reverse ++ b) ok mK (s.nf ok).red rr s.no dr (s.mem mK mw) mr (fun y hy => (List.mem_append.mp hy).elim (fun z => hc y (List.mem_reverse.mp z)) (s.sb y)) fun g => by
    rw [List.append_assoc, act_app, ← s.al ok, al, act_app, act_rev ok]
  refine ⟨u1, fun g => ?_⟩
  have z := u2 g
  rw [act_app] at z
  have z2 := act_rev' ok c (act f b g)
  rw [z] at z2
  exact z2.symm
theorem split_facts (ok : CrOk f) {x : List Nat} (hx : Red f x) (mx : ∀ y ∈ x, y ∈ ls) : (∀ y ∈ (splitA f K x).1, y ∈ K) ∧ (∀ y ∈ (splitA f K x).1, y ∈ x) ∧ (∀ y ∈ (splitA f K x).2, y ∈ x) ∧ Alike f ((splitA f K x).1 ++ (splitA f K x).2) x ∧ Red f (splitA f K x).2 ∧ ∀ t ∈ K, ¬ desc f t (splitA f K x).2 := by
  have al : Alike f ((splitA f K x).1 ++ (splitA f K x).2) x := fun g => splitA_act ok g x K
  refine ⟨splitA_in f x K, splitA_mem1 f x K, splitA_mem2 f x K, al, ?_, splitA_desc ok x K⟩
  exact Red_right (Alike.red (ls := ls) ok al mx hx (by rw [List.length_append]; exact splitA_len f x K))
/-- the first room of a block, from any of its rooms -/
theorem base_from (ok : CrOk f) (K F : List Nat) : ∃ u, (∀ c ∈ u, c ∈ K) ∧ Alike f (baseC f K (nameOf f F)) (F ++ u) := by
  obtain ⟨e, he, _, ae, _⟩ := base_spec ok K (nameOf f F)
  refine ⟨e.reverse, fun c hc => he c (List.mem_reverse.mp hc), fun g => ?_⟩
  rw [act_app, ← name_act ok F, ← ae, act_app, act_rev' ok]
theorem base_in (mF : ∀ y ∈ F, y ∈ ls) : ∀ y ∈ baseC f K (nameOf f F), y ∈ ls := fun y hy => mF y (name_mem (base_mem y hy))
theorem base_nf (ok : CrOk f) : NF f (baseC f K (nameOf f F)) := base_NF (name_NF ok F)
/-- a room is in a block just if a walk along its kinds leads there -/
theorem in_iff (ok : CrOk f) (mK : ∀ y ∈ K, y ∈ ls) (mF : ∀ y ∈ F, y ∈ ls) {r : List Nat} (nr : NF f r) (mr : ∀ y ∈ r, y ∈ ls) : baseC f K r = baseC f K (nameOf f F) ↔ ∃ e, (∀ c ∈ e, c ∈ K) ∧ Alike f r (F ++ e) := by
  rw [base_iff (ls := ls) ok nr (name_NF ok F) mr (fun y hy => mF y (name_mem hy)) mK]
  constructor <;> rintro ⟨e, he, al⟩ <;> refine ⟨e, he, al.trans fun g => ?_⟩ <;> rw [act_app, act_app, name_act ok]
theorem strip_nil (ok : CrOk f) (mK : ∀ y ∈ K, y ∈ ls) (mF : ∀ y ∈ F, y ∈ ls) (mW : ∀ y ∈ W, y ∈ ls) (s : Strip f K (F.reverse ++ W) b l) : baseC f K (nameOf f W) = baseC f K (nameOf f F) ↔ l = [] := by
  have mw : ∀ y ∈ F.reverse ++ W, y ∈ ls := fun y hy => (List.mem_append.mp hy).elim (fun z => mF y (List.mem_reverse.mp z)) (mW y)
  rw [in_iff (ls := ls) ok mK mF (name_NF ok W) fun y hy => mW y (name_mem hy)]
  constructor
  · rintro ⟨e, he, al⟩
    obtain ⟨u1, _⟩ := s.uniq (ls := ls) (c := e) (r := []) ok mK mw (fun g => by
      rw [List.append_nil, act_app, ← name_act ok W, al, act_app, act_rev ok]) he trivial (fun t ht z => z) (fun _ z => nomatch z)
    exact u1.nf ok (s.nf ok) NF_nil
  · rintro rfl
    refine ⟨b, s.sb, fun g => ?_⟩
    have z := s.al ok g
    rw [List.append_nil, act_app] at z
    rw [name_act ok, act_app, ← z, act_rev' ok]
/-- the room of a block that is nearest to another room -/
theorem near_strip (ok : CrOk f) (mK : ∀ y ∈ K, y ∈ ls) (mF : ∀ y ∈ F, y ∈ ls) (mW : ∀ y ∈ W, y ∈ ls) (s : Strip f K (F.reverse ++ W) b l) : nameOf f (baseC f K (nameOf f F) ++ (splitA f K (wayC f (baseC f K (nameOf f F)) (nameOf f W))).1) = nameOf f (F ++ b) := by
  have mw : ∀ y ∈ F.reverse ++ W, y ∈ ls := fun y hy => (List.mem_append.mp hy).elim (fun z => mF y (List.mem_reverse.mp z)) (mW y)
  obtain ⟨u, hu, au⟩ := base_from ok K F
  have mn : ∀ y ∈ baseC f K (nameOf f F), y ∈ ls := base_in mF
  generalize baseC f K (nameOf f F) = n at *
  have mx : ∀ y ∈ wayC f n (nameOf f W), y ∈ ls := way_in25 mn fun y hy => mW y (name_mem hy)
  have ax := way_alike ok n (nameOf f W)
  obtain ⟨p1, p2, p3, p4, p5, p6⟩ := split_facts (ls := ls) (K := K) ok (show Red f (wayC f n (nameOf f W)) from (name_NF ok _).red) mx
  generalize wayC f n (nameOf f W) = x at *
  generalize (splitA f K x).1 = c at *
  generalize (splitA f K x).2 = r at *
  obtain ⟨_, u2⟩ := s.uniq (ls := ls) (c := u ++ c) (r := r) ok mK mw (fun g => by
    rw [List.append_assoc, act_app u, p4, ax, act_app n.reverse, name_act ok, act_app, au.rev ok, List.reverse_append, act_app, act_rev' ok]) (fun y hy => (List.mem_append.mp hy).elim (hu y) (p1 y)) p5 p6 fun y hy => mx y (p3 y hy)
  exact Alike.name ok fun g => by
    rw [act_app, au, act_app, act_app, u2, act_app]
/-- two blocks -/
theorem met_iff (ok : CrOk f) (mK : ∀ y ∈ K, y ∈ ls) (mL : ∀ y ∈ L, y ∈ ls) (mF : ∀ y ∈ F, y ∈ ls) (mS : ∀ y ∈ S, y ∈ ls) (s : Strip f K (F.reverse ++ S) b l) {r : List Nat}
    (er : r = nameOf f (baseC f L (nameOf f S) ++ (splitA f L (wayC f (baseC f L (nameOf f S)) (baseC f K (nameOf f F)))).1)) :
    (∃ y, (∀ c ∈ y, c ∈ L) ∧ Alike f r (S ++ y)) ∧ (baseC f K r = baseC f K (nameOf f F) ↔ ∀ c ∈ l, c ∈ L) := by
  have mw : ∀ y ∈ F.reverse ++ S, y ∈ ls := fun y hy => (List.mem_append.mp hy).elim (fun z => mF y (List.mem_reverse.mp z)) (mS y)
  obtain ⟨u, hu, au⟩ := base_from ok K F
  obtain ⟨v, hv, av⟩ := base_from ok L S
  have mn : ∀ y ∈ baseC f K (nameOf f F), y ∈ ls := base_in mF
  have mm : ∀ y ∈ baseC f L (nameOf f S), y ∈ ls := base_in mS
  have key := fun {r : List Nat} (nr : NF f r) (mr : ∀ y ∈ r, y ∈ ls) => in_iff (ls := ls) ok mK mF nr mr
  generalize baseC f K (nameOf f F) = n at *
  generalize baseC f L (nameOf f S) = m at *
  have mx : ∀ y ∈ wayC f m n, y ∈ ls := way_in25 mm mn
  have ax := way_alike ok m n
  obtain ⟨p1, p2, p3, p4, p5, p6⟩ := split_facts (ls := ls) (K := L) ok (show Red f (wayC f m n) from (name_NF ok _).red) mx
  generalize wayC f m n = x at *
  generalize (splitA f L x).1 = c at *
  generalize (splitA f L x).2 = r2 at *
  have ar : Alike f r (S ++ (v ++ c)) := fun g => by rw [er, name_act ok, act_app, av, act_app, act_app, act_app]
  have nr : NF f r := by rw [er]; exact name_NF ok _
  have mr : ∀ y ∈ r, y ∈ ls := fun y hy => by
    rw [er] at hy
    exact (List.mem_append.mp (name_mem hy)).elim (mm y) fun z => mL y (p1 y z)
  refine ⟨⟨v ++ c, fun y hy => (List.mem_append.mp hy).elim (hv y) (p1 y), ar⟩, ?_⟩
  rw [key nr mr]
  constructor
  · rintro ⟨e, he, al⟩
    have hy : ∀ y ∈ nameOf f (v ++ c).reverse, y ∈ L := fun y hy => by
      have := List.mem_reverse.mp (name_mem hy)
      exact (List.mem_append.mp this).elim (hv y) (p1 y)
    obtain ⟨q1, q2, q3, q4, q5, q6⟩ := split_facts (ls := ls) (K := K) ok (name_NF ok (v ++ c).reverse).red fun y z => mL y (hy y z)
    obtain ⟨u1, _⟩ := s.uniq (ls := ls) (c := e ++ (splitA f K (nameOf f (v ++ c).reverse)).1) (r := (splitA f K (nameOf f (v ++ c).reverse)).2) ok mK mw (fun g => by
      rw [List.append_assoc, act_app e, q4, name_act ok, act_app]
      have z := ar (act f (v ++ c).reverse g)
      rw [al, act_app, act_app S, act_rev' ok] at z
      rw [← z, act_rev ok]) (fun y hy => (List.mem_append.mp hy).elim (he y) (q1 y)) q5 q6 fun y z => mL y (hy y (q3 y z))
    intro c' hc'
    have e1 : l = nameOf f l := ((is_NF ok).mpr (s.nf ok)).symm
    rw [e1, u1.name ok] at hc'
    exact hy c' (q3 c' (name_mem hc'))
  · intro hl
    have hy : ∀ y ∈ nameOf f (b.reverse ++ u), y ∈ K := fun y hy => (List.mem_append.mp (name_mem hy)).elim (fun z => s.sb y (List.mem_reverse.mp z)) (hu y)
    obtain ⟨q1, q2, q3, q4, q5, q6⟩ := split_facts (ls := ls) (K := L) ok (name_NF ok (b.reverse ++ u)).red fun y z => mK y (hy y z)
    generalize (splitA f L (nameOf f (b.reverse ++ u))).1 = d1 at *
    generalize (splitA f L (nameOf f (b.reverse ++ u))).2 = d2 at *
    have sal := s.al ok
    have ex : Alike f x (v.reverse ++ (l.reverse ++ (d1 ++ d2))) := fun g => by
      rw [ax, act_app, av.rev ok, List.reverse_append, act_app v.reverse, act_app, act_app l.reverse, q4, name_act ok, act_app, au, act_app]
      have z := sal.rev ok (act f u g)
      rw [List.reverse_append, List.reverse_append, List.reverse_reverse, act_app, act_app] at z
      rw [z]
    obtain ⟨u1, _⟩ := min_left (ls := ls) (K := L) (v := r2) (v' := d2) (e := (v.reverse ++ (l.reverse ++ d1)).reverse ++ c) ok mL p5 q5 p6 q6 (fun y hy => mx y (p3 y hy)) (fun y z => mK y (hy y (q3 y z))) (fun y hy => by
      rcases List.mem_append.mp hy with z | z
      · rcases List.mem_append.mp (List.mem_reverse.mp z) with z | z
        · exact hv y (List.mem_reverse.mp z)
        · exact (List.mem_append.mp z).elim (fun z => hl y (List.mem_reverse.mp z)) (q1 y)
      · exact p1 y z) fun g => by
        rw [List.append_assoc, act_app, p4, ex, act_app v.reverse, act_app l.reverse, act_app d1, ← act_app l.reverse, ← act_app v.reverse, act_rev ok]
    refine ⟨u ++ d2.reverse, fun y hy' => (List.mem_append.mp hy').elim (hu y) fun z => hy y (q3 y (List.mem_reverse.mp z)), fun g => ?_⟩
    have z1 := ax (act f d2.reverse g)
    rw [← p4, act_app, u1, act_rev' ok, act_app m.reverse] at z1
    rw [er, name_act ok, act_app, z1, act_rev' ok, au, act_app, act_app, act_app]
theorem met_only (ok : CrOk f) (s : Strip f K (F.reverse ++ S) b l) (hl : ∀ c ∈ l, c ∈ L) (hD : ∀ c, c ∈ D ↔ c ∈ K ∧ c ∈ L) {r e y : List Nat} (he : ∀ c ∈ e, c ∈ K) (ae : Alike f r (F ++ e)) (hy : ∀ c ∈ y, c ∈ L) (ay : Alike f r (S ++ y)) :
    ∀ c ∈ nameOf f ((baseC f D r).reverse ++ (F ++ b)), c ∈ D := by
  obtain ⟨e', he', _, ae', _⟩ := base_spec ok D r
  have z1 : ∀ c ∈ nameOf f (r.reverse ++ (F ++ b)), c ∈ K := only_of ok (y := e.reverse ++ b) (fun g => by
    rw [act_app, ae.rev ok, List.reverse_append, act_app, act_app F, act_rev ok, act_app]) fun c hc => (List.mem_append.mp hc).elim (fun z => he c (List.mem_reverse.mp z)) (s.sb c)
  have z2 : ∀ c ∈ nameOf f (r.reverse ++ (F ++ b)), c ∈ L := only_of ok (y := y.reverse ++ l.reverse) (fun g => by
    have z := s.al ok (act f l.reverse g)
    rw [act_app b, act_rev' ok, act_app] at z
    rw [act_app, ay.rev ok, List.reverse_append, act_app, act_app F, ← z, act_rev' ok, act_rev ok, act_app]) fun c hc => (List.mem_append.mp hc).elim (fun z => hy c (List.mem_reverse.mp z)) fun z => hl c (List.mem_reverse.mp z)
  refine only_of ok (y := e' ++ nameOf f (r.reverse ++ (F ++ b))) (fun g => ?_) fun c hc => (List.mem_append.mp hc).elim (he' c) fun z => (hD c).mpr ⟨z1 c z, z2 c z⟩
  rw [act_app e', name_act ok, act_app r.reverse, act_app, ← act_rev ok (baseC f D r) (act f e' (act f r.reverse (act f (F ++ b) g))), ← act_app (baseC f D r) e', ae', act_rev' ok]
theorem le_iff (ok : CrOk f) (mK : ∀ y ∈ K, y ∈ ls) (mL : ∀ y ∈ L, y ∈ ls) (mF : ∀ y ∈ F, y ∈ ls) (mS : ∀ y ∈ S, y ∈ ls) (s : Strip f K (F.reverse ++ S) b l) (hKL : ∀ c ∈ K, c ∈ L) : baseC f L (baseC f K (nameOf f F)) = baseC f L (nameOf f S) ↔ ∀ c ∈ l, c ∈ L := by
  obtain ⟨u, hu, au⟩ := base_from ok K F
  rw [in_iff (ls := ls) ok mL mS (base_nf ok) (base_in mF)]
  generalize baseC f K (nameOf f F) = n at *
  constructor
  · rintro ⟨e, he, ae⟩
    rw [s.sl]
    refine only_of ok (y := b.reverse ++ (u ++ e.reverse)) (fun g => ?_) fun c hc => ?_
    · have z := (au.symm.trans ae) (act f e.reverse g)
      rw [act_app S, act_rev' ok, act_app F] at z
      rw [act_app, act_app F.reverse, ← z, act_rev ok, act_app, act_app]
    · rcases List.mem_append.mp hc with z | z
      · exact hKL c (s.sb c (List.mem_reverse.mp z))
      · exact (List.mem_append.mp z).elim (fun z => hKL c (hu c z)) fun z => he c (List.mem_reverse.mp z)
  · intro hl
    refine ⟨l.reverse ++ (b.reverse ++ u), fun c hc => ?_, fun g => ?_⟩
    · rcases List.mem_append.mp hc with z | z
      · exact hl c (List.mem_reverse.mp z)
      · exact (List.mem_append.mp z).elim (fun z => hKL c (s.sb c (List.mem_reverse.mp z))) fun z => hKL c (hu c z)
    · have z := s.al ok (act f l.reverse (act f (b.reverse ++ u) g))
      rw [act_app b, act_rev' ok, act_app b.reverse, act_rev' ok, act_app] at z
      have z3 := congrArg (act f F) z
      rw [act_rev' ok] at z3
      rw [au, act_app F, act_app S, act_app l.reverse, act_app b.reverse]
      exact z3.symm
/-- a block as the law asks -/
theorem block_only (ok : CrOk f) (K F : List Nat) : ∀ c ∈ nameOf f ((baseC f K (nameOf f F)).reverse ++ F), c ∈ K := by
  obtain ⟨e, he, _, ae, _⟩ := base_spec ok K (nameOf f F)
  refine only_of ok (y := e) (fun g => ?_) he
  rw [act_app, ← name_act ok F, ← ae, act_app, act_rev ok]
theorem listed_only (ok : CrOk f) (K F : List Nat) {T : List Nat} (hT : ∀ c ∈ T, c ∈ K) : ∀ c ∈ nameOf f (F.reverse ++ nameOf f (baseC f K (nameOf f F) ++ T)), c ∈ K := by
  obtain ⟨u, hu, au⟩ := base_from ok K F
  refine only_of ok (y := u ++ T) (fun g => ?_) fun c hc => (List.mem_append.mp hc).elim (hu c) (hT c)
  rw [act_app, name_act ok, act_app, au, act_app, act_rev ok, act_app]
theorem base_self (ok : CrOk f) (mK : ∀ y ∈ K, y ∈ ls) (mF : ∀ y ∈ F, y ∈ ls) : baseC f K (baseC f K (nameOf f F)) = baseC f K (nameOf f F) := by
  obtain ⟨u, hu, au⟩ := base_from ok K F
  exact (in_iff (ls := ls) ok mK mF (base_nf ok) (base_in mF)).mpr ⟨u, hu, au⟩
/-! ### the rooms listed -/
theorem subs_sub : ∀ K : List Nat, ∀ T ∈ subsL K, T.Sublist K := by
  refine snocRec (fun T hT => ?_) fun K k ih T hT => ?_
  · have : T = [] := by simpa [subsL] using hT
    exact this ▸ List.Sublist.refl _
  · rw [subs_snoc] at hT
    rcases List.mem_append.mp hT with z | z
    · exact (ih T z).trans (List.sublist_append_left _ _)
    · obtain ⟨T0, z0, rfl⟩ := List.mem_map.mp z
      exact (ih T0 z0).append (List.Sublist.refl _)
theorem subs_nodup : ∀ K : List Nat, K.Nodup → (subsL K).Nodup := by
  refine snocRec (fun _ => by simp [subsL]) fun K k ih hK => ?_
  rw [subs_snoc]
  rw [List.nodup_append] at hK
  obtain ⟨h1, _, h3⟩ := hK
  rw [List.nodup_append]
  refine ⟨ih h1, ?_, fun T hT U hU e => ?_⟩
  · exact List.Pairwise.map _ (fun a b (ne : a ≠ b) e => ne (List.append_cancel_right e)) (ih h1)
  · obtain ⟨U0, z0, rfl⟩ := List.mem_map.mp hU
    have : k ∈ K := (subs_sub K T hT).subset (by rw [e]; exact List.mem_append_right _ (.head _))
    exact h3 k this k (.head _) rfl
theorem sub_ext : ∀ {K T U : List Nat}, K.Nodup → T.Sublist K → U.Sublist K → (∀ c, c ∈ T ↔ c ∈ U) → T = U
  | [], T, U, _, a, b, _ => by
    rw [List.sublist_nil.mp a, List.sublist_nil.mp b]
  | k :: K, T, U, nK, a, b, h => by
    obtain ⟨hk, nK'⟩ := List.nodup_cons.mp nK
    cases a with
    | cons _ a =>
      have hT : ¬ k ∈ T := fun z => hk (a.subset z)
      cases b with
      | cons _ b => exact sub_ext nK' a b h
      | cons_cons _ b => exact absurd ((h k).mpr (.head _)) hT
    | cons_cons _ a =>
      cases b with
      | cons _ b => exact absurd (b.subset ((h k).mp (.head _))) hk
      | cons_cons _ b =>
        rename_i T' U'
        rw [sub_ext nK' a b fun c => ⟨fun z => ?_, fun z => ?_⟩]
        · rcases List.mem_cons.mp ((h c).mp (.tail _ z)) with e | e
          · exact absurd (e ▸ a.subset z) hk
          · exact e
        · rcases List.mem_cons.mp ((h c).mpr (.tail _ z)) with e | e
          · exact absurd (e ▸ b.subset z) hk
          · exact e
theorem names_nodup (ok : CrOk f) (cl : Cliq f K) (nK : K.Nodup) (mK : ∀ y ∈ K, y ∈ ls) (n : List Nat) : ((subsL K).map fun T => nameOf f (n ++ T)).Nodup := by
  refine List.pairwise_map.mpr ((subs_nodup K nK).imp_of_mem fun {T U} hT hU ne e => ne ?_)
  have sT := subs_sub K T hT
  have sU := subs_sub K U hU
  have al : Alike f T U := fun g => by
    have z : Alike f (n ++ T) (n ++ U) := (name_alike ok _).symm.trans (by rw [e]; exact name_alike ok _)
    have z2 := z g
    rw [act_app, act_app] at z2
    have z3 := act_rev ok n (act f T g)
    rw [z2, act_rev ok] at z3
    exact z3.symm
  exact sub_ext nK sT sU fun c => ⟨fun z => cliq_sub (ls := ls) ok cl mK (nK.sublist sT) (fun t ht => sT.subset ht) (fun t ht => mK t (sU.subset ht)) al c z, fun z => cliq_sub (ls := ls) ok cl mK (nK.sublist sU) (fun t ht => sU.subset ht) (fun t ht => mK t (sT.subset ht)) al.symm c z⟩
end
end Cw
set_option Elab.async false
set_option linter.all false
set_option maxRecDepth 100000
set_option maxHeartbeats 4000000
/-! a try with one clause and no name for the exception -/
namespace Cw
open PySem PySem.Spec L2
end Cw
set_option Elab.async false
set_option linter.all false
set_option maxRecDepth 100000
set_option maxHeartbeats 4000000
/-! len of a dict -/
namespace Cw
open PySem PySem.Spec L2
end Cw
set_option Elab.async false
set_option linter.all false
set_option maxRecDepth 100000
set_option maxHeartbeats 4000000
/-! a comprehension over a dict's keys, the dict locked meanwhile -/
namespace Cw
open PySem PySem.Spec L2
/-- all but d stands as it stood; d is locked -/
structure Lk (d : Addr) (u : HO) (H H' : Hp) : Prop where
  at' : ∃ od, H' d = some (.frz od u)
  oth : ∀ b o, H b = some o → b ≠ d → H' b = some o
theorem Lk.same {d : Addr} {u : HO} {H H' H2 : Hp} (h : Lk d u H H') (s : Same H' H2) : Lk d u H H2 := ⟨h.at'.elim fun od e => ⟨od, s _ _ e⟩, fun b o e n => s _ _ (h.oth b o e n)⟩
theorem v_lockLc {σ : St} {H : Hp} {Q : VK} {i : Nat} {td : TE} {tt : TT} {te : TE} {d : Addr} {ls : List Nat} {g : Nat → V} {b : Nat → Bool} {f : Nat → V} (h : H d = some (.dK (ls.map fun c => ((Sum.inr (tx [c]) : Key), g c)))) (hn : ls.length ≤ 1000000)
    (htd : ∀ H1, ∀ R : VK, R (.ref d) H1 → td σ H1 R)
    (ht : ∀ c ∈ ls, ∀ H1, Lk d (.dK (ls.map fun c => ((Sum.inr (tx [c]) : Key), g c))) H H1 → ∀ R : Bool → Hp → Prop, (∀ H2, Same H1 H2 → R (b c) H2) → tt ((wipe σ [i]).set i (some (.str (tx [c])))) H1 R)
    (he : ∀ c ∈ ls, b c = true → ∀ H1, Lk d (.dK (ls.map fun c => ((Sum.inr (tx [c]) : Key), g c))) H H1 → ∀ R : VK, (∀ H2, Same H1 H2 → R (f c) H2) → te ((wipe σ [i]).set i (some (.str (tx [c])))) H1 R)
    (q : ∀ D H', H D = none → Same H H' → H' D = some (.lst ((ls.filter b).map f)) → Q (.ref D) H') : tLockE (tLc (iKeys td) (gName i) tt te [i]) σ H Q := by
  refine ⟨d, _, h, trivial, fun od => ?_⟩
  have lk0 : Lk d (.dK (ls.map fun c => ((Sum.inr (tx [c]) : Key), g c))) H (upd H d (.frz od (.dK (ls.map fun c => ((Sum.inr (tx [c]) : Key), g c))))) := ⟨⟨od, upd_same⟩, fun b o e n => by rw [upd_ne n]; exact e⟩
  refine e_lc ?_
  refine e_iK ?_
  refine htd _ _ ?_
  refine ⟨d, od, rfl, .inl ⟨_, upd_same, ?_⟩⟩
  refine vals_some (ls := ls) (it := fun c => V.str (tx [c])) (f := f) (b := b) walk_let (fun H' s' => s' _ _ upd_same) hn (fun e he' H7 s7 Rk r => ht e he' H7 (lk0.same s7) Rk r) (fun e he' hb H7 s7 Rk r => he e he' hb H7 (lk0.same s7) Rk r) (fun D H7 hD s7 e7 => ?_)
  have nD : D ≠ d := fun z => by rw [z, upd_same] at hD; cases hD
  refine ⟨s7 _ _ upd_same, q D _ (by rw [upd_ne nD] at hD; exact hD) (fun b o hb => ?_) (by rw [upd_ne nD]; exact e7)⟩
  by_cases e : b = d
  · rw [e, upd_same, ← hb, e, h]
  · rw [upd_ne e]
    exact s7 _ _ (lk0.oth b o hb e)
end Cw
set_option Elab.async false
set_option linter.all false
set_option maxRecDepth 100000
set_option maxHeartbeats 4000000
/-! sets of texts that can be walked: set(a list of texts), sorted(set(..)) -/
namespace Cw
open PySem PySem.Spec L2 PyProof.Rows SrtO
def strK (e : Int × Value) : Str := match e.2 with | .str x _ => x | _ => Str.empty
def GoodS (P : Program) (w : World) (e : Int × Value) : Prop := ∃ x t, e.2 = Value.str x t ∧ e.1 = (PySem.strKind P w).hash x
/-- the set at a holds just the texts of l, each once -/
def SetS (P : Program) (w : World) (h : Heap) (a : Addr) (l : List Str) : Prop :=
  ∃ o es ep t, h.get? a = some o ∧ o.ExactSet ∧ o.data = .set es ep t ∧ (∀ e ∈ es.toList, GoodS P w e) ∧ (es.toList.map strK).Perm l ∧ l.Nodup ∧
    es.size < scanBound ∧ t.fits es.size = true ∧ Ris t.place.toList ∧ (w.params.followText "set-order" = true ∨ t.led = true)
section
variable {P : Program} {w : World} {h h' : Heap} {a : Addr} {l : List Str}
theorem SetS.at (R : SetS P w h a l) (k : ∀ o, h.get? a = some o → h'.get? a = some o) : SetS P w h' a l := by
  obtain ⟨o, es, ep, t, ho, r⟩ := R
  exact ⟨o, es, ep, t, k o ho, r⟩
theorem goodS_elems {es : List (Int × Value)} (g : ∀ e ∈ es, GoodS P w e) : ElemsOf (PySem.strKind P w) es := fun e he => by
  obtain ⟨k, tk, h1, h2⟩ := g e he
  exact ⟨⟨k, by rw [h1]; exact strKind_is P w k tk, h2⟩, by rw [h1] <;> rfl⟩
theorem goodS_is {e : Int × Value} (g : GoodS P w e) (k : Str) : (PySem.strKind P w).is k e.2 = true ↔ strK e = k := by
  obtain ⟨k0, tk, h1, _⟩ := g
  unfold strK
  rw [h1]
  show ((k0 == k) = true) ↔ k0 = k
  exact beq_iff_eq
theorem goodS_mem {es : List (Int × Value)} (g : ∀ e ∈ es, GoodS P w e) (k : Str) : k ∈ es.map strK ↔ ∃ e ∈ es, (PySem.strKind P w).is k e.2 = true := by
  rw [List.mem_map]
  constructor
  · rintro ⟨e, he, q⟩
    exact ⟨e, he, (goodS_is (g e he) k).2 q⟩
  · rintro ⟨e, he, q⟩
    exact ⟨e, he, (goodS_is (g e he) k).1 q⟩
end
section
variable {P : Program} {w : World} {A : Around} {E : Value → Shared → Prop} {s : Shared} {a : Addr} {l : List Str}
theorem setS_add_tail {g : Bool → Sem Unit} (hg : ∀ (b : Bool) (s₁ : Shared) (Q' : Unit → Shared → Prop), Q' () s₁ → wpAny (model P w) A (g b) Q' E s₁)
    {o : Obj} {es : Array (Int × Value)} {ep : Nat} {t : SetTable} (ho : s.heap.get? a = some o) (hex : o.ExactSet) (hd : o.data = .set es ep t)
    {es1 : Array (Int × Value)} {t2 : SetTable} {l' : List Str} (g1 : ∀ e ∈ es1.toList, GoodS P w e) (pl : (es1.toList.map strK).Perm l') (nd1 : l'.Nodup)
    (hb1 : es1.size < scanBound) (hf2 : t2.fits es1.size = true) (hr : Ris t2.place.toList) (hl : w.params.followText "set-order" = true ∨ t2.led = true) {wasDummy : Bool} {R : Option Bool → Shared → Prop}
    (hR : ∀ h', Heap.SameBut a s.heap h' → SetS P w h' a l' → R (some true) { s with heap := h' }) :
    wpAny (model P w) A (do
        storeSet a es1 t2
        if (!wasDummy && t2.tooFull) = true then do
            g (relayAll t2 es1 (SetTable.grown es1.size)).2.2
            storeSet a (relayAll t2 es1 (SetTable.grown es1.size)).1 (relayAll t2 es1 (SetTable.grown es1.size)).2.1
            pure (some true)
          else pure (some true)) R E s := by
  refine wpAny_bind (wpAny_storeSet_of ho hd ?_ (fits_of_scanBound hb1))
  have ho1 := store_at (es' := es1) (t' := t2) ho hd
  have sb1 := Heap.SameBut.update s.heap a (Obj.putSet es1 t2)
  split
  · have pm := relayAll_perm t2 es1 (SetTable.grown es1.size)
    have hf3 := relayAll_fits t2 es1 (SetTable.grown es1.size)
    have hr3 := relayAll_ris t2 es1 (SetTable.grown es1.size)
    have hl3 := relayAll_led t2 es1 (SetTable.grown es1.size)
    generalize relayAll t2 es1 (SetTable.grown es1.size) = Z at pm hf3 hr3 hl3 ⊢
    obtain ⟨es2, t3, gave⟩ := Z
    dsimp only at pm hf3 hr3 hl3 ⊢
    have hsz : es2.size = es1.size := by rw [← Array.length_toList, pm.length_eq, Array.length_toList]
    have hb2 : es2.size < scanBound := by rw [hsz]; exact hb1
    refine wpAny_bind (hg _ _ _ ?_)
    refine wpAny_bind (wpAny_storeSet_of ho1 rfl ?_ (fits_of_scanBound hb2))
    have ho2 := store_at (es' := es2) (t' := t3) ho1 rfl
    refine wpAny_pure (hR _ (sb1.trans (Heap.SameBut.update _ a _)) ?_)
    exact ⟨_, es2, _, t3, ho2, hex, rfl, fun e he => g1 e (pm.mem_iff.mp he), (pm.map strK).trans pl, nd1, hb2, hf3, hr3, hl.imp id fun z => by rw [hl3]; exact z⟩
  · exact wpAny_pure (hR _ sb1 ⟨_, es1, _, t2, ho1, hex, rfl, g1, pl, nd1, hb1, hf2, hr, hl⟩)
theorem setS_add_hashed {k : Str} {tk : Tok} {Q : Bool → Shared → Prop} (R : SetS P w s.heap a l) (room : l.length + 1 < scanBound)
    (hQ : ∀ h' b, Heap.SameBut a s.heap h' → SetS P w h' a (metAdd l k) → Q b { s with heap := h' }) :
    wpAny (model P w) A (setAddHashed a (.str k tk) ((PySem.strKind P w).hash k)) Q E s := by
  obtain ⟨o, es, ep, t, ho, hex, hd, g, pl, nd, hb, hf, hr, hl⟩ := R
  have hkey : (PySem.strKind P w).is k (.str k tk) = true := strKind_is P w k tk
  have hsc : (Value.str k tk).scannable = true := rfl
  have hel : ElemsOf (PySem.strKind P w) es.toList := goodS_elems g
  unfold setAddHashed setAddHashedIn
  refine wpAny_holding (wpAny_bind (wpAny_setState_of ho hd hf ?_))
  dsimp only
  rw [byScan_of hsc hb hel]
  simp only [↓reduceIte]
  unfold setAddByScan
  refine wpAny_bind ?_
  refine wpAny_bind (wpAny_rule ?_)
  refine wpAny_bind (wpAny_setScan_of hkey ho hd hf hel ?_)
  cases hfi : List.findIdx? (fun e => (PySem.strKind P w).is k e.2) es.toList with
  | some j =>
    dsimp only
    obtain ⟨hj, pj, _⟩ := List.findIdx?_eq_some_iff_getElem.mp hfi
    have hk : k ∈ l := pl.mem_iff.mp ((goodS_mem (P := P) (w := w) g k).2 ⟨es.toList[j], List.getElem_mem hj, pj⟩)
    refine wpAny_pure (wpAny_pure ?_)
    refine hQ s.heap _ (Heap.SameBut.refl a s.heap) ⟨o, es, ep, t, ho, hex, hd, g, ?_, ?_, hb, hf, hr, hl⟩
    · unfold metAdd
      rw [if_pos hk]
      exact pl
    · unfold metAdd
      rw [if_pos hk]
      exact nd
  | none =>
    dsimp only
    have hnk : k ∉ es.toList.map strK := fun z => by
      obtain ⟨e, he, q⟩ := (goodS_mem (P := P) (w := w) g k).1 z
      have c := List.findIdx?_eq_none_iff.mp hfi e he
      rw [q] at c
      cases c
    have hkl : k ∉ l := fun z => hnk (pl.mem_iff.mpr z)
    have hgw : ∀ (b : Bool) {s₁ : Shared} {Q' : Unit → Shared → Prop}, Q' () s₁ → wpAny (model P w) A (match b with | true => rule "set.scan.the-table-gave-way" | false => pure ()) Q' E s₁ :=
      fun b s₁ Q' q => by cases b <;> first | exact wpAny_pure q | exact wpAny_rule q
    have pm := layNew_perm t es ((PySem.strKind P w).hash k) (.str k tk)
    have hf1 := layNew_fits t es ((PySem.strKind P w).hash k) (.str k tk)
    have hr1 := layNew_ris t es ((PySem.strKind P w).hash k) (.str k tk) hr
    have hl1 := layNew_led t es ((PySem.strKind P w).hash k) (.str k tk)
    generalize layNew t es ((PySem.strKind P w).hash k) (.str k tk) = Z at pm hf1 hr1 hl1 ⊢
    obtain ⟨es1, t1, wasDummy, gave⟩ := Z
    dsimp only at pm hf1 hr1 hl1 ⊢
    rw [Array.toList_push] at pm
    have pc : es1.toList.Perm (((PySem.strKind P w).hash k, Value.str k tk) :: es.toList) := pm.trans (List.perm_append_singleton _ _)
    have pk : (es1.toList.map strK).Perm (k :: es.toList.map strK) := pc.map strK
    have g1 : ∀ e ∈ es1.toList, GoodS P w e := fun e he => by
      rcases List.mem_cons.mp (pc.mem_iff.mp he) with z | z
      · rw [z]; exact ⟨k, tk, rfl, rfl⟩
      · exact g e z
    have eA : metAdd l k = l ++ [k] := if_neg hkl
    have pl1 : (es1.toList.map strK).Perm (metAdd l k) := by
      rw [eA]
      exact (pk.trans (pl.cons k)).trans (List.perm_append_singleton k l).symm
    have nd1 : (metAdd l k).Nodup := by
      rw [eA]
      exact (List.perm_append_singleton k l).nodup_iff.mpr (List.nodup_cons.mpr ⟨hkl, nd⟩)
    have hsz : es1.size = l.length + 1 := by
      have := pl1.length_eq
      rw [List.length_map, Array.length_toList, eA, List.length_append, List.length_singleton] at this
      exact this
    have hb1 : es1.size < scanBound := by rw [hsz]; exact room
    have hled : w.params.followText "set-order" = true ∨ t1.led = true := hl.imp id fun z => by rw [hl1]; exact z
    refine wpAny_bind (hgw _ ?_)
    split
    · refine wpAny_bind ?_
      rw [hashByValue_scannable 8 hsc]
      refine wpAny_pure ?_
      refine setS_add_tail ?_ ho hex hd g1 pl1 nd1 hb1 ?_ ?_ ?_ ?_
      · intro b s₁ Q' q; cases b <;> first | exact wpAny_pure q | exact wpAny_rule q
      · first | (split <;> first | exact hf1 | exact SetTable.fits_plain_off hf1) | exact hf1
      · first | (split <;> exact hr1) | exact hr1
      · first | (split <;> exact hled) | exact hled
      · intro h' sb r; dsimp only; exact wpAny_pure (hQ h' _ sb r)
    · refine wpAny_bind (wpAny_pure ?_)
      simp only [↓reduceIte]
      refine setS_add_tail ?_ ho hex hd g1 pl1 nd1 hb1 hf1 hr1 hled ?_
      · intro b s₁ Q' q; cases b <;> first | exact wpAny_pure q | exact wpAny_rule q
      · intro h' sb r; dsimp only; exact wpAny_pure (hQ h' _ sb r)
theorem setS_fresh {h : Heap} : SetS P w (h.push { cls := .type "set", dict := none, data := .set #[] 0 (.fresh 0 0 (!w.params.followText "set-order")) }) h.objs.size [] :=
  ⟨_, #[], 0, _, Heap.get?_push_size _ rfl, ⟨rfl, rfl, rfl⟩, rfl, (fun e he => by simp at he), .refl _, .nil, (by decide), (by rfl), List.Pairwise.nil, by
    show _ ∨ (!w.params.followText "set-order") = true
    cases w.params.followText "set-order"
    · exact .inr rfl
    · exact .inl rfl⟩
end
theorem metFold_ge : ∀ (l acc : List Str), acc.length ≤ (l.foldl metAdd acc).length
  | [], _ => Nat.le_refl _
  | z :: l, acc => by
    have h := metFold_ge l (metAdd acc z)
    have h2 := metAdd_len acc z
    rw [List.foldl_cons]
    split at h2 <;> omega
theorem metOf_take (xs : List Str) (i : Nat) : (metOf (xs.take i)).length ≤ (metOf xs).length := by
  have e : metOf xs = (xs.drop i).foldl metAdd (metOf (xs.take i)) := by
    unfold metOf
    rw [← List.foldl_append, List.take_append_drop]
  rw [e]
  exact metFold_ge _ _
theorem metFold_nd : ∀ (l acc : List Str), acc.Nodup → (l.foldl metAdd acc).Nodup
  | [], _, h => h
  | z :: l, acc, h => by
    rw [List.foldl_cons]
    refine metFold_nd l _ ?_
    unfold metAdd
    split
    · exact h
    · rename_i c
      exact (List.perm_append_singleton z acc).nodup_iff.mpr (List.nodup_cons.mpr ⟨c, h⟩)
section
variable {P : Program} {w : World} {A : Around} {R : Result → Shared → Prop} {J : Addr} {fp wr : List Addr} {n : Nat} {Y : Nat → Value → Prop} {St : Nat → Heap → Prop}
theorem setS_loop (W : Walks P w A.in1 J fp wr n Y St) (S : Addr) (hS : S ∉ fp) (xs : List Str) (hn : xs.length = n) (hy : ∀ i v, Y i v → ∃ x t, xs[i]? = some x ∧ v = .str x t) (hb : (metOf xs).length + 1 < scanBound) :
    ∀ (k i : Nat) (s : Shared), n - i = k → i ≤ n → St i s.heap → SetS P w s.heap S (metOf (xs.take i)) →
      (∀ h' tk, (∀ b o, b ∉ S :: wr → s.heap.get? b = some o → h'.get? b = some o) → SetS P w h' S (metOf xs) → R (.ok (.ret .none)) { s with heap := h', toks := tk }) →
      codeAny (model P w) A (.builtin "set.update.loop" ⟨[.ref S, .ref J], []⟩) R s := by
  have hw : S ∉ wr := fun h => hS (W.sub _ h)
  intro k
  induction k with
  | zero =>
    intro i s hk hi st hset q
    have e : i = n := by omega
    subst e
    refine codeAny_builtin PyProof.Rows.F.entry_set_update_loop ?_
    rw [Around.under_plainId PyProof.Rows.F.plain_set_update_loop _]
    show wpAny _ A.in1 (pyNext (.ref J) >>= _) _ _ s
    refine wpAny_bind (W.done s _ _ st fun h' tk kp => ?_)
    show wpAny _ A.in1 (ret Value.none) _ _ _
    refine wpAny_pure (q h' tk (fun b o nb eb => kp b o (fun z => nb (List.mem_cons_of_mem _ z)) eb) ?_)
    rw [List.take_of_length_le (by omega)] at hset
    exact hset.at fun o eo => kp S o hw eo
  | succ k ih =>
    intro i s hk hi st hset q
    have hlt : i < n := by omega
    refine codeAny_builtin PyProof.Rows.F.entry_set_update_loop ?_
    rw [Around.under_plainId PyProof.Rows.F.plain_set_update_loop _]
    show wpAny _ A.in1 (pyNext (.ref J) >>= _) _ _ s
    refine wpAny_bind (W.item i s _ _ hlt st fun v h1 tk hv st1 kp => ?_)
    obtain ⟨x, t, hx, rfl⟩ := hy i v hv
    have hset1 := hset.at (h' := h1) fun o eo => kp S o hw eo
    show wpAny _ A.in1 (holding [Value.str x t] (setAdd S (.str x t)) >>= _) _ _ _
    refine wpAny_bind (wpAny_holding ?_)
    unfold setAdd
    refine wpAny_holding (wpAny_bind ((PySem.strKind P w).pyHash (k := x) (strKind_is _ _ _ _) ?_))
    have hroom : (metOf (xs.take i)).length + 1 < scanBound := by
      have h2 := metOf_take xs i
      omega
    refine setS_add_hashed (s := { heap := h1, gens := s.gens, drawn := s.drawn, toks := tk + 1, os := s.os }) hset1 hroom fun h2 b2 sb hset2 => ?_
    have e1 : xs.take (i + 1) = xs.take i ++ [x] := by
      rw [List.take_add_one, hx]
      rfl
    have hset3 : SetS P w h2 S (metOf (xs.take (i + 1))) := by
      rw [e1, metOf_snoc]
      exact hset2
    refine wpAny_pure ⟨plainId_quiet PyProof.Rows.F.plain_set_update_loop _, ih (i + 1) _ (by omega) hlt (W.frame _ _ _ st1 fun b hb o eo => ?_) hset3 fun h3 tk3 kp3 hs3 => ?_⟩
    · rw [sb.2 b fun z => hS (z ▸ hb)]
      exact eo
    · refine q h3 tk3 (fun b o nb eb => kp3 b o nb ?_) hs3
      show h2.get? b = some o
      rw [sb.2 b fun z => nb (z ▸ List.mem_cons_self ..)]
      exact kp b o (fun z => nb (List.mem_cons_of_mem _ z)) eb
end
theorem strs_idx {us : List Value} {xs : List Str} (h : StrsAre us xs) : ∀ (i : Nat) (v : Value), us[i]? = some v → ∃ x t, xs[i]? = some x ∧ v = .str x t := by
  induction h with
  | nil =>
    intro i v e
    simp at e
  | cons x t r ih =>
    intro i v e
    cases i with
    | zero =>
      simp at e
      exact ⟨x, t, rfl, e.symm⟩
    | succ i => exact ih i v (by simpa using e)
abbrev ledSet (w : World) : Obj := { cls := .type "set", dict := none, data := .set #[] 0 (.fresh 0 0 (!w.params.followText "set-order")) }
section
variable {P : Program} {w : World} {A : Around} {E : Value → Shared → Prop} {s : Shared}
theorem setS_of_list {l : Addr} {items : Array Value} {xs : List Str} {Q : Value → Shared → Prop} (hh : A.handled = none) (hl : s.heap.IsList l items) (hi : StrsAre items.toList xs) (hb : (metOf xs).length + 1 < scanBound)
    (h : ∀ (h' : Heap) (tk : Nat), SetS P w h' s.heap.objs.size (metOf xs) → (∀ b o, b < s.heap.objs.size → s.heap.get? b = some o → h'.get? b = some o) → Q (.ref s.heap.objs.size) { s with heap := h', toks := tk }) :
    wpAny (model P w) A (call (.type "set") [.ref l]) Q E s := by
  obtain ⟨c, tl, hmro⟩ := PySem.F.called_set.mro
  have hmade := PySem.F.called_set.made
  have hsub := PySem.F.called_set.sub
  refine wpAny_call (codeAny_of_tree ?_)
  show wpAny _ _ (callAny (.type "set") _) _ _ _
  refine wpAny_pure ⟨Code.quiet_builtin _ (by decide +kernel), codeAny_builtin PySem.F.entry_type_call ?_⟩
  rw [Around.under_plain (weight_type_call_type "set" [.ref l] []) rfl]
  have h1 := PySem.F.called_set.notType
  have h2 := PySem.F.called_set.canCreate
  have hct := PySem.F.typeCall_set_1 (.ref l)
  repeat (any_goals (first | assumption | wp_step))
  refine codeAny_mono (code_set_led1 (.ref l) (E := E) (Q₁ := fun obj s1 => obj = .ref s.heap.objs.size ∧ s1 = { s with heap := s.heap.push (ledSet w) }) ⟨rfl, rfl⟩) fun r s1 hr => ?_
  cases r with
  | error e => exact hr
  | ok fl =>
    cases fl with
    | ret obj =>
      obtain ⟨rfl, rfl⟩ := hr
      have hS : (s.heap.push (ledSet w)).get? s.heap.objs.size = some (ledSet w) := Heap.get?_push_size _ rfl
      have hT : Shared.TypeIs { s with heap := s.heap.push (ledSet w) } (.ref s.heap.objs.size) "set" := ⟨_, hS, rfl⟩
      have hli := PySem.F.called_set.init.lookup
      have hbi := PySem.F.called_set.init.bind (.ref s.heap.objs.size)
      repeat (any_goals (first | assumption | wp_step))
      refine codeAny_mono (codeAny_call_builtin (R := wants (fun r s2 => r = .none ∧ ∃ h' tk, s2 = { s with heap := h', toks := tk } ∧ SetS P w h' s.heap.objs.size (metOf xs) ∧
          (∀ b o, b < s.heap.objs.size → s.heap.get? b = some o → h'.get? b = some o)) E) PySem.F.called_set.init.plain PySem.F.entry_set_init (check_set_init_1 hT ?_)) fun r2 s2 hr2 => ?_
      · obtain ⟨ol, hol, hcl, nl, hdl⟩ := hl
        obtain ⟨ocls, odict, odata, oslots⟩ := ol
        simp only at hcl hdl
        subst hcl; subst hdl
        have hol' : (s.heap.push (ledSet w)).get? l = some { cls := .type "list", dict := odict, data := .seq items nl, slots := oslots } := Heap.get?_push_of_some _ hol
        have hsls := PySem.F.sub_list_set
        have hslf := PySem.F.sub_list_frozenset
        have hne : (Value.type "list" == Value.type "dict") = false := by decide
        have hl1 : (s.heap.push (ledSet w)).IsList l items := ⟨_, hol', rfl, nl, rfl⟩
        unfold Builtin.«set.__init__» noKeywords Builtin.Frozenset.updateFrom
        generalize hPI : pyIter = PI
        wp_walk
        subst hPI
        refine wpAny_pyIter_list hl1 ?_
        refine wpAny_bind (wpAny_runValue ?_)
        have hlS : l < s.heap.objs.size := Heap.lt_size hol
        have hh3 : A.in1.in1.in1.handled = none := by simp [hh]
        have hneI : l ≠ (s.heap.push (ledSet w)).objs.size := by
          rw [Heap.size_push]; exact Nat.ne_of_lt (Nat.lt_succ_of_lt hlS)
        have hSf : s.heap.objs.size ∉ [(s.heap.push (ledSet w)).objs.size, l] := by
          rw [Heap.size_push]; simp only [List.mem_cons, List.mem_singleton, List.not_mem_nil, or_false, not_or]
          exact ⟨Nat.ne_of_lt (Nat.lt_succ_self _), Nat.ne_of_gt hlS⟩
        have hsz : xs.length = items.size := by rw [← StrsAre.len_eq hi, Array.length_toList]
        refine setS_loop (Walks.list hh3 _ l hneI items) s.heap.objs.size hSf xs hsz (fun i v hv => ?_) hb _ 0 _ rfl (Nat.zero_le _) ⟨⟨_, Heap.get?_push_size _ rfl, rfl, rfl⟩, (hl1.push _)⟩ ?_ fun h' tk kp hs => ?_
        · have hv : items[i]? = some v := hv
          exact strs_idx hi i v (by rw [Array.getElem?_toList]; exact hv)
        · exact (setS_fresh (P := P) (w := w) (h := s.heap)).at fun o eo => Heap.get?_push_of_some _ eo
        · refine wpAny_pure ?_
          show wpAny _ _ (ret Value.none) _ _ _
          refine wpAny_pure ⟨rfl, h', tk, rfl, hs, fun a o ha eo => kp a o ?_ (Heap.get?_push_of_some _ (Heap.get?_push_of_some _ eo))⟩
          have : a ≠ s.heap.objs.size ∧ a ≠ (s.heap.push (ledSet w)).objs.size := ⟨Nat.ne_of_lt ha, by
            rw [Heap.size_push]
            exact Nat.ne_of_lt (Nat.lt_succ_of_lt ha)⟩
          simp only [List.mem_cons, List.not_mem_nil, or_false, not_or]
          exact this
      · cases r2 with
        | error e => exact hr2
        | ok fl2 =>
          cases fl2 with
          | ret r =>
            obtain ⟨rfl, h', tk, rfl, hs', hk'⟩ := hr2
            repeat (any_goals (first | assumption | wp_step))
            exact h _ _ hs' hk'
          | _ => exact hr2.elim
    | _ => exact hr.elim
end
/-! ### sorted(set), and the layer -/
theorem sorted_setS {P : Program} {w : World} {A : Around} {E : Value → Shared → Prop} {s : Shared} {a : Addr} {l : List (List Nat)} {Q : Value → Shared → Prop} (R : SetS P w s.heap a (l.map tx)) (hh : A.handled = none)
    (hQ : ∀ s' p (out : Array Value) (c : Nat) (ls : List (List Nat)), (∀ b o, s.heap.get? b = some o → s'.heap.get? b = some o) → s'.gens = s.gens → s'.os = s.os → s.heap.objs.size ≤ p →
      s'.heap.get? p = some (seqObj "list" out c) → StrsAre out.toList (ls.map tx) → ls.Perm l → ls.Pairwise (fun a b => ¬ b < a) → Q (.ref p) s') :
    wpAny (model P w) A (call (.builtin "sorted") [.ref a]) Q E s := by
  obtain ⟨o, es, ep, t, ho, hex, hd, g, pl, nd, hb, hf, hr, hl⟩ := R
  refine Calls.call_function_entry kind_sorted plain_sorted entry_sorted (args_sorted1 _) ?_
  unfold Builtin.«sorted»
  refine wpAny_bind (m := checkCount "sorted" 1 1 _) (wpAny_pure ?_)
  refine wpAny_bind (collect_set (A := A.in1) hh ⟨o, ho, hex.1, hd⟩ hf hb hr hl fun s1 vs k1 hz g1 o1 pm => ?_)
  have hvl : vs.length = l.length := by
    have := pl.length_eq
    rw [List.length_map, List.length_map] at this
    rw [pm.length_eq, List.length_map]
    exact this
  have hlb : l.length < scanBound := by
    have := pl.length_eq
    rw [List.length_map, List.length_map, Array.length_toList] at this
    omega
  have hvz : vs.length ≤ sizeLine := by
    rw [hvl, sizeLine_eq]
    unfold scanBound at hlb
    omega
  have all : ∀ v ∈ vs, ∃ x t, v = Value.str x t := fun v hv => by
    obtain ⟨e, he, q⟩ := List.mem_map.mp (pm.mem_iff.mp hv)
    obtain ⟨k, tk, h1, _⟩ := g e he
    exact ⟨k, tk, by rw [← q]; exact h1⟩
  have hI : StrsAre vs ((vs.map sv).map tx) := str_sv all
  have pk : (vs.map sv).Perm l := by
    have q := pm.map sv
    rw [List.map_map] at q
    have e1 : es.toList.map (sv ∘ fun x => x.2) = (es.toList.map strK).map fun x => x.cps.toList := by
      rw [List.map_map]
      refine List.map_congr_left fun e he => ?_
      obtain ⟨k, tk, h1, _⟩ := g e he
      show sv e.2 = (strK e).cps.toList
      unfold strK
      rw [h1]
      rfl
    have q2 := pl.map fun x : Str => x.cps.toList
    have e2 : (l.map tx).map (fun x : Str => x.cps.toList) = l := by
      rw [List.map_map]
      have : ((fun x : Str => x.cps.toList) ∘ tx) = id := funext fun l => rfl
      rw [this, List.map_id]
    rw [e2] at q2
    exact (q.trans (by rw [e1])).trans q2
  refine wpAny_bind (wpAny_newList ?_ hvz)
  have hoL : (s1.heap.push (seqObj "list" vs.toArray 0)).get? s1.heap.objs.size = some (seqObj "list" vs.toArray 0) := Heap.get?_push_size _ rfl
  refine wpAny_bind (wpAny_holding (wpAny_call_entry slot_list_sort ⟨_, hoL, rfl⟩ entry_list_sort (list_sort_ord swo_str hoL hvz (fun h2 => str_sortable hI h2) fun out h1 h2 => ⟨_, rfl, ?_⟩) (args_list_sort _)))
  obtain ⟨c, hc⟩ := sortedHeap_at (vs := vs) (out := out.toArray) hoL
  have all2 : ∀ v ∈ out, ∃ x t, v = Value.str x t := fun v hv => all v (h2.perm.mem_iff.mp hv)
  have k2 : (out.map sv).Perm l := (h2.perm.map sv).trans pk
  have k3 : (out.map sv).Pairwise (fun a b => ¬ b < a) := List.pairwise_map.mpr (h1.imp fun {x y} h => of_decide_eq_false (p := sv y < sv x) h)
  refine wpAny_pure ⟨_, rfl, hQ _ s1.heap.objs.size out.toArray c (out.map sv) (fun b u e => ?_) g1 o1 hz hc (str_sv all2) k2 k3⟩
  have q := k1 b u e
  have hlt := Heap.lt_size q
  show (sortedHeap (s1.heap.push (seqObj "list" vs.toArray 0)) s1.heap.objs.size vs out.toArray).get? b = some u
  rw [sortedHeap_old (Nat.ne_of_lt hlt) (by rw [size_push']; exact Nat.lt_succ_of_lt hlt)]
  exact Heap.get?_push_of_some _ q
theorem nodup_le {α : Type} [DecidableEq α] : ∀ {a b : List α}, a.Nodup → (∀ x ∈ a, x ∈ b) → a.length ≤ b.length
  | [], _, _, _ => Nat.zero_le _
  | x :: a, b, nd, h => by
    obtain ⟨n1, n2⟩ := List.nodup_cons.mp nd
    have hx := h x (List.mem_cons_self ..)
    have := nodup_le (b := b.erase x) n2 fun y hy => (List.mem_erase_of_ne fun e : y = x => n1 (e ▸ hy)).mpr (h y (List.mem_cons_of_mem _ hy))
    rw [List.length_erase_of_mem hx] at this
    have := List.length_pos_of_mem hx
    rw [List.length_cons]
    omega
theorem nodup_of_map {α β : Type} {f : α → β} {l : List α} (h : (l.map f).Nodup) : l.Nodup := List.Pairwise.of_map f (fun _ _ hne e => hne (congrArg f e)) h
/-- the set of texts at a, that can be walked -/
def SetW (P : Program) (w : World) (a : Addr) (l : List Str) : HO := .ext fun h => SetS P w h a l
theorem setW_new {P : Program} {w : World} {H : Hp} {h : Heap} {a : Addr} {l : List Str} (R : SetS P w h a l) : ObjOk P w H h a (SetW P w a l) := by
  have ⟨o, _, _, _, ho, _⟩ := R
  exact ⟨R, ⟨o, ho⟩, fun h1 h2 q k => SetS.at q k⟩
def rSetOfS (K : PySem.W.Frag) (P : Program) (w : World) : List V → Hp → VK → Prop := fun xs H Q => ∃ (a : Addr) (ls D : List (List Nat)), xs = [.ref a] ∧ SqL K H a (ls.map fun l => V.str (tx l)) ∧ (∀ l ∈ ls, l ∈ D) ∧ D.length ≤ 1000 ∧ ∀ (p : Addr) (ms : List (List Nat)), H p = none → ms.Nodup → (∀ m, m ∈ ms ↔ m ∈ ls) → Q (.ref p) (upd H p (SetW P w p (ms.map tx)))
def rSortedW (P : Program) (w : World) : List V → Hp → VK → Prop := fun xs H Q => ∃ (a : Addr) (l : List (List Nat)), xs = [.ref a] ∧ H a = some (SetW P w a (l.map tx)) ∧ ∀ (p : Addr) (ls : List (List Nat)), ls.Perm l → ls.Pairwise (fun a b => ¬ b < a) → H p = none → Q (.ref p) (upd H p (.lst (ls.map fun l => V.str (tx l))))
section
variable {X : Cx}
theorem c_setOfS {K : PySem.W.Frag} (hK : X.K = K) (hc : X.calm = true) : CallR X (.type "set") (rSetOfS K X.prog X.w) := by
  subst hK
  intro pins s σ H xs us Q I r h
  obtain ⟨a, ls, D, rfl, hs, hD, hl, q⟩ := h
  rw [map_tx] at hs
  obtain ⟨its, rv, hla, hz⟩ := I.list hs
  rw [Vals.ref1 r]
  have hi := rv.strs
  have nd1 : (metOf (ls.map tx)).Nodup := metFold_nd _ _ .nil
  have back : ∀ x : Str, tx x.cps.toList = x := fun x => tx_eq.symm
  obtain ⟨ms, e1, e2, e3⟩ : ∃ ms : List (List Nat), metOf (ls.map tx) = ms.map tx ∧ ms.Nodup ∧ ∀ m, m ∈ ms ↔ m ∈ ls := by
    have e : ((metOf (ls.map tx)).map fun x => x.cps.toList).map tx = metOf (ls.map tx) := by
      rw [List.map_map]
      have : (tx ∘ fun x : Str => x.cps.toList) = id := funext back
      rw [this, List.map_id]
    refine ⟨(metOf (ls.map tx)).map fun x => x.cps.toList, e.symm, ?_, fun m => ?_⟩
    · rw [← e] at nd1
      exact nodup_of_map nd1
    · rw [List.mem_map]
      constructor
      · rintro ⟨x, hx, rfl⟩
        obtain ⟨y, hy, e⟩ := List.mem_map.mp (metOf_mem.mp hx)
        rw [← e]
        exact hy
      · intro hm
        exact ⟨tx m, metOf_mem.mpr (List.mem_map.mpr ⟨m, hm, rfl⟩), rfl⟩
  have lm : ms.length ≤ D.length := nodup_le e2 fun m hm => hD m ((e3 m).mp hm)
  refine setS_of_list (I.ok.hd hc) hla.isList hi (by rw [e1, List.length_map]; unfold scanBound; omega) fun h' tk hS hk => ?_
  have hp : H s.heap.objs.size = none := I.hok.fresh (Nat.le_refl _)
  rw [e1] at hS
  exact ⟨.ref s.heap.objs.size, upd H s.heap.objs.size (SetW X.prog X.w s.heap.objs.size (ms.map tx)), I.laid (h' := h') (t' := tk) (fun b o e => hk b o (Heap.lt_size e) e) (Nat.le_refl _) (setW_new hS), rfl, q _ ms hp e2 e3⟩
theorem c_sortedW (hc : X.calm = true) : CallR X (.builtin "sorted") (rSortedW X.prog X.w) := by
  intro pins s σ H vs us Q I r h
  obtain ⟨a, l, rfl, ha, q⟩ := h
  have R : SetS X.prog X.w s.heap a (l.map tx) := (I.hok a _ ha).1
  have lsz : l.length < scanBound := by
    obtain ⟨o, es, ep, t, _, _, _, _, pl, _, hb, _⟩ := R
    have := pl.length_eq
    rw [List.length_map, List.length_map, Array.length_toList] at this
    omega
  rw [Vals.ref1 r]
  refine sorted_setS R (I.ok.hd hc) fun s' p out c ls k g o hp hg hi pm pw => ?_
  have hlen : ((ls.map tx).map V.str).length ≤ sizeLine := by
    rw [List.length_map, List.length_map, pm.length_eq, sizeLine_eq]
    unfold scanBound at lsz
    omega
  have hn : H p = none := I.hok.fresh hp
  have J : Inv X pins σ (upd H p (.lst ((ls.map tx).map V.str))) { s with heap := s'.heap, gens := s'.gens, drawn := s'.drawn, toks := s'.toks } :=
    I.call (ch := []) (Un.laid k hp hn) (I.hok.laid k hp ⟨hlen, out.toList, c, vals_of_strs hi, hg⟩) (by rw [g]; exact I.bare) (fun _ z => nomatch z)
  have e : s' = { s with heap := s'.heap, gens := s'.gens, drawn := s'.drawn, toks := s'.toks } := by
    cases s'
    cases s
    cases o
    rfl
  rw [e]
  have q := q p ls pm pw hn
  rw [map_tx] at q
  exact ⟨.ref p, _, J, rfl, q⟩
end
end Cw
set_option Elab.async false
set_option linter.all false
set_option maxRecDepth 100000
set_option maxHeartbeats 4000000
/-! list(text) -/
namespace Cw
open PySem PySem.Spec L2
def rListS : List V → Hp → VK → Prop := fun xs H Q => ∃ l : List Nat, xs = [.str (tx l)] ∧ l.length ≤ 1000000 ∧ ∀ p, H p = none → Q (.ref p) (upd H p (.lst (l.map fun c => V.str (tx [c]))))
theorem c_listS {X : Cx} (hc : X.calm = true := by rfl) : CallR X (.type "list") rListS := by
  intro pins s σ H vs us Q I rv h
  obtain ⟨l, rfl, hl, q⟩ := h
  obtain ⟨u, rfl, ru⟩ := rv.one
  obtain ⟨t, rfl⟩ := ru
  have hsz : (tx l).cps.size ≤ sizeLine := by
    have := szl hl
    rw [← tx_len] at this
    exact this
  refine PySem.call_list_str (I.ok.hd hc) (tx l) t (hn := hsz) fun h' tk acc c' hk e hi => ?_
  refine ⟨.ref s.heap.objs.size, upd H s.heap.objs.size (.lst (l.map fun c => V.str (tx [c]))), I.laid hk (Nat.le_refl _) ⟨by rw [List.length_map]; exact szl hl, acc.toList, c', ?_, by rw [Array.toArray_toList]; exact e⟩, rfl, q _ (I.hok.fresh (Nat.le_refl _))⟩
  refine vals_of_idx _ _ (by rw [List.length_map, Array.length_toList]; exact hi.1) fun j u hj => ?_
  obtain ⟨c, t', hc, rfl⟩ := hi.2 j u (by rw [← Array.getElem?_toList]; exact hj)
  refine ⟨V.str (tx [c]), ?_, ⟨t', rfl⟩⟩
  have e1 : l[j]? = some c := by simpa [tx] using hc
  rw [List.getElem?_map, e1]
  rfl
theorem v_listS {H : Hp} {Q : VK} {l : List Nat} (hl : l.length ≤ 1000000) (q : ∀ p H', H p = none → Same H H' → H' p = some (.lst (l.map fun c => V.str (tx [c]))) → Q (.ref p) H') : rListS [.str (tx l)] H Q := ⟨l, rfl, hl, fun p hp => q p _ hp (Same.new hp) upd_same⟩
end Cw
set_option Elab.async false
set_option linter.all false
set_option maxRecDepth 100000
set_option maxHeartbeats 4000000
/-! a lambda kept in a name, handed to a def later -/
namespace Cw
open PySem PySem.Spec PyProof.Rows L2 LamX
/-- what a lambda is made of -/
structure LamD where
  params : Arguments
  body : Expr
  scope : Scope
/-- what its body reads -/
structure LamOk (X : Cx) (k : Nat) (d : LamD) (t : XK → TE) : Prop where
  L : LamS X.env.scope d.scope
  bind : ∀ (q : Str) (cl : List (Str × Addr)) (pm cv ctv : Value), bindArgs (PySem.W.kla_fn "<lambda>" q d.params d.body d.scope cl pm cv ctv) ⟨[], []⟩ = pure []
  body : ∀ (A : Around) (outer : List Env) (s : Shared) (H : Hp) (E : XK) (f c' : Addr), Room k (A.deeper (lamEnv X d.scope s.heap.objs.size f c')) → PE (lamCx X A outer s H E d.scope f c') d.body (t E)
/-- the function at f is the lambda d, its code object at c' -/
def FunL (env : Env) (d : LamD) (f c' : Addr) : HO := .ext fun h => ∃ pm ctv, h.get? f = some (PySem.W.kla_obj "<lambda>" (env.qual ++ "<lambda>") d.params d.body d.scope (cloFrom env.cells d.scope.names []) pm c' ctv)
theorem funL_ok {P : Program} {w : World} {env : Env} {d : LamD} {c' : Addr} {pm ctv : Value} {H : Hp} {h : Heap} {f : Addr} (e : h.get? f = some (PySem.W.kla_obj "<lambda>" (env.qual ++ "<lambda>") d.params d.body d.scope (cloFrom env.cells d.scope.names []) pm c' ctv)) : ObjOk P w H h f (FunL env d f c') :=
  ⟨⟨pm, ctv, e⟩, ⟨_, e⟩, fun h1 h2 ⟨a, b, z⟩ st => ⟨a, b, st _ z⟩⟩
section
variable {X : Cx} {pins : List (Addr × Obj)} {σ : L2.St} {H : Hp} {s : Shared}
def tLamV (Ts : List (Addr × Str)) (env : Env) (d : LamD) : TE := fun _ H Q => Tabs Ts H ∧ ∀ f c' H1, ExtN H H1 → Tabs Ts H1 → H1 c' = some (CodeO c' (env.qual ++ "<lambda>")) → H1 f = some (FunL env d f c') → Q (.ref f) H1
theorem pe_lamV {Ts : List (Addr × Str)} {c P : Addr} {d : LamD} {pos : PySem.Pos} (TB : TabB X.base X.mg c P) (hm : (P, X.env.qual ++ "<lambda>") ∈ Ts) (hu : ∀ p ∈ Ts, p.1 = P → p.2 = X.env.qual ++ "<lambda>") (L : LamS X.env.scope d.scope) (hcode : X.env.code = .ref c := by rfl) (hdef : defaultsOf d.params X.env = ([], []) := by rfl) :
    PE X (.Lambda d.params d.body d.scope pos) (tLamV Ts X.env d) := by
  refine ⟨fun pins s σ H Q I ⟨tabs, goOn⟩ => ?_⟩
  obtain ⟨items, tabAt, triples, told⟩ := tabs _ hm
  have inHeap : s.heap.get? P = some { cls := .none, data := .fields items } := I.hok P _ tabAt
  have nextBase : ∀ {h1 : Heap} {t1 : Nat} {H1 : Hp} {c1 : Addr} {pm ctv : Value}, Inv X pins σ H1 { s with heap := h1, toks := t1 } → ExtN H H1 → Tabs Ts H1 → H1 c1 = some (CodeO c1 (X.env.qual ++ "<lambda>")) →
      EP X pins σ Q (.ref h1.objs.size) { s with heap := h1.push (PySem.W.kla_obj "<lambda>" (X.env.qual ++ "<lambda>") d.params d.body d.scope (cloFrom X.env.cells d.scope.names []) pm c1 ctv), toks := t1 } := by
    intro h1 t1 H1 c1 pm ctv I1 ext1 tabs1 code1
    have clean : H1 h1.objs.size = none := I1.hok.fresh (Nat.le_refl _)
    have grown : ExtN H1 (upd H1 h1.objs.size (FunL X.env d h1.objs.size c1)) := fun b o e _ => by
      rw [upd_ne (ne_of_none e clean)]
      exact e
    have all : ∀ b o, H1 b = some o → upd H1 h1.objs.size (FunL X.env d h1.objs.size c1) b = some o := fun b o e => by
      rw [upd_ne (ne_of_none e clean)]
      exact e
    refine ⟨.ref h1.objs.size, upd H1 h1.objs.size (FunL X.env d h1.objs.size c1), ?_, rfl, goOn _ c1 _ (ext1.trans grown) (tabs1.ext all) (all _ _ code1) upd_same⟩
    exact Inv.laid (s := { s with heap := h1, toks := t1 }) I1 (fun _ _ e => Heap.get?_push_of_some _ e) (Nat.le_refl _) (funL_ok (Heap.get?_push_size _ rfl))
  refine PySem.W.kla_eval hdef ?_
  cases found : codeAmong pos items.toList with
  | some cv =>
    obtain ⟨c1, rfl, code1⟩ := told pos cv found
    refine PySem.W.kla_makeFunctionHit (c := c) (P := P) (closure_ok (L.has I.ok)) I.ok.glob (I.mod.glob.keeps I.bk) hcode (TB.code.keeps I.bk) inHeap triples found (TB.bm.keeps I.bk) fun ctv h1 t1 kept _ => ?_
    exact nextBase (I.kept kept) (ExtN.refl H) tabs code1
  | none =>
    refine PySem.W.kla_makeFunction (c := c) (P := P) (closure_ok (L.has I.ok)) I.ok.glob (I.mod.glob.keeps I.bk) hcode (TB.code.keeps I.bk) inHeap triples found TB.gP (TB.bm.keeps I.bk) fun c1 ctv h1 t1 kept above below rec tab1 => ?_
    obtain ⟨c2, oc, fields, tok, same, ocAt, isF, name⟩ := rec
    cases same
    have free1 : H c1 = none := I.hok.fresh above
    have J := inv_table (q := X.env.qual ++ "<lambda>") (t' := t1) (more := #[rawInt pos.line, rawInt pos.col, .ref c1]) I tabAt kept tab1 above ⟨oc, fields, tok, ocAt, isF, name⟩
    refine nextBase J (fun b o e n => ?_) (fun p hp => ?_) upd_same
    · rw [upd_ne (ne_of_none e free1), upd_ne fun z => n items (Option.some.inj (e.symm.trans (by rw [z]; exact tabAt)))]
      exact e
    · have stays : ∀ {a : Addr} {n : Str}, H a = some (CodeO a n) → upd (upd H P (.tbl (items ++ #[rawInt pos.line, rawInt pos.col, .ref c1]))) c1 (CodeO c1 (X.env.qual ++ "<lambda>")) a = some (CodeO a n) := fun {a n} e => by
        rw [upd_ne (ne_of_none e free1), upd_ne fun z => codeO_ne items (Option.some.inj (e.symm.trans (by rw [z]; exact tabAt)))]
        exact e
      by_cases same : p.1 = P
      · rw [hu p hp same, same]
        have asList : (items ++ #[rawInt pos.line, rawInt pos.col, .ref c1]).toList = items.toList ++ [rawInt pos.line, rawInt pos.col, .ref c1] := by simp
        refine ⟨_, (upd_ne (ne_of_none tabAt free1)).trans upd_same, by rw [asList]; exact PySem.TriplesOk_snoc _ _ _ _ triples, fun p2 cv look => ?_⟩
        rw [asList] at look
        rcases among_app _ triples look with old | rfl
        · obtain ⟨c0, e1, e2⟩ := told p2 cv old
          exact ⟨c0, e1, stays e2⟩
        · exact ⟨c1, rfl, upd_same⟩
      · obtain ⟨other, a1, a2, a3⟩ := tabs p hp
        refine ⟨other, by rw [upd_ne (ne_of_none a1 free1), upd_ne same]; exact a1, a2, fun p2 cv look => ?_⟩
        obtain ⟨c0, e1, e2⟩ := a3 p2 cv look
        exact ⟨c0, e1, stays e2⟩
theorem pe_lamW {Ts : List (Addr × Str)} {c P : Addr} {params : Arguments} {body : Expr} {scope : Scope} {pos : PySem.Pos} (TB : TabB X.base X.mg c P) (hm : (P, X.env.qual ++ "<lambda>") ∈ Ts) (hu : ∀ p ∈ Ts, p.1 = P → p.2 = X.env.qual ++ "<lambda>") (L : LamS X.env.scope scope) (hcode : X.env.code = .ref c := by rfl) (hdef : defaultsOf params X.env = ([], []) := by rfl) :
    PE X (.Lambda params body scope pos) (tLamV Ts X.env ⟨params, body, scope⟩) := pe_lamV (d := ⟨params, body, scope⟩) TB hm hu L hcode hdef
/-- the kept lambda is called in the def that got it -/
theorem pe_actV {CXg : CXT} {Eg E : XK} {Ng : List Str} {qg a : Str} {sg : Scope} {g f c1 : Addr} {cdg : Value} {k i : Nat} {d : LamD} {t : XK → TE} {pn : List (Addr × Obj)} {xe : Value → Shared → Prop} {W : WX} {p1 p2 : PySem.Pos}
    (I : Inv X pins σ H s) (O : LamOk X k d t) (tk : Takes ((cxOf CXg X.prog X.w X.K X.mg X.base Ng qg sg g cdg X.A X.stack s H Eg).tr pn xe) W) (out : ∀ cls dd σ' H', E cls dd H' → W cls dd σ' H') (room : Room (k + 1) (X.A.deeper (envOfC qg sg s.heap.objs.size g cdg)))
    (hN : Ng[i]? = some a) (hv : Vis sg a) (hd : (a == ("__debug__" : Str)) = false := by decide) (hcd : (a == ("__classdict__" : Str)) = false := by decide) :
    PE ((cxOf CXg X.prog X.w X.K X.mg X.base Ng qg sg g cdg X.A X.stack s H Eg).tr pn xe) (.Call (.Name a p1) [] [] p2)
      (fun σz Hz Q => σz[i]? = some (some (.ref f)) ∧ Hz c1 = some (CodeO c1 (X.env.qual ++ "<lambda>")) ∧ Hz f = some (FunL X.env d f c1) ∧ t E σ Hz Q) := by
  refine ⟨fun pz sz σz Hz Q Iz ⟨slot, code, func, goOn⟩ => ?_⟩
  refine wpAny_Call_Name_kw (thn ((pe_var (pos := p1) (i := i) hN hv hd hcd).run pz sz σz Hz (fun v H1 => v = .ref f ∧ H1 = Hz) Iz ⟨.ref f, slot, rfl, rfl⟩) fun u s1 ⟨v, H1, I1, rel, isF, isH⟩ => ?_)
  subst isF isH
  have isU : u = Value.ref f := rel
  subst isU
  obtain ⟨⟨pm, ctv, fAt⟩, _, _⟩ := I1.hok f _ func
  obtain ⟨⟨oc, fields, tok, ocAt, isFields, name⟩, _, _⟩ := I1.hok c1 _ code
  refine PySem.W.callWith_F0 ⟨_, _, _, _, fAt⟩ ?_
  have since : Un (frs X.stack) [] H H1 s.heap s1.heap := I1.base
  have entered : codeAny (model X.prog X.w) (X.A.deeper (envOfC qg sg s.heap.objs.size g cdg)) (.call (.ref f) ⟨[], []⟩) (CR (L2.CX X.prog X.w) (envOfC qg sg s.heap.objs.size g cdg :: X.stack) X.prog X.w H1 s1 Q E) s1 := by
    refine PySem.W.kla_callFunE room.depth fAt rfl O.L.co O.L.gen rfl ⟨c1, oc, fields, tok, rfl, ocAt, isFields, name⟩ ?_
    rw [O.bind]
    refine wpAny_pure (wpAny_newFunctionEnv (fun y hy => (O.L.own y hy).2) (fun y hy => absurd hy (by simp)) (fun h1 names sub => ⟨I1.nolimit.fresh _ sub, ?_⟩) O.L.kind)
    have still : ∀ b o, s1.heap.get? b = some o → h1.get? b = some o := fun b o e => sub.extBut b o (Nat.ne_of_lt (Heap.lt_size e)) (Heap.get?_push_of_some _ e)
    have J := lam_start2 (tk := s1.toks + ([] : List (Str × Value)).length) (E := E) (f := f) (c' := c1) (A := X.A.deeper (envOfC qg sg s.heap.objs.size g cdg)) (outer := envOfC qg sg s.heap.objs.size g cdg :: X.stack) I O.L I1.env0 room.hd since names still
    show codeAny _ _ (.expr d.body (lamEnv X d.scope s1.heap.objs.size f c1)) _ _
    refine PySem.W.kla_codeExpr (wpAny_mono ((O.body _ _ s1 H1 E f c1 (room.deeper _)).run [] _ _ H1 Q J goOn) (fun v s2 res => ?_) fun _ _ res => res)
    obtain ⟨w2, H2, I2, r2, q2⟩ := res
    exact ⟨w2, H2, I2.os, I2.bare, I2.base, I2.hok, r2, q2⟩
  have passes : Passes (L2.CX X.prog X.w) ((cxOf CXg X.prog X.w X.K X.mg X.base Ng qg sg g cdg X.A X.stack s H Eg).tr pn xe) E := passes_call tk out
  refine wpAny_call (codeAny_mono entered fun res s2 hq => ?_)
  match res, hq with
  | .error e, hq => exact passes pz σz H1 s1 e s2 I1 hq
  | .ok (.ret u), hq => exact I1.after hq
  | .ok .next, hq => exact False.elim hq
  | .ok .brk, hq => exact False.elim hq
  | .ok .cont, hq => exact False.elim hq
/-- what x(name) reads of a kept lambda -/
def tLamU (X : Cx) (k : Nat) (TT : (XK → Hp → VK → Prop) → Hp → VK → Prop) (i : Nat) : TE := fun σ H Q => ∃ f c1 d t, LamOk X k d t ∧ σ[i]? = some (some (.ref f)) ∧ H c1 = some (CodeO c1 (X.env.qual ++ "<lambda>")) ∧ H f = some (FunL X.env d f c1) ∧ TT (fun E H1 Q1 => H1 f = some (FunL X.env d f c1) ∧ t E σ H1 Q1) H Q
/-- x(name), the name that of a kept lambda -/
theorem pe_lamU {TT : (XK → Hp → VK → Prop) → Hp → VK → Prop} {x a y : Str} {g : Addr} {k i : Nat} {pg : Arguments} {bg : List Stmt} {sg : Scope} {dV kV doc pm cdv ct oc : Value} {an od : Option Addr} {osl : Array (Option Value)} {Ng : List Str} {p py pos : PySem.Pos}
    (hg : Gl X x) (hm : X.mg x = some (.ref g)) (hk : PySem.W.keepIn X.K (.ref g) = true)
    (lk : X.K.lookup g = some ⟨oc, od, .func (PySem.W.fnOf x x pg bg sg dV kV doc pm an cdv ct), osl⟩) (hcg : PySem.W.codeIn X.K cdv x = true) (hb : L2.Binds X.K (PySem.W.fnOf x x pg bg sg dV kV doc pm an cdv ct) [a] []) (Sg : FnScope Ng [a] sg) (hNg : Ng[0]? = some a) (hva : Vis sg a)
    (hG : ∀ q, GivesTo X Ng x sg g cdv bg a q TT) (hr : Room (k + 2) X.A) (hy : X.N[i]? = some y) (hvy : Vis X.env.scope y)
    (hdb : (x == ("__debug__" : Str)) = false := by decide) (hd : (a == ("__debug__" : Str)) = false := by decide) (hcd : (a == ("__classdict__" : Str)) = false := by decide) (hdy : (y == ("__debug__" : Str)) = false := by decide) (hcy : (y == ("__classdict__" : Str)) = false := by decide) :
    PE X (.Call (.Name x p) [.Name y py] [] pos) (tLamU X k TT i) := by
  refine ⟨fun pins s σ H Q I ⟨f, c1, d, t, O, slot, code, func, goOn⟩ => ?_⟩
  refine wpAny_Call_Name_kw (ld_glob I hg hm ?_ hdb)
  refine PySem.W.callWith_K (h₀ := X.base) I.ok.mod.kin hk ?_ (by rfl) (by rfl)
  show wpAny _ _ (spliced ((false, eval (.Name y py) X.env) :: backTo pos (starEach [] X.env))) _ _ s
  refine Calls.spliced_cons (thn ((pe_var (pos := py) (i := i) hy hvy hdy hcy).run pins s σ H (fun v H1 => v = .ref f ∧ H1 = H) I ⟨.ref f, slot, rfl, rfl⟩) fun u s1 ⟨v, H1, I1, rel, isF, isH⟩ => ?_)
  subst isF isH
  have isU : u = Value.ref f := rel
  subst isU
  refine Calls.spliced_nil ⟨I1.kIn, ?_⟩
  have ran : codeAny (model X.prog X.w) X.A (.call (.ref g) ⟨[.ref f], []⟩) (CR C8.CX0 X.stack X.prog X.w H1 s1 Q C8.E0) s1 := by
    refine run_ofS (N := Ng) (ps := [a]) (us := [.ref f]) (vs := [.ref f]) lk hcg Sg hr I1.env0 (hb s1 [.ref f] I1.kIn rfl) (.cons rfl .nil) rfl fun room => ?_
    obtain ⟨t', ht', hq'⟩ := hG (X.env.qual ++ "<lambda>") f c1 s1 H1 Q (fun E H2 Q2 => H2 f = some (FunL X.env d f c1) ∧ t E σ H2 Q2) (fun W pn xe E p1 p2 tk out => pe_actV I1 O tk out room hNg hva hd hcd) code goOn
    exact ⟨t', ht'.nox, hq'⟩
  refine wpAny_call (codeAny_mono ran fun res s2 hq => ?_)
  match res, hq with
  | .error e, hq => exact False.elim hq
  | .ok (.ret u), hq => exact I1.after hq
  | .ok .next, hq => exact False.elim hq
  | .ok .brk, hq => exact False.elim hq
  | .ok .cont, hq => exact False.elim hq
end
end Cw
set_option Elab.async false
set_option linter.all false
set_option maxRecDepth 100000
set_option maxHeartbeats 4000000
/-! what the top has left, one lemma a kind -/
namespace Cw
open PySem PySem.Spec L2
section
variable {K : PySem.W.Frag} {h : Heap} {mg : Str → Option Value} {x m qual : Str} {st : Stmt} {f C T : Addr} {oc kV dc pm cd ct oc2 : Value} {od an od2 : Option Addr} {sl sl2 : Array (Option Value)}
theorem glob_mk {v : Value} (X : K.In h) (G : h.Ns mainGlobals mg) (a : PySem.W.nsIn K mainGlobals x = some (some v)) : mg x = some v := PySem.W.mg_of X G a
theorem fnAt_mk (X : K.In h) (G : h.Ns mainGlobals mg) (a : PySem.W.nsIn K mainGlobals x = some (some (.ref f))) (l : K.lookup f = some ⟨oc, od, .func (PySem.W.fnOf x x (defArgs st) (defBody st) (defScope st) .none kV dc pm an cd ct), sl⟩)
    (c : PySem.W.codeIn K cd x = true) (k : PySem.W.keepIn K (.ref f) = true) : FnAt K mg x st := ⟨f, _, PySem.W.mg_of X G a, fun_mk (st := st) l c k⟩
theorem mAt_mk (a : PySem.W.findIn K (.ref C) m = some (some (.ref f))) (i : PySem.W.isFn K (.ref f) = true) (l : K.lookup f = some ⟨oc, od, .func (PySem.W.fnOf m qual (defArgs st) (defBody st) (defScope st) .none kV dc pm an cd ct), sl⟩)
    (c : PySem.W.codeIn K cd qual = true) (k : PySem.W.keepIn K (.ref f) = true) : MAt K C m qual st := ⟨f, _, a, i, fun_mk (st := st) l c k⟩
theorem mAtD_mk {arr : Array Value} {n : Nat} {dvs : List V} (a : PySem.W.findIn K (.ref C) m = some (some (.ref f))) (i : PySem.W.isFn K (.ref f) = true) (l : K.lookup f = some ⟨oc, od, .func (PySem.W.fnOf m qual (defArgs st) (defBody st) (defScope st) (.ref T) kV dc pm an cd ct), sl⟩)
    (c : PySem.W.codeIn K cd qual = true) (k : PySem.W.keepIn K (.ref f) = true) (t : K.lookup T = some ⟨oc2, od2, .seq arr n, sl2⟩) (hv : Vals dvs arr.toList) (hd : dvs ≠ []) : MAtD K C m qual st dvs :=
  ⟨f, _, a, i, ⟨⟨oc, od, .ref T, kV, dc, pm, an, cd, ct, sl, rfl, l, c, .inr ⟨hd, T, _, arr.toList, n, rfl, t, rfl, hv⟩, .inl rfl⟩, k⟩⟩
theorem cls_mk (X : K.In h) (G : h.Ns mainGlobals mg) (a : PySem.W.nsIn K mainGlobals x = some (some (.ref C))) (pg : PySem.W.plainGet K C Str.empty = true) (hd : PySem.W.hasDictIn K C = true) (po : PySem.W.plainOver K C = true)
    (sa : PySem.W.findIn K (.ref C) "__setattr__" = some (some (.builtin "object.__setattr__"))) (mk : PySem.W.makesIn K C = true) (kc : PySem.W.keepIn K (.ref C) = true)
    (ha : PySem.W.findIn K (.ref C) "__class__" = some (some (.builtin "object.__class__"))) (hn : PySem.W.specialIn K (.builtin "object.__class__") "__get__" = some (some (.builtin "getset_descriptor.__get__"))) (ht : PySem.W.takesIn K (.builtin "object.__class__") = some true)
    (hm : PySem.W.mroIn K C (.type "object") = some true) (ob : PySem.W.subIn K (.ref C) (.type "object") = some true) (ne : PySem.W.findIn K (.ref C) "__ne__" = some (some (.builtin "object.__ne__"))) : ClsF K mg x C :=
  ⟨PySem.W.mg_of X G a, ⟨pg, hd, po, sa⟩, mk, kc, ha, hn, ht, hm, ob, ne⟩
theorem exc_mk (X : K.In h) (G : h.Ns mainGlobals mg) (a : PySem.W.nsIn K mainGlobals x = some (some (.ref C))) (e : PySem.W.excIn K C [.type "ValueError", .type "Exception", .type "BaseException", .type "object"] "ValueError.__new__" = true) (k : PySem.W.keepIn K (.ref C) = true) (ty : PySem.W.typeIn K (.ref C) = some (.type "type"))
    (hg : PySem.W.findIn K (.ref C) "__getattribute__" = some (some (.builtin "BaseException.__getattribute__"))) (hk : PySem.W.findIn K (.ref C) "__getattr__" = some none) (hs : PySem.W.subIn K (.ref C) (.type "BaseException") = some true) (hd : PySem.W.hasDictIn K C = true)
    (ha : PySem.W.findIn K (.ref C) "__class__" = some (some (.builtin "object.__class__"))) (hn : PySem.W.specialIn K (.builtin "object.__class__") "__get__" = some (some (.builtin "getset_descriptor.__get__"))) (ht : PySem.W.takesIn K (.builtin "object.__class__") = some true) (hm : PySem.W.mroIn K C (.type "object") = some true) : ExcF K mg x C :=
  ⟨PySem.W.mg_of X G a, e, k, ty, ⟨hg, hk, hs, hd, ha, hn, ht, hm⟩⟩
theorem fun1_mk (X : K.In h) (G : h.Ns mainGlobals mg) {fa : Addr} (hm : mg x = some (.ref fa)) (a : PySem.W.nsIn K mainGlobals x = some (some (.ref f))) (l : K.lookup f = some ⟨oc, od, .func (PySem.W.fnOf x x (defArgs st) (defBody st) (defScope st) .none kV dc pm an cd ct), sl⟩)
    (c : PySem.W.codeIn K cd x = true) (k : PySem.W.keepIn K (.ref f) = true) : Fun K x x st fa (PySem.W.fnOf x x (defArgs st) (defBody st) (defScope st) .none kV dc pm an cd ct) := by
  have e := hm.symm.trans (PySem.W.mg_of X G a)
  cases e
  exact fun_mk (st := st) l c k
end
end Cw
set_option Elab.async false
set_option linter.all false
set_option maxRecDepth 100000
set_option maxHeartbeats 4000000
/-! an own exception with fields: what the top has left of it -/
namespace Cw
open PySem PySem.Spec L2
theorem exE_mk {P : Program} {K : PySem.W.Frag} {h : Heap} {mg : Str → Option Value} {x qual nm q : Str} {st : Stmt} {C N f cda cc : Addr} {bs bm sub : List Value} {sn : List Str} {ab : Bool} {col : Option Bool} {dd : Option Addr} {k0 k1 k2 k3 k5 : Option Value}
    {oc kV doc pm ct ccl cl : Value} {od an cdd cld : Option Addr} {sl ccs csl : Array (Option Value)} {vs : Array Value} {file : Str} {tf : Tok} {ar : Arg}
    (X : K.In h) (G : h.Ns mainGlobals mg) (a : PySem.W.nsIn K mainGlobals x = some (some (.ref C)))
    (lk : K.lookup C = some (excClassObj nm q C N bs bm true sn sub ab col dd k0 k1 k2 k3 k5 "ValueError.__new__")) (rv : PySem.HandSPX.refsVE bm = true)
    (sa : PySem.W.findIn K (.ref C) "__setattr__" = some (some (.builtin "object.__setattr__"))) (hs : PySem.W.subIn K (.ref C) (.type "BaseException") = some true) (ty : PySem.W.typeIn K (.ref C) = some (.type "type")) (k : PySem.W.keepIn K (.ref C) = true)
    (hg : PySem.W.findIn K (.ref C) "__getattribute__" = some (some (.builtin "BaseException.__getattribute__"))) (hk : PySem.W.findIn K (.ref C) "__getattr__" = some none) (hd : PySem.W.hasDictIn K C = true)
    (ha : PySem.W.findIn K (.ref C) "__class__" = some (some (.builtin "object.__class__"))) (hn : PySem.W.specialIn K (.builtin "object.__class__") "__get__" = some (some (.builtin "getset_descriptor.__get__"))) (ht : PySem.W.takesIn K (.builtin "object.__class__") = some true) (hm : PySem.W.mroIn K C (.type "object") = some true)
    (fi : PySem.W.findIn K (.ref C) "__init__" = some (some (.ref f))) (ti : PySem.W.typeIn K (.ref f) = some (.type "function"))
    (lf : K.lookup f = some ⟨oc, od, .func (PySem.W.fnX "__init__" qual (defArgs st) (defBody st) (defScope st) [(("__class__" : Str), cc)] .none kV doc pm an (.ref cda) ct), sl⟩)
    (cd : PySem.W.codeIn K (.ref cda) qual = true) (par : ((defArgs st).posonlyargs ++ (defArgs st).args).head? = some ar) (par2 : ar.arg = "self")
    (lc : K.lookup cda = some ⟨ccl, cdd, .fields vs, ccs⟩) (v2 : vs[2]? = some (.str file tf)) (fe : ((P.main.file : Str) == file) = true) (top : (P.main.scope.names.lookup ("super" : Str)).isSome = false)
    (lcc : K.lookup cc = some ⟨cl, cld, .cell (some (.ref C)), csl⟩) (op : PySem.W.nsIn K PySem.cStatics "thirdparty.any" = some none) (up : PySem.W.ks_superIn K C C "__init__" = some (some (.builtin "ValueError.__init__"))) : ExcE P K mg x C qual st :=
  ⟨PySem.W.mg_of X G a, ⟨⟨_, _, _, _, _, _, _, _, _, _, _, _, _, _, _, lk, rv⟩, sa, hs, ty, k⟩, ⟨hg, hk, hs, hd⟩, ⟨hg, hk, hs, hd, ha, hn, ht, hm⟩, f, cda, cc, _, kV, doc, pm, an, ct, fi, ti, rfl, cd, ⟨_, _, _, lf⟩, ⟨ar, par, par2⟩, ⟨_, _, _, _, _, _, lc, v2, fe⟩, top, ⟨_, _, _, lcc⟩, op, up⟩
theorem kit_ref {K : PySem.W.Frag} {C : Addr} {t : Value} {b : Bool} (hc : PySem.W.isClsIn K C = true) (ht : PySem.W.typeIn K (.ref C) = some (.type "type")) (hs : PySem.W.subIn K t (.ref C) = some b) (hn : (t == .ref C) = false ∨ b = true) : PySem.W.kitOne K t (.ref C) = some b := by
  unfold PySem.W.kitOne
  by_cases e : (t == .ref C) = true
  · rw [if_pos e]
    rcases hn with h | h
    · rw [h] at e; cases e
    · rw [h]
  · rw [if_neg e]
    have h2 : ((PySem.W.clsIn K C).isSome && PySem.W.typeIn K (.ref C) == some (.type "type")) = true := by
      have : (PySem.W.clsIn K C).isSome = true := hc
      rw [this, ht]
      rfl
    show (if ((PySem.W.clsIn K C).isSome && PySem.W.typeIn K (.ref C) == some (.type "type")) = true then PySem.W.subIn K t (.ref C) else none) = some b
    rw [if_pos h2]
    exact hs
end Cw
set_option Elab.async false
set_option linter.all false
set_option maxRecDepth 100000
set_option maxHeartbeats 4000000
/-! the end of a law whose defs make lambdas -/
namespace Cw
open PySem PySem.Spec L2
section
variable {K : PySem.W.Frag} {h : Heap} {mg : Str → Option Value} {x qual : Str} {f fa c : Addr} {st : Stmt} {oc kV dc pm ct : Value} {od an : Option Addr} {sl : Array (Option Value)}
theorem fnAtC_mk (X : K.In h) (G : h.Ns mainGlobals mg) (a : PySem.W.nsIn K mainGlobals x = some (some (.ref f))) (l : K.lookup f = some ⟨oc, od, .func (PySem.W.fnOf x x (defArgs st) (defBody st) (defScope st) .none kV dc pm an (.ref c) ct), sl⟩)
    (cd : PySem.W.codeIn K (.ref c) x = true) (k : PySem.W.keepIn K (.ref f) = true) : FnAtC K mg x st c := ⟨f, _, PySem.W.mg_of X G a, ⟨⟨oc, od, kV, dc, pm, an, ct, sl, rfl, l, cd⟩, k⟩⟩
end
end Cw
set_option Elab.async false
set_option linter.all false
set_option maxRecDepth 100000
set_option maxHeartbeats 4000000
/-! the end of a law with three tables of code objects -/
namespace Cw
open PySem PySem.Spec L2
theorem mem3 {α : Type} {a b c : α} {M : α → Prop} {p : α} (hp : p ∈ [a, b, c]) (h1 : M a) (h2 : M b) (h3 : M c) : M p := by
  rcases List.mem_cons.mp hp with rfl | hp
  · exact h1
  · rcases List.mem_cons.mp hp with rfl | hp
    · exact h2
    · rw [List.mem_singleton.mp hp]
      exact h3
theorem tabs_three {H : Hp} {P1 P2 P3 : Addr} {q1 q2 q3 : Str} (h1 : H P1 = some (.tbl #[])) (h2 : H P2 = some (.tbl #[])) (h3 : H P3 = some (.tbl #[])) : LamX.Tabs [(P1, q1), (P2, q2), (P3, q3)] H := fun p hp =>
  mem3 (M := fun p => LamX.TabS H p.1 p.2) hp (LamX.TabS.nil h1) (LamX.TabS.nil h2) (LamX.TabS.nil h3)
theorem of_three {P1 P2 P3 : Addr} {q1 q2 q3 : Str} (h12 : P1 ≠ P2) (h13 : P1 ≠ P3) (h23 : P2 ≠ P3) : (∀ p ∈ [(P1, q1), (P2, q2), (P3, q3)], p.1 = P1 → p.2 = q1) ∧ (∀ p ∈ [(P1, q1), (P2, q2), (P3, q3)], p.1 = P2 → p.2 = q2) ∧ ∀ p ∈ [(P1, q1), (P2, q2), (P3, q3)], p.1 = P3 → p.2 = q3 := by
  refine ⟨fun p hp => ?_, fun p hp => ?_, fun p hp => ?_⟩
  · exact mem3 (M := fun p => p.1 = P1 → p.2 = q1) hp (fun _ => rfl) (fun z => absurd z.symm h12) (fun z => absurd z.symm h13)
  · exact mem3 (M := fun p => p.1 = P2 → p.2 = q2) hp (fun z => absurd z h12) (fun _ => rfl) (fun z => absurd z.symm h23)
  · exact mem3 (M := fun p => p.1 = P3 → p.2 = q3) hp (fun z => absurd z h13) (fun z => absurd z h23) (fun _ => rfl)
theorem end_walkT3 {l : PySem.W.OpenLaw} {q : Program} {loose : List Str} {XP : (Str → Option Value) → Heap → Prop} {YP : World → Heap → Prop} {d : DefRec} {K : Params → PySem.W.Frag} {k : Nat} {x : Str} {P1 P2 P3 : Addr} {q1 q2 q3 : Str} {sp : PySem.W.Frag → Sp} (hn : l.most = some 63) (hdf : d.params.defaults = []) (hr : Room k callerA)
    (hY : ∀ (w : World) (h : Heap), YP w h → (K w.params).In h) (hT : ∀ (w : World) (h : Heap), YP w h → h.get? P1 = some { cls := .none, data := .fields #[] } ∧ h.get? P2 = some { cls := .none, data := .fields #[] } ∧ h.get? P3 = some { cls := .none, data := .fields #[] })
    (nT : ∀ w : World, (K w.params).lookup P1 = none ∧ (K w.params).lookup P2 = none ∧ (K w.params).lookup P3 = none)
    (hsp : ∀ (K : PySem.W.Frag) (H : Hp) (a : Addr) (ns : List Int), ns.length ≤ 63 → LamX.Tabs [(P1, q1), (P2, q2), (P3, q3)] H → SqL K H a (ns.map V.int) → sp K [.ref a] H (fun v _ => v = .bl true) fun _ _ _ => False)
    (F : ∀ (w : World) (mg : Str → Option Value) (fa : Addr) (h : Heap), (K w.params).In h → h.Ns mainGlobals mg → mg d.name = some (.ref fa) →
      ∃ (fd : FuncData) (c1 c2 c3 : Addr), PySem.W.codeHdIn (K w.params) c1 P1 = true ∧ PySem.W.codeHdIn (K w.params) c2 P2 = true ∧ PySem.W.codeHdIn (K w.params) c3 P3 = true ∧ (∀ (s : Shared) (u : Value), BindsTo s fd ⟨[u], []⟩ [(x, u)]) ∧
        ∀ base : Heap, (K w.params).In base → base.Ns mainGlobals mg → LamX.TabB base mg c1 P1 → LamX.TabB base mg c2 P2 → LamX.TabB base mg c3 P3 → FnOk l.prog w (K w.params) mg base CX0 k fa fd [x] (sp (K w.params))) :
    PySem.W.WalkO q loose XP YP l.row.toRowW d [] (fun f vs => PySem.call f vs) := by
  refine LamX.walk_ofTs (n := 63) (x := x) (CX := fun _ => CX0) hn (by decide) hdf hr hY (fun w mg fa h Y KX G hmg => ?_) fun _ _ _ _ _ z => z
  obtain ⟨fd, c1, c2, c3, e1, e2, e3, hb, hF⟩ := F w mg fa h KX G hmg
  obtain ⟨t1, t2, t3⟩ := hT w h Y
  obtain ⟨n1, n2, n3⟩ := nT w
  refine ⟨fd, [(c1, P1), (c2, P2), (c3, P3)], sp (K w.params), fun p hp => mem3 (M := fun p => h.get? p.2 = some { cls := .none, data := .fields #[] }) hp t1 t2 t3, fun p hp => mem3 (M := fun p => (K w.params).lookup p.2 = none) hp n1 n2 n3, fun p hp => mem3 (M := fun p => PySem.W.CodeHd h p.1 p.2) hp (PySem.W.codeHd_of_K KX e1) (PySem.W.codeHd_of_K KX e2) (PySem.W.codeHd_of_K KX e3), hb, fun H a ns hl _ ht hS => ?_, fun base hK hG hB => ?_⟩
  · exact hsp _ H a ns hl (tabs_three (ht _ (.head _)) (ht _ (.tail _ (.head _))) (ht _ (.tail _ (.tail _ (.head _))))) hS
  · exact hF base hK hG (hB _ (.head _)) (hB _ (.tail _ (.head _))) (hB _ (.tail _ (.tail _ (.head _))))
end Cw
set_option Elab.async false
set_option linter.all false
set_option maxRecDepth 100000
set_option maxHeartbeats 4000000
/-! CwHeadK: the head with the law's heap told, by one run of the top over the tree -/
namespace CwTop
open PySem PySem.W PySem.Calls PyProof.Rows
/-- a hook named -/
def TagH (_ : Hook) : Prop := True
end CwTop
set_option Elab.async false
set_option linter.all false
set_option maxRecDepth 100000
set_option maxHeartbeats 4000000
/-! CwHeadKm: as CwHeadK, the tables of the code objects told too -/
namespace CwTop
open PySem PySem.W PySem.Calls PyProof.Rows
theorem headKm {r : OpenRow} {q : Program} {K : Params → PySem.W.Frag} {as ts : List Addr} {ek : ∀ P, as = (K P).map (·.1)} {M : Nat} {loose : List PySem.Str} {d : DefRec} {kwd : List (PySem.Str × PySem.Expr)} (_ : TagH (kmHook K as ek ts))
    (e : opening r.prog = plainProg r.prog.main.scope.names) (f : ∀ s, fenceModules? r.prog s = some s) (run : ∀ w, HandSHeadRun.RunEq r q (kmHook K as ek ts) (fun s => (as.map (HandSHeadRun.getT s), ts.map (HandSHeadRun.getT s))) M loose w)
    (hdef : defOf q r.name = some (d, kwd)) (hp : r.prog.theDef r.name = some (d.params, d.body, d.scope)) (hk : kwWritten? d.params.kwonlyargs d.params.kw_defaults = some kwd)
    (hwr : (!r.writes || r.records.isEmpty) = true) (k1 : r.wellSaid = true) (ok : (chainsOk q && opensWell r.prog && (frees r.toRowW && r.within.isEmpty)) = true) (hb : r.prog.bare) (hw : r.toRowW.promised)
    (call : WalkO q loose (XL q []) (kmHook K as ek ts).says r.toRowW d kwd fun f vs => PySem.call f vs) : r.Holds := by
  have ho : ∀ (s : SharedT) (l : List Addr), l.map (HandSHeadRun.getT s) = l.map s.abs.heap.get? := fun s l => List.map_congr_left fun a _ => HandSHeadRun.getT_eq s a
  exact HandSHeadRun.head_any (H := kmHook K as ek ts) (ob := fun s => (as.map (HandSHeadRun.getT s), ts.map (HandSHeadRun.getT s))) (fun s => by rw [ho s as, ho s ts]; rfl) e f run hdef hp hk hwr k1 ok hb hw call
end CwTop
set_option Elab.async false
set_option linter.all false
set_option maxRecDepth 100000
namespace CwTop
open PySem PySem.W PySem.Calls PyProof.Rows
abbrev topRow : OpenRow := OpenLaw.row PySem.Challenge.rw_crosswalls_k23_blocks_of_rooms
abbrev topView : Program := view topRow.prog [topRow.prog.main.body.length - 1]
def topLoose : List PySem.Str := topRow.prog.boundNames.filter fun x => x != topRow.name
end CwTop
open PySem PySem.W PySem.Calls PyProof.Rows in
local macro_rules | `(tactic| o_head $H) => `(tactic| refine CwTop.headKm (r := CwTop.topRow) (q := CwTop.topView) (M := 9000) (loose := CwTop.topLoose) (show CwTop.TagH $H from trivial) (by kernel_rfl) (fun s => by kernel_rfl) (fun w => by intro os; kernel_rfl) (by rfl) (by rfl) (by rfl) (by rfl) (by first | assumption | decide +kernel) (by decide +kernel) ⟨rfl, rfl, rfl, rfl, rfl, by decide +kernel⟩ ?hw ?hc)
open PySem PySem.W PyProof.Rows in
set_option maxHeartbeats 0 in
open_top Cw.headOf for PySem.Challenge.rw_crosswalls_k23_blocks_of_rooms
set_option Elab.async false
set_option linter.all false
set_option maxRecDepth 100000
set_option maxHeartbeats 4000000
namespace Cw
open PySem PySem.Spec L2
local macro_rules | `(tactic| walk_at "side") => `(tactic| first | omega | assumption | (dsimp only; omega) | (unfold CMul; omega) | exact ⟨by decide, by decide, by decide⟩ | exact wdiv (by first | assumption | decide | omega) (by first | assumption | decide | omega) | (simp only [List.length_cons, List.length_nil]; omega) | rfl)
local macro_rules | `(tactic| walk_at "hl") => `(tactic| first | assumption | exact upd_same | ((refine Cw.Same.at (by assumption) ?_); walk_at "hl") | ((refine Cw.Keep.at (by assumption) ?_ (by assumption)); walk_at "hl"))
local macro_rules | `(tactic| walk_at "st") => `(tactic| first
  | (with_reducible refine s_seq ?_) | (with_reducible refine g_nm ?_) | (with_reducible refine s_next ?_) | (with_reducible refine s_set ?_) | (with_reducible refine s_drop ?_) | (with_reducible refine s_ret ?_) | (with_reducible refine s_if ?_)
  | ((with_reducible refine e_varG ?_); refine ⟨_, (by with_unfolding_all rfl), ?_⟩) | (with_reducible refine e_c ?_) | (with_reducible refine e_op ?_) | (with_reducible refine e_un ?_)
  | (with_reducible refine e_cons ?_) | (with_reducible refine e_nil ?_) | (with_reducible refine e_cb ?_) | (with_reducible refine e_call ?_) | (with_reducible refine e_md ?_)
  | (with_reducible refine t_test ?_) | (with_reducible refine t_B ?_) | (with_reducible refine t_and ?_) | (with_reducible refine t_or ?_) | (with_reducible refine t_not ?_)
  | (with_reducible refine e_andV ?_) | (with_reducible refine e_orV ?_) | (with_reducible refine e_notV ?_) | (with_reducible refine e_if ?_)
  | (with_reducible refine v_I0 ?_) | ((with_reducible refine v_I ?c ?_); try (case c => walk_at "side")) | (with_reducible refine v_bl ?_)
  | ((with_reducible refine v_eq ?c ?_); (case c => with_unfolding_all rfl)) | ((with_reducible refine v_ne ?c ?_); (case c => with_unfolding_all rfl))
  | (with_reducible refine v_inti ?_) | (with_reducible refine v_intb ?_) | ((with_reducible refine v_lenG ?_); refine ⟨_, (by walk_at "hl"), ?_⟩)
  | ((with_reducible refine v_lenS ?c ?_); try (case c => walk_at "side"))
  | (with_reducible refine e_dnew ?_) | (with_reducible refine e_dget ?_) | (with_reducible refine s_dput ?_) | (with_reducible refine e_lst ?_) | (with_reducible refine e_tup ?_)
  | ((with_reducible refine v_lst ?c ?_); (case c => walk_at "side")) | ((with_reducible refine v_tup ?c ?_); (case c => walk_at "side"))
  | ((with_reducible refine v_dgetG ?_); refine ⟨_, (by assumption), ?_⟩)
  | (with_reducible refine e_sl ?_) | (with_reducible refine e_nopart ?_) | (with_reducible refine e_part ?_) | (with_reducible refine e_m1 ?_) | (with_reducible refine v_isS ?_) | (with_reducible refine v_int ?_)
  | (with_reducible refine e_lc ?_) | (with_reducible refine e_iStr ?_) | (with_reducible refine e_iEnumS ?_) | (with_reducible refine v_iEnumS ?_) | (with_reducible refine v_str ?_) | (with_reducible refine e_yes ?_) | (with_reducible refine e_fld ?_) | (with_reducible refine e_sfld ?_)
  | ((with_reducible refine v_addS ?c ?_); try (case c => walk_at "side")) | (with_reducible refine v_inS ?_) | (with_reducible refine v_notInS ?_) | (with_reducible refine v_ltS ?_)
  | ((with_reducible refine v_inLG ?_); refine ⟨_, (by walk_at "hl"), ?_⟩) | (with_reducible refine v_isiS ?_) | (with_reducible refine e_revS ?_) | ((with_reducible refine v_revS ?c ?_); try (case c => walk_at "side"))
  | ((with_reducible refine v_lenSetG ?_); refine ⟨_, (by walk_at "hl"), ?_⟩)
  | (with_reducible refine e_bm ?_) | (with_reducible refine e_bm0 ?_) | ((with_reducible refine v_tyLG ?_); refine ⟨_, (by walk_at "hl"), ?_⟩)
  | (with_reducible refine iteNT ?_) | (with_reducible refine iteNF ?_) | (with_reducible refine e_for ?_)
  | (with_reducible refine e_iL ?_) | (with_reducible refine e_iT ?_) | ((with_reducible refine v_iLG ?_); refine ⟨_, (by walk_at "hl"), ?_⟩) | (with_reducible refine e_iR1 ?_) | ((with_reducible refine v_iR1 ?c1 ?c2 ?_); try (case c1 => walk_at "side"); try (case c2 => walk_at "side"))
  | (with_reducible refine e_iR2 ?_) | ((with_reducible refine v_iR2 ?c1 ?_); try (case c1 => walk_at "side"))
  | (with_reducible refine e_pr0 ?_) | (with_reducible refine e_pr ?_) | (with_reducible refine e_disp ?_) | (with_reducible refine s_asgT ?_) | (with_reducible refine e_tryA ?_) | (with_reducible refine e_callS ?_) | (with_reducible refine e_mdS ?_) | (with_reducible refine e_par ?_) | (with_reducible refine v_par ?_) | (with_reducible refine e_par3 ?_) | (with_reducible refine v_par3 ?_) | (with_reducible refine e_iK ?_) | (with_reducible refine e_dnotin ?_)
  | (with_reducible refine iteT ?_) | (with_reducible refine iteF ?_))
local macro_rules | `(tactic| walk_at "go") => `(tactic| repeat walk_at "st")
section
open PySem PySem.Spec L2
def top (i : Nat) : Stmt := PySem.Challenge.pw_crosswalls_k23_blocks_of_rooms.main.body.getD i (.Pass ⟨0, 0, 0, 0⟩)
/-! ### the pen -/
def penL (cl : Addr) (a r : Int) : List (Key × V) := [(Sum.inr "cells", .ref cl), (Sum.inr "place", .int a), (Sum.inr "rest", .int r)]
structure Pen where
  p : Addr
  cl : Addr
  cells : List Int
structure PenAt (g : Pen) (H : Hp) (n : Nat) : Prop where
  ex : ∃ (a r : Int), H g.p = some (.dK (penL g.cl a r)) ∧ H g.cl = some (.lst (g.cells.map V.int)) ∧ g.cells.length ≤ 63 ∧ 0 ≤ a ∧ a ≤ n ∧ 0 ≤ r
section
variable {g : Pen} {H H' : Hp} {n m : Nat} {q : Addr}
theorem PenAt.mono (h : PenAt g H n) (l : n ≤ m) : PenAt g H m := by
  obtain ⟨a, r, h1, h2, h3, h4, h5, h6⟩ := h.ex
  exact ⟨a, r, h1, h2, h3, h4, by omega, h6⟩
theorem PenAt.same (h : PenAt g H n) (s : Same H H') : PenAt g H' n := by
  obtain ⟨a, r, h1, h2, h3, h4, h5, h6⟩ := h.ex
  exact ⟨a, r, s _ _ h1, s _ _ h2, h3, h4, h5, h6⟩
theorem PenAt.keep (h : PenAt g H n) (s : Keep q H H') (n1 : g.p ≠ q) (n2 : g.cl ≠ q) : PenAt g H' n := by
  obtain ⟨a, r, h1, h2, h3, h4, h5, h6⟩ := h.ex
  exact ⟨a, r, s _ _ h1 n1, s _ _ h2 n2, h3, h4, h5, h6⟩
theorem PenAt.p_ne (h : PenAt g H n) (s : H q = none) : g.p ≠ q := by
  obtain ⟨a, r, h1, h2, h3, h4, h5, h6⟩ := h.ex
  exact ne_of_none h1 s
theorem PenAt.cl_ne (h : PenAt g H n) (s : H q = none) : g.cl ≠ q := by
  obtain ⟨a, r, h1, h2, h3, h4, h5, h6⟩ := h.ex
  exact ne_of_none h2 s
end
theorem kcp : ¬ ((Sum.inr ("cells" : Str) : Key) = Sum.inr ("place" : Str)) := by decide +kernel
theorem kcr : ¬ ((Sum.inr ("cells" : Str) : Key) = Sum.inr ("rest" : Str)) := by decide +kernel
theorem kpr : ¬ ((Sum.inr ("place" : Str) : Key) = Sum.inr ("rest" : Str)) := by decide +kernel
section
variable {H : Hp} {p cl : Addr} {a r z : Int}
theorem pen_cells (h : H p = some (.dK (penL cl a r))) : DGet H p (.str "cells") (some (.ref cl)) := by
  have e := DGet.k (k := Sum.inr "cells") h
  rw [penL, valV_pos rfl] at e
  exact e
theorem pen_place (h : H p = some (.dK (penL cl a r))) : DGet H p (.str "place") (some (.int a)) := by
  have e := DGet.k (k := Sum.inr "place") h
  rw [penL, valV_neg kcp, valV_pos rfl] at e
  exact e
theorem pen_rest (h : H p = some (.dK (penL cl a r))) : DGet H p (.str "rest") (some (.int r)) := by
  have e := DGet.k (k := Sum.inr "rest") h
  rw [penL, valV_neg kcr, valV_neg kpr, valV_pos rfl] at e
  exact e
theorem put_place : putK (penL cl a r) (Sum.inr "place") (.int z) = penL cl z r := by
  unfold putK penL
  rw [if_pos (by rw [valV_any]; first | (rw [valV_neg kcp, valV_pos rfl] <;> rfl) | (rw [valV_neg kcr, valV_neg kpr, valV_pos rfl] <;> rfl))]
  show [(if _ then _ else _), (if _ then _ else _), (if _ then _ else _)] = _
  rw [if_neg kcp, if_pos rfl, if_neg (fun e => kpr e.symm)]
theorem put_rest : putK (penL cl a r) (Sum.inr "rest") (.int z) = penL cl a z := by
  unfold putK penL
  rw [if_pos (by rw [valV_any]; first | (rw [valV_neg kcp, valV_pos rfl] <;> rfl) | (rw [valV_neg kcr, valV_neg kpr, valV_pos rfl] <;> rfl))]
  show [(if _ then _ else _), (if _ then _ else _), (if _ then _ else _)] = _
  rw [if_neg kcr, if_neg kpr, if_pos rfl]
theorem pen_setPlace (h : H p = some (.dK (penL cl a r))) : DPut H p (.str "place") (.int z) (upd H p (.dK (penL cl z r))) := by
  have e := DPut.k (k := Sum.inr "place") (v := .int z) h (by show 3 < sizeLine; decide)
  rw [put_place] at e
  exact e
theorem pen_setRest (h : H p = some (.dK (penL cl a r))) : DPut H p (.str "rest") (.int z) (upd H p (.dK (penL cl a z))) := by
  have e := DPut.k (k := Sum.inr "rest") (v := .int z) h (by show 3 < sizeLine; decide)
  rw [put_rest] at e
  exact e
end
/-! ### the module's built-in names -/
structure Txt (K : PySem.W.Frag) (mg : Str → Option Value) : Prop where
  len : mg "len" = none
  int : mg "int" = none
  list : mg "list" = none
def spDraw : Sp := fun vs H Q _ => ∃ (g : Pen) (m : Int) (n : Nat), vs = [.ref g.p, .int m] ∧ 0 < m ∧ m < 1000000 ∧ PenAt g H n ∧ n < 1000000 ∧
  ∀ (z : Int) (H' : Hp), 0 ≤ z → z < m → PenAt g H' (n + 1) → Keep g.p H H' → Q (.int z) H'
section
variable {P : Program} {w : World} {K : PySem.W.Frag} {mg : Str → Option Value} {base : Heap}
abbrev stdraw : Stmt := (top 46)
abbrev Ndraw : List Str := ["_law_pen_here", "_law_number", "_law_digit", "_law_at", "_law_cell", "_law_mixed"]
theorem scdraw : FnScope Ndraw ["_law_pen_here", "_law_number"] (defScope stdraw) := ⟨rfl, rfl, rfl, by decide +kernel, rfl, by decide +kernel, by decide +kernel⟩

theorem ok_draw (F : FnAt K mg "_law_draw" stdraw) (T : Txt K mg) : Def P w K mg base CX0 1 "_law_draw" ["_law_pen_here", "_law_number"] spDraw := by
  refine F.ok scdraw (fun _ _ _ _ _ _ us hl => match us, hl with | [_, _], _ => rfl) (fun vs H Q E h => ?_) (fun f cdv A outer s H vs Q E hr h => ?_)
  · obtain ⟨p, m, n, rfl, _⟩ := h
    rfl
  obtain ⟨⟨p, cl, cells⟩, m, n, rfl, hm0, hm1, hp, hn, k⟩ := h
  have hu := hu_of hr
  have nd := scdraw.nd
  refine ⟨_, (pss_cons (ps_if (pt_cmpR op_ge (pe_dget hu (pv 0) pe_str (fun _ _ => rfl)) (pv 1) (nomark _))
      (pss_cons (ps_set (i := 2) nd rfl (Or.inl rfl) (pe_op op_mod (pe_callTy c_int (by rfl) T.int (by decide +kernel) (pa_cons (pe_dget hu (pv 0) pe_str (fun _ _ => rfl)) pa_nil)) (pv 1)))
        (pss_cons (ps_dput hu (pv 0) pe_str (pe_op op_fdivW (pe_dget hu (pv 0) pe_str (fun _ _ => rfl)) (pv 1)) rfl)
        (pss_one (ps_ret (pv 2)))))
      pss_nil)
      (pss_cons (ps_set (i := 3) nd rfl (Or.inl rfl) (pe_dget hu (pv 0) pe_str (fun _ _ => rfl)))
      (pss_cons (ps_dput hu (pv 0) pe_str (pe_op op_add (pv 3) pe_int) rfl)
      (pss_cons (ps_set (i := 4) nd rfl (Or.inl rfl) (pe_op op_add (pe_op op_mul pe_int (pv 3)) pe_int))
      (pss_cutS (ps_if (pt_cmpR (op_neDK (K := K) rfl hr.units) (pe_dget hu (pv 0) pe_str (fun _ _ => rfl)) (pe_lst pa_nil) (nomark _))
      (pss_one (ps_set (i := 4) nd rfl (Or.inl rfl) (pe_ix (ix_LK (K := K) rfl) (pe_dget hu (pv 0) pe_str (fun _ _ => rfl)) (pe_op op_mod (pe_callTy c_int (by rfl) T.int (by decide +kernel) (pa_cons (pv 3) pa_nil)) (pe_callB (c_lenK (K := K) rfl) (by rfl) T.len PySem.boot_len (pa_cons (pe_dget hu (pv 0) pe_str (fun _ _ => rfl)) pa_nil))) (fun _ _ => rfl))))
      pss_nil)
      (pss_cutS (ps_if (PW.pt (pw_and (pt_cmpR op_lt (pv 3) (pe_callB (c_lenK (K := K) rfl) (by rfl) T.len PySem.boot_len (pa_cons (pe_dget hu (pv 0) pe_str (fun _ _ => rfl)) pa_nil)) (nomark _)) (pw_and1 (pt_cmpR op_ge (pv 4) (pe_op op_pow pe_int pe_int) (nomark _)))))
      (pss_cons (ps_dput hu (pv 0) pe_str (pe_op op_fdivW (pe_op op_sub (pv 4) (pe_op op_pow pe_int pe_int)) (pv 1)) rfl)
        (pss_one (ps_ret (pe_op op_mod (pe_callTy c_int (by rfl) T.int (by decide +kernel) (pa_cons (pe_op op_sub (pv 4) (pe_op op_pow pe_int pe_int)) pa_nil)) (pv 1)))))
      pss_nil)
      (pss_cons (ps_set (i := 5) nd rfl (Or.inl rfl) (pe_op op_mod (pe_callTy c_int (by rfl) T.int (by decide +kernel) (pa_cons (pe_op op_add (pe_op op_add (pe_op op_add (pe_op op_mul (pe_op op_mod (pe_callTy c_int (by rfl) T.int (by decide +kernel) (pa_cons (pv 4) pa_nil)) pe_int) pe_int) (pe_op op_mul (pe_op op_mul pe_int (pv 3)) (pv 3))) (pe_op op_mul pe_int (pv 3))) pe_int) pa_nil)) pe_int))
      (pss_cons (ps_set (i := 5) nd rfl (Or.inl rfl) (pe_op op_mod (pe_callTy c_int (by rfl) T.int (by decide +kernel) (pa_cons (pe_op op_add (pe_op op_mul (pv 5) (pe_op op_add (pv 5) pe_int)) (pe_op op_mul pe_int (pv 3))) pa_nil)) pe_int))
      (pss_one (ps_ret (pe_op op_mod (pe_callTy c_int (by rfl) T.int (by decide +kernel) (pa_cons (pe_op op_fdivW (pe_op op_mod (pe_callTy c_int (by rfl) T.int (by decide +kernel) (pa_cons (pe_op op_add (pe_op op_mul (pv 5) (pv 5)) (pe_op op_mul pe_int (pv 5))) pa_nil)) pe_int) pe_int) pa_nil)) (pv 1)))))))))))), ?_⟩
  refine s_start [some _, some _, none, none, none, none] rfl ?_
  obtain ⟨a, r, h1, h2, h3, h4, h5, h6⟩ := hp.ex
  dsimp only at h1 h2 h3 k ⊢
  have g1 := pen_rest h1
  have g2 := pen_place h1
  have g3 := pen_cells h1
  have fin : ∀ (H2 : Hp) (a2 r2 z : Int), H2 p = some (.dK (penL cl a2 r2)) → Keep p H H2 → 0 ≤ a2 → a2 ≤ a + 1 → 0 ≤ r2 → 0 ≤ z → z < m → Q (.int z) H2 := by
    intro H2 a2 r2 z e1 e2 e3 e4 e5 e6 e7
    have ne : cl ≠ p := ne_of h2 h1 (by intro z; cases z)
    exact k z H2 e6 e7 ⟨a2, r2, e1, e2 _ _ h2 ne, h3, e3, by omega, e5⟩ e2
  walk_at "go"
  refine if_dec (fun c => ?_) (fun c => ?_)
  · walk_at "go"
    refine v_put (pen_setRest h1) fun H1 s1 e1 => ?_
    walk_at "go"
    refine fin H1 _ _ _ e1 s1 h4 (by omega) (Int.ediv_nonneg h6 (by omega)) (Int.emod_nonneg _ (by omega)) (Int.emod_lt_of_pos _ hm0)
  · walk_at "go"
    refine v_put (pen_setPlace h1) fun H1 s1 e1 => ?_
    have ne : cl ≠ p := ne_of h2 h1 (by intro z; cases z)
    have h2' := s1 _ _ h2 ne
    have g1 := pen_rest e1
    have g3 := pen_cells e1
    walk_at "go"
    refine s_cut (fun σ' H' => ∃ c : Int, σ' = [some (.ref p), some (.int m), none, some (.int a), some (.int c), none] ∧ Same H1 H') ?_ ?_
    · walk_at "go"
      intro q H2 hq s2 e2
      refine v_neNilI (s2 _ _ h2') e2 ?_
      have g3 := pen_cells (s2 _ _ e1)
      walk_at "go"
      refine if_bool (fun c => ?_) (fun c => ?_)
      · have hne : 0 < cells.length := by
          cases cells with
          | nil => simp at c
          | cons _ _ => simp
        walk_at "go"
        · rw [List.length_map]; omega
        walk_at "go"
        rw [List.length_map]
        have hz0 : 0 ≤ a % (cells.length : Int) := Int.emod_nonneg _ (by omega)
        have hz1 : a % (cells.length : Int) < cells.length := Int.emod_lt_of_pos _ (by omega)
        have hlt : (a % (cells.length : Int)).toNat < cells.length := by omega
        refine v_ixL (s2 _ _ h2') (at_of (j := (a % (cells.length : Int)).toNat) (by omega) (by rw [List.getElem?_map, List.getElem?_eq_getElem hlt]; rfl)) ?_
        exact ⟨_, rfl, s2⟩
      · walk_at "go"
        exact ⟨_, rfl, s2⟩
    · rintro σ' H2 ⟨c, rfl, s2⟩
      have e2 := s2 _ _ e1
      have h22 := s2 _ _ h2'
      have g3 := pen_cells e2
      have kk : Keep p H H2 := s1.trans (Keep.of s2)
      have ze : (10 : Int) ^ (18 : Int).toNat = 1000000000000000000 := by decide
      refine s_cut (fun σ' H' => σ' = [some (.ref p), some (.int m), none, some (.int a), some (.int c), none] ∧ H' = H2) ?_ ?_
      · walk_at "go"
        refine if_dec (fun c1 => ?_) (fun c1 => ?_)
        · walk_at "go"
          rw [ze]
          refine if_dec (fun c2 => ?_) (fun c2 => ?_)
          · walk_at "go"
            rw [ze]
            refine v_put (pen_setRest e2) fun H3 s3 e3 => ?_
            walk_at "go"
            rw [ze]
            exact fin H3 _ _ _ e3 (kk.trans s3) (by omega) (by omega) (Int.ediv_nonneg (by omega) (by omega)) (Int.emod_nonneg _ (by omega)) (Int.emod_lt_of_pos _ hm0)
          · walk_at "go"
            exact ⟨rfl, rfl⟩
        · walk_at "go"
          exact ⟨rfl, rfl⟩
      · rintro σ' H' ⟨rfl, rfl⟩
        walk_at "go"
        exact fin H' _ _ _ e2 kk (by omega) (by omega) h6 (Int.emod_nonneg _ (by omega)) (Int.emod_lt_of_pos _ hm0)
end
end
section
open PySem PySem.Spec L2
structure TxtP (K : PySem.W.Frag) (mg : Str → Option Value) (C : Addr) : Prop where
  len : mg "len" = none
  int : mg "int" = none
  list : mg "list" = none
  isinstance : mg "isinstance" = none
  str : mg "str" = none
  all : mg "all" = none
  set : mg "set" = none
  tuple : mg "tuple" = none
  g_LETTERS : ∃ t, mg "LETTERS" = some (.str (tx LET) t)
  g_MOST_KINDS : ∃ t, mg "MOST_KINDS" = some (.int 8 t)
  Plan : ClsF K mg "Plan" C
  nK : NoAttr K C "kinds"
  nP : NoAttr K C "pairs"
  nO : NoAttr K C "own_crossing"
def spAreLetters : Sp := fun vs H Q _ => ∃ l : List Nat, vs = [.str (tx l)] ∧ l.length < 1000 ∧ ∀ H', Same H H' → Q (.bl (decide ((∀ c ∈ l, c ∈ LET) ∧ l.Nodup))) H'
def spAscending : Sp := fun vs H Q _ => ∃ l : List Nat, vs = [.str (tx l)] ∧ ∀ H', Same H H' → Q (.str (tx (ascOf l))) H'
def spIsList (K : PySem.W.Frag) : Sp := fun vs H Q _ => ∃ (p : Addr) (xs : List V), vs = [.ref p] ∧ SeqO K H p xs ∧ ∀ H', Same H H' → Q (.bl true) H'
def spNeedFew : Sp := fun vs H Q _ => ∃ l : List Nat, vs = [.str (tx l)] ∧ l.length ≤ 8 ∧ Q .non H
section
variable {P : Program} {w : World} {K : PySem.W.Frag} {mg : Str → Option Value} {base : Heap} {C : Addr}
abbrev stare_letters : Stmt := (top 37)
abbrev Nare_letters : List Str := ["value", "letter"]
theorem scare_letters : FnScope Nare_letters ["value"] (defScope stare_letters) := ⟨rfl, rfl, rfl, by decide +kernel, rfl, by decide +kernel, by decide +kernel⟩

theorem ok_are_letters (F : FnAt K mg "are_letters" stare_letters) (T : TxtP K mg C) : Def P w K mg base CX0 1 "are_letters" ["value"] spAreLetters := by
  refine F.ok scare_letters (fun _ _ _ _ _ _ us hl => match us, hl with | [_], _ => rfl) (fun vs H Q E h => ?_) (fun f cdv A outer s H vs Q E hr h => ?_)
  · obtain ⟨l, rfl, _⟩ := h
    rfl
  obtain ⟨l, rfl, hl, k⟩ := h
  have hu := hu_of hr
  have nd := scare_letters.nd
  refine ⟨_, (pss_one (ps_ret (pe_and (pe_callB (c_isiK (K := K) rfl) (by rfl) T.isinstance (by decide +kernel) (pa_cons (pv 0) (pa_cons (pe_bltn (v := .ty "str") (u := .type "str") (by rfl) T.str (by decide +kernel) rfl) pa_nil))) (pe_and (pe_callB (c_allK (K := K) rfl rfl) (by rfl) T.all (by decide +kernel) (pa_cons (pe_lc (own := [("letter", 1)]) (g := gName 1) (by rfl) nd (pi_str (pv 0)) (blkOk_by (own := [("letter", 1)]) (N := Nare_letters) (sc := defScope stare_letters) (by decide +kernel)) (fun _ _ _ _ _ => (pg_name (i := 1) nd rfl (Or.inl rfl))) (fun _ _ _ _ _ => pts_nil) (fun _ _ _ _ _ => (pe_cmpR op_inS (pv 1) (pe_globS T.g_LETTERS) (by rfl)))) pa_nil)) (pe_one (pe_cmpR op_eq (pe_callB c_lenSet (by rfl) T.len PySem.boot_len (pa_cons (pe_callTy (c_setS rfl) (by rfl) T.set (by decide +kernel) (pa_cons (pv 0) pa_nil)) pa_nil)) (pe_callB c_lenS (by rfl) T.len PySem.boot_len (pa_cons (pv 0) pa_nil)) (nomark _))))))), ?_⟩
  refine s_start [some _, none] rfl ?_
  walk_at "go"
  refine v_lcS (b := fun _ => true) (f := fun c => V.bl (decide (c ∈ LET))) (by omega) (fun c _ H1 s1 R r => ?_) (fun c _ _ H1 s1 R r => ?_) (fun D H1 hD s1 e1 => ?_)
  · walk_at "go"
    exact r H1 (Same.refl _)
  · walk_at "go"
    exact r H1 (Same.refl _)
  walk_at "go"
  have e2 : H1 D = some (.lst ((l.map fun c => decide (c ∈ LET)).map V.bl)) := by
    rw [e1, List.map_map, filter_yes]
    rfl
  refine v_all e2 ?_
  walk_at "go"
  have ha : (l.map fun c => decide (c ∈ LET)).all id = decide (∀ c ∈ l, c ∈ LET) := by
    rw [Bool.eq_iff_iff, List.all_eq_true, decide_eq_true_iff]
    simp
  rw [ha]
  refine if_dec (fun c => ?_) (fun c => ?_)
  · walk_at "go"
    refine v_setS (by omega) fun p H2 hp s2 e2 => ?_
    walk_at "go"
    have e3 : decide (V.int ((metOf (l.map fun c => tx [c])).length : Int) = V.int (l.length : Int)) = decide ((∀ c ∈ l, c ∈ LET) ∧ l.Nodup) := by
      rw [dec_int, Bool.eq_iff_iff, decide_eq_true_iff, beq_iff_eq]
      have := metOf_ones l
      constructor
      · intro e
        exact ⟨c, this.mp (by omega)⟩
      · intro e
        have := this.mpr e.2
        omega
    rw [e3]
    exact k H2 (s1.trans s2)
  · have e3 : decide ((∀ c ∈ l, c ∈ LET) ∧ l.Nodup) = false := decide_eq_false fun z => c z.1
    rw [e3] at k
    exact k H1 s1
abbrev stascending : Stmt := (top 38)
abbrev Nascending : List Str := ["letters", "letter"]
theorem scascending : FnScope Nascending ["letters"] (defScope stascending) := ⟨rfl, rfl, rfl, by decide +kernel, rfl, by decide +kernel, by decide +kernel⟩

theorem ok_ascending (F : FnAt K mg "ascending" stascending) (T : TxtP K mg C) : Def P w K mg base CX0 1 "ascending" ["letters"] spAscending := by
  refine F.ok scascending (fun _ _ _ _ _ _ us hl => match us, hl with | [_], _ => rfl) (fun vs H Q E h => ?_) (fun f cdv A outer s H vs Q E hr h => ?_)
  · obtain ⟨l, rfl, _⟩ := h
    rfl
  obtain ⟨l, rfl, k⟩ := h
  have hu := hu_of hr
  have nd := scascending.nd
  refine ⟨_, (pss_one (ps_ret (pe_joinK (K := K) rfl (pe_tx [] (by decide +kernel)) (pe_lc (own := [("letter", 1)]) (g := gName 1) (by rfl) nd (pi_str (pe_globS T.g_LETTERS)) (blkOk_by (own := [("letter", 1)]) (N := Nascending) (sc := defScope stascending) (by decide +kernel)) (fun _ _ _ _ _ => (pg_name (i := 1) nd rfl (Or.inl rfl))) (fun _ _ _ _ _ => (pts_one (pt_cmpR op_inS (pv 1) (pv 0) (by rfl)))) (fun _ _ _ _ _ => (pv 1)))))), ?_⟩
  refine s_start [some _, none] rfl ?_
  walk_at "go"
  refine v_lcS (l := LET) (b := fun c => decide (c ∈ l)) (f := fun c => V.str (tx [c])) (by decide) (fun c _ H1 s1 R r => ?_) (fun c _ _ H1 s1 R r => ?_) (fun D H1 hD s1 e1 => ?_)
  · walk_at "go"
    exact r H1 (Same.refl _)
  · walk_at "go"
    exact r H1 (Same.refl _)
  walk_at "go"
  rw [strs_ones] at e1
  refine v_join e1 ?_ ?_
  · rw [flat_ones]
    have := ascOf_len l
    unfold ascOf at this
    omega
  · rw [flat_ones]
    exact k H1 s1
abbrev stis_list : Stmt := (top 24)
abbrev Nis_list : List Str := ["value"]
theorem scis_list : FnScope Nis_list ["value"] (defScope stis_list) := ⟨rfl, rfl, rfl, by decide +kernel, rfl, by decide +kernel, by decide +kernel⟩

theorem ok_is_list (F : FnAt K mg "is_list" stis_list) (T : TxtP K mg C) : Def P w K mg base CX0 1 "is_list" ["value"] (spIsList K) := by
  refine F.ok scis_list (fun _ _ _ _ _ _ us hl => match us, hl with | [_], _ => rfl) (fun vs H Q E h => ?_) (fun f cdv A outer s H vs Q E hr h => ?_)
  · obtain ⟨p, xs, rfl, _⟩ := h
    rfl
  obtain ⟨p, xs, rfl, hp, k⟩ := h
  have hu := hu_of hr
  have nd := scis_list.nd
  refine ⟨_, (pss_one (ps_ret (pe_callB (c_isiTK (K := K) rfl) (by rfl) T.isinstance (by decide +kernel) (pa_cons (pv 0) (pa_cons (pe_tup (pa_cons (pe_bltn (v := .ty "list") (u := .type "list") (by rfl) T.list (by decide +kernel) rfl) (pa_cons (pe_bltn (v := .ty "tuple") (u := .type "tuple") (by rfl) T.tuple (by decide +kernel) rfl) pa_nil))) pa_nil))))), ?_⟩
  refine s_start [some _] rfl ?_
  walk_at "go"
  intro t H1 ht s1 e1
  walk_at "go"
  exact v_isiQ (hp.same s1) e1 (k H1 s1)
abbrev stneed_few : Stmt := (top 41)
abbrev Nneed_few : List Str := ["kinds"]
theorem scneed_few : FnScope Nneed_few ["kinds"] (defScope stneed_few) := ⟨rfl, rfl, rfl, by decide +kernel, rfl, by decide +kernel, by decide +kernel⟩

theorem ok_need_few (F : FnAt K mg "need_few" stneed_few) (T : TxtP K mg C) : Def P w K mg base CX0 1 "need_few" ["kinds"] spNeedFew := by
  refine F.ok scneed_few (fun _ _ _ _ _ _ us hl => match us, hl with | [_], _ => rfl) (fun vs H Q E h => ?_) (fun f cdv A outer s H vs Q E hr h => ?_)
  · obtain ⟨l, rfl, _⟩ := h
    rfl
  obtain ⟨l, rfl, hl, k⟩ := h
  have hu := hu_of hr
  have nd := scneed_few.nd
  refine ⟨_, (pss_one (ps_if (pt_cmpR op_gt (pe_callB c_lenS (by rfl) T.len PySem.boot_len (pa_cons (pv 0) pa_nil)) (pe_globI T.g_MOST_KINDS) (nomark _))
      (pss_one ps_never)
      pss_nil)), ?_⟩
  refine s_start [some _] rfl ?_
  walk_at "go"
  refine if_dec (fun c => ?_) (fun c => ?_)
  · omega
  · walk_at "go"
    exact k
end
end
section
open PySem PySem.Spec L2
def spChecked (K : PySem.W.Frag) : Sp := fun vs H Q _ => ∃ (ks : List Nat) (p : Addr) (ps : List (List Nat)), vs = [.str (tx ks), .ref p] ∧ SeqO K H p (strsV ps) ∧ ps.length < 1000 ∧ PairsIn ks ps ∧ (∀ c ∈ ks, c ∈ LET) ∧
  ∀ t H', H t = none → Same H H' → H' t = some (.tup (strsV (pairsOf (ps.map ascOf)))) → Q (.ref t) H'
def spCross : Sp := fun vs H Q _ => ∃ (ks : List Nat) (t : Addr) (ps : List (List Nat)), vs = [.str (tx ks), .ref t] ∧ H t = some (.tup (strsV ps)) ∧ ks.length < 1000 ∧ ks.Nodup ∧
  ∀ d H', H d = none → Same H H' → H' d = some (.dK (crossKV ks ps ks)) → Q (.ref d) H'
section
variable {P : Program} {w : World} {K : PySem.W.Frag} {mg : Str → Option Value} {base : Heap} {C : Addr}
abbrev stchecked_pairs : Stmt := (top 39)
abbrev Nchecked_pairs : List Str := ["kinds", "crossing", "found", "pair", "a", "b"]
theorem scchecked_pairs : FnScope Nchecked_pairs ["kinds", "crossing"] (defScope stchecked_pairs) := ⟨rfl, rfl, rfl, by decide +kernel, rfl, by decide +kernel, by decide +kernel⟩

theorem ok_checked_pairs (F : FnAt K mg "checked_pairs" stchecked_pairs) (T : TxtP K mg C) (D_is_list : Def P w K mg base CX0 1 "is_list" ["value"] (spIsList K)) (D_are_letters : Def P w K mg base CX0 1 "are_letters" ["value"] spAreLetters) (D_ascending : Def P w K mg base CX0 1 "ascending" ["letters"] spAscending) :
    Def P w K mg base CX0 2 "checked_pairs" ["kinds", "crossing"] (spChecked K) := by
  refine F.ok scchecked_pairs (fun _ _ _ _ _ _ us hl => match us, hl with | [_, _], _ => rfl) (fun vs H Q E h => ?_) (fun f cdv A outer s H vs Q E hr h => ?_)
  · obtain ⟨ks, p, ps, rfl, _⟩ := h
    rfl
  obtain ⟨ks, p, ps, rfl, hp, hl, hps, hks, k⟩ := h
  have hu := hu_of hr
  have nd := scchecked_pairs.nd
  refine ⟨_, (pss_cons (ps_if (pt_not (pt_val (pe_cd D_is_list hr pass0 (pa_cons (pv 1) pa_nil))))
      (pss_one ps_never)
      pss_nil)
      (pss_cons (ps_set (i := 2) nd rfl (Or.inr rfl) (pe_lst pa_nil))
      (pss_cons (ps_for PassesOwn.never rfl (pi_or (pi_listK (K := K) rfl (pv 1)) (pi_tupK (K := K) rfl (pv 1))) (pg_name (i := 3) nd rfl (Or.inl rfl))
      (pss_cutS (ps_if (PW.pt (pw_or (pt_not (pt_val (pe_callB (c_isiK (K := K) rfl) (by rfl) T.isinstance (by decide +kernel) (pa_cons (pv 3) (pa_cons (pe_bltn (v := .ty "str") (u := .type "str") (by rfl) T.str (by decide +kernel) rfl) pa_nil))))) (pw_or (pt_cmpR op_ne (pe_callB c_lenS (by rfl) T.len PySem.boot_len (pa_cons (pv 3) pa_nil)) pe_int (nomark _)) (pw_or1 (pt_not (pt_val (pe_cd D_are_letters hr pass0 (pa_cons (pv 3) pa_nil))))))))
        (pss_one ps_never)
        pss_nil)
        (pss_cutS (ps_if (PW.pt (pw_or (pt_cmpR op_notInS (pe_ix ix_str (pv 3) pe_int (fun _ _ => rfl)) (pv 0) (by rfl)) (pw_or1 (pt_cmpR op_notInS (pe_ix ix_str (pv 3) pe_int (fun _ _ => rfl)) (pv 0) (by rfl)))))
        (pss_one ps_never)
        pss_nil)
        (pss_one (ps_expr (pe_appK (K := K) rfl (pv 2) (pe_cd D_ascending hr pass0 (pa_cons (pv 3) pa_nil))))))))
      (pss_one (ps_ret (pe_callTy (c_tupleK (K := K) rfl) (by rfl) T.tuple (by decide +kernel) (pa_cons (pe_lc2 (own := [("a", 4), ("b", 5)]) (vs1 := [5]) (by rfl) nd (pi_str (pe_globS T.g_LETTERS)) (blkOk_by (own := [("a", 4), ("b", 5)]) (N := Nchecked_pairs) (sc := defScope stchecked_pairs) (by decide +kernel)) (by decide) (fun _ _ _ _ _ => (pg_name (i := 4) nd rfl (Or.inl rfl))) (fun _ _ _ _ _ => pts_nil) (fun _ _ _ _ _ => (pi_str (pe_globS T.g_LETTERS))) (fun _ _ _ _ _ => (pg_name (i := 5) nd rfl (Or.inl rfl))) (fun _ _ _ _ _ => (pts_one (pt_cmpR (op_inLK (K := K) rfl) (pe_op op_addS (pv 4) (pv 5)) (pv 2) (by rfl)))) (fun _ _ _ _ _ => (pe_op op_addS (pv 4) (pv 5)))) pa_nil))))))), ?_⟩
  refine s_start [some _, some _, none, none, none, none] rfl ?_
  walk_at "go"
  refine ⟨p, _, rfl, hp, fun H1 s1 => ?_⟩
  walk_at "go"
  intro q H2 hq s2 e2
  walk_at "go"
  refine e_forSeq (xs := strsV ps) hp (s1.trans s2) (fun Q q => by walk_at "go"; exact q) (fun k σ H' => ∃ x, σ = [some (.str (tx ks)), some (.ref p), some (.ref q), x, none, none] ∧ Same H H' ∧ H' q = some (.lst (strsV ((ps.take k).map ascOf)))) ⟨_, rfl, s1.trans s2, e2⟩ ?_ ?_ ?_
  · rintro i σ H' ⟨x, rfl, s3, e3⟩
    exact s3
  · rintro i v σ H3 H4 hi ⟨x, rfl, s3, e3⟩ ⟨rfl, hv⟩
    have hi' : i < ps.length := by simpa using hi
    obtain ⟨a, b, hab, hne, ha, hb⟩ := hps _ (List.getElem_mem hi')
    have hv' : v = .str (tx [a, b]) := by
      have : (strsV ps)[i]? = some (V.str (tx ps[i])) := by
        rw [List.getElem?_map, List.getElem?_eq_getElem hi']
        rfl
      rw [hv, hab] at this
      exact Option.some.inj this
    subst hv'
    have ha2 := hks a ha
    have hb2 := hks b hb
    refine s_cut (fun σ' H' => σ' = [some (.str (tx ks)), some (.ref p), some (.ref q), some (.str (tx [a, b])), none, none] ∧ Same H4 H') ?_ ?_
    · walk_at "go"
      refine if_ndec (fun c => absurd rfl c) (fun _ => ?_)
      walk_at "go"
      refine ⟨[a, b], rfl, by simp, fun H5 s5 => ?_⟩
      have e5 : decide ((∀ c ∈ [a, b], c ∈ LET) ∧ [a, b].Nodup) = true := by
        rw [decide_eq_true_iff]
        refine ⟨?_, by simp [hne]⟩
        intro c hc
        simp only [List.mem_cons, List.not_mem_nil, or_false] at hc
        rcases hc with rfl | rfl <;> assumption
      rw [e5]
      walk_at "go"
      exact ⟨rfl, s5⟩
    · rintro σ' H5 ⟨rfl, s5⟩
      refine s_cut (fun σ' H' => σ' = [some (.str (tx ks)), some (.ref p), some (.ref q), some (.str (tx [a, b])), none, none] ∧ H' = H5) ?_ ?_
      · walk_at "go"
        refine v_ixS (c := a) (by simp) rfl ?_
        walk_at "go"
        refine if_ndec (fun c => absurd ha c) (fun _ => ?_)
        walk_at "go"
        refine v_ixS (c := b) (by simp) rfl ?_
        walk_at "go"
        refine if_ndec (fun c => absurd hb c) (fun _ => ?_)
        walk_at "go"
        exact ⟨rfl, rfl⟩
      · rintro σ' H6 ⟨rfl, rfl⟩
        have e6 := s5 _ _ e3
        walk_at "go"
        refine ⟨[a, b], rfl, fun H7 s7 => ?_⟩
        walk_at "go"
        refine v_app (s7 _ _ e6) ?_ fun H8 s8 e8 => ?_
        · simp only [strsV, List.length_map, List.length_take]
          omega
        refine ⟨_, rfl, fun b' o hb' => s8 _ _ (s7 _ _ (s5 _ _ (s3 _ _ hb'))) (ne_of_none hb' (L2.Same.free s1 hq)), ?_⟩
        rw [e8, List.take_add_one, List.getElem?_eq_getElem hi', hab, List.map_append]
        simp only [strsV, List.map_append]
        rfl
  · rintro σ H3 ⟨x, rfl, s3, e3⟩
    walk_at "go"
    rw [List.take_of_length_le (by simp)] at e3
    refine v_lc2S (lb := LET) (b := fun a b => decide ([a, b] ∈ ps.map ascOf)) (f := fun a b => V.str (tx [a, b])) (by decide) (by decide) (fun c _ H1 s1 R r => r) (fun c d _ _ H1 s1 R r => ?_) (fun c d _ _ _ H1 s1 R r => ?_) (fun D H5 hD s5 e5 => ?_)
    · have e1 := s1 _ _ e3
      walk_at "go"
      exact r H1 (Same.refl _)
    · walk_at "go"
      exact r H1 (Same.refl _)
    · walk_at "go"
      refine v_tuple e5 fun t H6 ht s6 e6 => ?_
      refine k t H6 (L2.Same.free s3 (L2.Same.free s5 ht)) ((s3.trans s5).trans s6) ?_
      rw [e6]
      unfold strsV pairsOf
      rw [List.map_flatMap]
      simp only [List.map_map]
      rfl
abbrev stcrossing_table : Stmt := (top 43)
abbrev Ncrossing_table : List Str := ["kinds", "pairs", "found", "kind", "other"]
theorem sccrossing_table : FnScope Ncrossing_table ["kinds", "pairs"] (defScope stcrossing_table) := ⟨rfl, rfl, rfl, by decide +kernel, rfl, by decide +kernel, by decide +kernel⟩

theorem ok_crossing_table (F : FnAt K mg "crossing_table" stcrossing_table) (T : TxtP K mg C) : Def P w K mg base CX0 1 "crossing_table" ["kinds", "pairs"] spCross := by
  refine F.ok sccrossing_table (fun _ _ _ _ _ _ us hl => match us, hl with | [_, _], _ => rfl) (fun vs H Q E h => ?_) (fun f cdv A outer s H vs Q E hr h => ?_)
  · obtain ⟨ks, t, ps, rfl, _⟩ := h
    rfl
  obtain ⟨ks, t, ps, rfl, ht, hl, hnd, k⟩ := h
  have hu := hu_of hr
  have nd := sccrossing_table.nd
  refine ⟨_, (pss_cons (ps_set (i := 2) nd rfl (Or.inl rfl) pe_dnewK)
      (pss_cons (ps_for PassesOwn.never rfl (pi_str (pv 0)) (pg_name (i := 3) nd rfl (Or.inr rfl))
      (pss_one (ps_dput hu (pv 2) (pv 3) (pe_joinK (K := K) rfl (pe_tx [] (by decide +kernel)) (pe_lc (own := [("other", 4)]) (g := gName 4) (by rfl) nd (pi_str (pv 0)) (blkOk_by (own := [("other", 4)]) (N := Ncrossing_table) (sc := defScope stcrossing_table) (by decide +kernel)) (fun _ _ _ _ _ => (pg_name (i := 4) nd rfl (Or.inl rfl))) (fun _ _ _ _ _ => (pts_one (PW.pt (pw_or (pt_cmpR (op_inLK (K := K) rfl) (pe_op op_addS (pv 3) (pv 4)) (pv 1) (by rfl)) (pw_or1 (pt_cmpR (op_inLK (K := K) rfl) (pe_op op_addS (pv 4) (pv 3)) (pv 1) (by rfl))))))) (fun _ _ _ _ _ => (pv 4)))) rfl)))
      (pss_one (ps_ret (pv 2))))), ?_⟩
  refine s_start [some _, some _, none, none, none] rfl ?_
  walk_at "go"
  intro d H1 hd s1 e1
  walk_at "go"
  refine for_it (walk_tx ks) (fun k σ H' => ∃ x, σ = [some (.str (tx ks)), some (.ref t), some (.ref d), x, none] ∧ Same H H' ∧ H' d = some (.dK (crossKV ks ps (ks.take k)))) ⟨_, rfl, s1, e1⟩ (fun _ _ _ _ _ => trivial) ?_ ?_
  · rintro i v σ H2 H3 hi ⟨x, rfl, s2, e2⟩ ⟨rfl, rfl⟩
    have h0 := s2 _ _ ht
    show sDPut _ _ _ _ _ _
    walk_at "go"
    refine v_lcS (b := fun o => decide ([ks.getD i 0, o] ∈ ps) || decide ([o, ks.getD i 0] ∈ ps)) (f := fun c => V.str (tx [c])) (by omega) (fun c _ H1 s1 R r => ?_) (fun c _ _ H1 s1 R r => ?_) (fun D H4 hD s4 e4 => ?_)
    · have h1 := s1 _ _ h0
      walk_at "go"
      refine v_inT (SqT.of h1) ?_
      walk_at "go"
      refine if_dec (fun c1 => ?_) (fun c1 => ?_)
      · rw [show [ks.getD i 0] ++ [c] = [ks.getD i 0, c] from rfl] at c1
        rw [decide_eq_true c1, Bool.true_or] at r
        exact r H1 (Same.refl _)
      · rw [show [ks.getD i 0] ++ [c] = [ks.getD i 0, c] from rfl] at c1
        walk_at "go"
        refine v_inT (SqT.of h1) ?_
        walk_at "go"
        rw [decide_eq_false c1, Bool.false_or] at r
        exact r H1 (Same.refl _)
    · walk_at "go"
      exact r H1 (Same.refl _)
    walk_at "go"
    rw [strs_ones] at e4
    refine v_join e4 ?_ ?_
    · rw [flat_ones]
      have := crossOf_len ks ps (ks.getD i 0)
      unfold crossOf at this
      omega
    rw [flat_ones]
    walk_at "go"
    have e5 := s4 _ _ e2
    have hz : valV (crossKV ks ps (ks.take i)) (Sum.inr (tx [ks.getD i 0])) = none := letV_none (take_notin hnd hi)
    refine v_put (DPut.cross e5 hz ?_) fun H6 s6 e6 => ?_
    · unfold crossKV
      rw [List.length_map, List.length_take]
      omega
    refine ⟨_, rfl, fun b o hb => s6 _ _ (s4 _ _ (s2 _ _ hb)) (ne_of_none hb hd), ?_⟩
    rw [e6, take_getD hi]
    unfold crossKV
    rw [List.map_append]
    rfl
  · rintro σ H2 ⟨x, rfl, s2, e2⟩
    rw [List.take_of_length_le (Nat.le_refl _)] at e2
    walk_at "go"
    exact k d H2 hd s2 e2
end
end
section
open PySem PySem.Spec L2
def planF (ks : List Nat) (t d : Addr) : List (Str × V) := putF "own_crossing" (.ref d) (putF "pairs" (.ref t) (putF "kinds" (.str (tx ks)) []))
theorem nkp : ¬ (("kinds" : Str) = "pairs") := by decide +kernel
theorem nko : ¬ (("kinds" : Str) = "own_crossing") := by decide +kernel
theorem npo : ¬ (("pairs" : Str) = "own_crossing") := by decide +kernel
section
variable {ks : List Nat} {t d : Addr}
theorem planF_k : (planF ks t d).lookup ("kinds" : Str) = some (.str (tx ks)) := by
  unfold planF
  rw [lookup_putF, if_neg nko, lookup_putF, if_neg nkp, lookup_putF, if_pos rfl]
theorem planF_p : (planF ks t d).lookup ("pairs" : Str) = some (.ref t) := by
  unfold planF
  rw [lookup_putF, if_neg npo, lookup_putF, if_pos rfl]
theorem planF_o : (planF ks t d).lookup ("own_crossing" : Str) = some (.ref d) := by
  unfold planF
  rw [lookup_putF, if_pos rfl]
end
/-- a plan of the kinds ks and the pairs ps stands at x -/
structure PlanAt (C : Addr) (H : Hp) (x : Addr) (ks : List Nat) (ps : List (List Nat)) : Prop where
  ex : ∃ dx t d, H x = some (.ins C dx (planF ks t d)) ∧ H t = some (.tup (strsV ps)) ∧ H d = some (.dK (crossKV ks ps ks))
theorem PlanAt.same {C : Addr} {H H' : Hp} {x : Addr} {ks : List Nat} {ps : List (List Nat)} (h : PlanAt C H x ks ps) (s : Same H H') : PlanAt C H' x ks ps := by
  obtain ⟨dx, t, d, a, b, c⟩ := h.ex
  exact ⟨dx, t, d, s _ _ a, s _ _ b, s _ _ c⟩
/-- the plan at x does not rest on the object at b -/
def PlanOff (C : Addr) (H : Hp) (x b : Addr) : Prop := ∃ dx ks t d, H x = some (.ins C dx (planF ks t d)) ∧ b ≠ t ∧ b ≠ d
theorem PlanOff.same {C : Addr} {H H' : Hp} {x b : Addr} (h : PlanOff C H x b) (s : Same H H') : PlanOff C H' x b := by
  obtain ⟨dx, ks, t, d, e, n⟩ := h
  exact ⟨dx, ks, t, d, s _ _ e, n⟩
theorem PlanAt.off {C : Addr} {H H' : Hp} {x b : Addr} {ks : List Nat} {ps : List (List Nat)} (h : PlanAt C H x ks ps) (n : PlanOff C H x b) (nx : x ≠ b) (k : Keep b H H') : PlanAt C H' x ks ps := by
  obtain ⟨dx, t, d, a1, a2, a3⟩ := h.ex
  obtain ⟨dx', ks', t', d', e, n1, n2⟩ := n
  rw [a1] at e
  injection e with e
  injection e with _ _ e
  have e1 := planF_p (ks := ks) (t := t) (d := d)
  rw [e, planF_p] at e1
  injection e1 with e1
  injection e1 with e1
  have e2 := planF_o (ks := ks) (t := t) (d := d)
  rw [e, planF_o] at e2
  injection e2 with e2
  injection e2 with e2
  exact ⟨dx, t, d, k _ _ a1 nx, k _ _ a2 (fun z => n1 (z.symm.trans e1.symm)), k _ _ a3 (fun z => n2 (z.symm.trans e2.symm))⟩
/-- the kinds and pairs of Plan(l, ps) -/
abbrev kindsOf (l : List Nat) : List Nat := ascOf l
abbrev prsOf (ps : List (List Nat)) : List (List Nat) := pairsOf (ps.map ascOf)
def PlanArgs (K : PySem.W.Frag) (H : Hp) (l : List Nat) (p : Addr) (ps : List (List Nat)) : Prop := SeqO K H p (strsV ps) ∧ ps.length < 1000 ∧ PairsIn l ps ∧ (∀ c ∈ l, c ∈ LET) ∧ l.Nodup ∧ l.length ≤ 8
def spPlan0 (K : PySem.W.Frag) (C : Addr) : Sp := fun vs H Q _ => ∃ (x dx : Addr) (l : List Nat) (p : Addr) (ps : List (List Nat)), vs = [.ref x, .str (tx l), .ref p] ∧ H x = some (.ins C dx []) ∧ PlanArgs K H l p ps ∧
  ∀ H', Keep x H H' → PlanAt C H' x (kindsOf l) (prsOf ps) → (∀ b o, H b = some o → b ≠ x → PlanOff C H' x b) → Q .non H'
def spPlan (K : PySem.W.Frag) (C : Addr) : Sp := fun vs H Q _ => ∃ (l : List Nat) (p : Addr) (ps : List (List Nat)), vs = [.str (tx l), .ref p] ∧ PlanArgs K H l p ps ∧ ∀ x H', H x = none → Same H H' → PlanAt C H' x (kindsOf l) (prsOf ps) → (∀ b o, H b = some o → PlanOff C H' x b) → Q (.ref x) H'
theorem conv_plan (K : PySem.W.Frag) (C : Addr) : Conv C (spPlan0 K C) (spPlan K C) := by
  rintro vs H Q E ⟨l, p, ps, rfl, ⟨hp, hr⟩, k⟩ x dx hx hdx hne
  refine ⟨x, dx, l, p, ps, rfl, upd_same, ⟨hp.go fun o ho => by rw [upd_ne (ne_of_none ho hx), upd_ne (ne_of_none ho hdx)]; exact ho, hr⟩, fun H' s' a off => ⟨rfl, k x H' hx (fun b o hb => ?_) a fun b o hb => off b o (by rw [upd_ne (ne_of_none hb hx), upd_ne (ne_of_none hb hdx)]; exact hb) (ne_of_none hb hx)⟩⟩
  refine s' b o ?_ (ne_of_none hb hx)
  rw [upd_ne (ne_of_none hb hx), upd_ne (ne_of_none hb hdx)]
  exact hb
theorem asc_len {l : List Nat} (h1 : ∀ c ∈ l, c ∈ LET) (h2 : l.Nodup) : (ascOf l).length = l.length := by
  have p : (ascOf l).Perm l := by
    refine (List.perm_ext_iff_of_nodup (ascOf_nodup l) h2).mpr fun c => ?_
    rw [ascOf_mem]
    exact ⟨fun z => z.2, fun z => ⟨h1 c z, z⟩⟩
  exact p.length_eq
section
variable {P : Program} {w : World} {K : PySem.W.Frag} {mg : Str → Option Value} {base : Heap} {C : Addr}
abbrev stPlan_init : Stmt := (inClass (top 42) 0)
abbrev NPlan_init : List Str := ["self", "kinds", "crossing"]
theorem scPlan_init : FnScope NPlan_init ["self", "kinds", "crossing"] (defScope stPlan_init) := ⟨rfl, rfl, rfl, by decide +kernel, rfl, by decide +kernel, by decide +kernel⟩

theorem ok_Plan {dvs : List V} (F : MAtD K C "__init__" "Plan.__init__" stPlan_init dvs) (hd : dvs.length = 1) (T : TxtP K mg C) (D_are_letters : Def P w K mg base CX0 1 "are_letters" ["value"] spAreLetters) (D_ascending : Def P w K mg base CX0 1 "ascending" ["letters"] spAscending)
    (D_checked_pairs : Def P w K mg base CX0 2 "checked_pairs" ["kinds", "crossing"] (spChecked K)) (D_need_few : Def P w K mg base CX0 1 "need_few" ["kinds"] spNeedFew) (D_crossing_table : Def P w K mg base CX0 1 "crossing_table" ["kinds", "pairs"] spCross) :
    CMk P w K mg base CX0 3 "Plan" C (spPlan K C) ["self", "kinds", "crossing"] "Plan.__init__" stPlan_init dvs := by
  refine F.make (sp0 := spPlan0 K C) T.Plan scPlan_init (by intro z; rw [z] at hd; cases hd) (fun T kV doc pm an cdv ct us its l1 l2 => ?_) (fun vs H Q E h => ?_) (conv_plan K C) (fun f cdv A outer s H vs Q E hr h => ?_)
  · rw [hd] at l2 ⊢
    match us, l1, its, l2 with
    | [_, _, _], _, [_], _ => exact ⟨_, rfl, rfl⟩
  · obtain ⟨x, dx, l, p, ps, rfl, _⟩ := h
    rfl
  obtain ⟨x, dx, l, p, ps, rfl, hx, ⟨hp, h1, h2, h3, h4, h5⟩, k⟩ := h
  have hu := hu_of hr
  have nd := scPlan_init.nd
  replace D_are_letters := D_are_letters.mono (show 1 ≤ 2 by decide)
  replace D_ascending := D_ascending.mono (show 1 ≤ 2 by decide)
  replace D_need_few := D_need_few.mono (show 1 ≤ 2 by decide)
  replace D_crossing_table := D_crossing_table.mono (show 1 ≤ 2 by decide)
  refine ⟨_, (pss_cons (ps_if (pt_not (pt_val (pe_cd D_are_letters hr pass0 (pa_cons (pv 1) pa_nil))))
      (pss_one ps_never)
      pss_nil)
      (pss_cons (ps_flK (K := K) rfl (pv 0) (pe_cd D_ascending hr pass0 (pa_cons (pv 1) pa_nil)) rfl)
      (pss_cons (ps_flK (K := K) rfl (pv 0) (pe_cd D_checked_pairs hr pass0 (pa_cons (pe_flK (K := K) rfl (pv 0) rfl) (pa_cons (pv 2) pa_nil))) rfl)
      (pss_cons (ps_expr (pe_cd D_need_few hr pass0 (pa_cons (pe_flK (K := K) rfl (pv 0) rfl) pa_nil)))
      (pss_one (ps_flK (K := K) rfl (pv 0) (pe_cd D_crossing_table hr pass0 (pa_cons (pe_flK (K := K) rfl (pv 0) rfl) (pa_cons (pe_flK (K := K) rfl (pv 0) rfl) pa_nil))) rfl)))))), ?_⟩
  refine s_start [some _, some _, some _] rfl ?_
  walk_at "go"
  refine ⟨l, rfl, by omega, fun H1 s1 => ?_⟩
  rw [decide_eq_true (show (∀ c ∈ l, c ∈ LET) ∧ l.Nodup from ⟨h3, h4⟩)]
  walk_at "go"
  refine ⟨l, rfl, fun H2 s2 => ?_⟩
  walk_at "go"
  have s12 := s1.trans s2
  refine v_sfld (s12 _ _ hx) T.Plan.cl T.nK (by decide) fun H3 s3 e3 => ?_
  have hp3 := (hp.same s12).keepI s3 (s12 _ _ hx)
  walk_at "go"
  refine v_fld e3 T.Plan.cl T.nK (by rw [lookup_putF, if_pos rfl]) ?_
  walk_at "go"
  refine ⟨ascOf l, p, ps, rfl, hp3, h1, ?_, fun c hc => (ascOf_mem.mp hc).1, fun t H4 ht s4 e4 => ?_⟩
  · intro q hq
    obtain ⟨a, b, e, n, ha, hb⟩ := h2 q hq
    exact ⟨a, b, e, n, ascOf_mem.mpr ⟨h3 a ha, ha⟩, ascOf_mem.mpr ⟨h3 b hb, hb⟩⟩
  walk_at "go"
  refine v_sfld (s4 _ _ e3) T.Plan.cl T.nP (by show 1 < 1000; decide) fun H5 s5 e5 => ?_
  have nt : t ≠ x := fun z => by rw [z, e3] at ht; cases ht
  have e5t := s5 _ _ e4 nt
  walk_at "go"
  refine v_fld e5 T.Plan.cl T.nK (by rw [lookup_putF, if_neg nkp, lookup_putF, if_pos rfl]) ?_
  walk_at "go"
  refine ⟨ascOf l, rfl, by rw [asc_len h3 h4]; exact h5, ?_⟩
  walk_at "go"
  refine v_fld e5 T.Plan.cl T.nK (by rw [lookup_putF, if_neg nkp, lookup_putF, if_pos rfl]) ?_
  walk_at "go"
  refine v_fld e5 T.Plan.cl T.nP (by rw [lookup_putF, if_pos rfl]) ?_
  walk_at "go"
  refine ⟨ascOf l, t, _, rfl, e5t, by have := ascOf_len l; omega, ascOf_nodup l, fun d H6 hd s6 e6 => ?_⟩
  walk_at "go"
  refine v_sfld (s6 _ _ e5) T.Plan.cl T.nO (by show 2 < 1000; decide) fun H7 s7 e7 => ?_
  have ndx : d ≠ x := fun z => by rw [z, e5] at hd; cases hd
  refine k H7 (fun b o hb nb => s7 _ _ (s6 _ _ (s5 _ _ (s4 _ _ (s3 _ _ (s12 _ _ hb) nb)) nb)) nb) ⟨dx, t, d, e7, s7 _ _ (s6 _ _ e5t) nt, s7 _ _ e6 ndx⟩ fun b o hb nb => ⟨dx, _, t, d, e7, ?_, ?_⟩
  · exact ne_of_none (s3 _ _ (s12 _ _ hb) nb) ht
  · exact ne_of_none (s5 _ _ (s4 _ _ (s3 _ _ (s12 _ _ hb) nb)) nb) hd
end
end
section
open PySem PySem.Spec L2
/-- letters alone -/
def PsOk (ps : List (List Nat)) : Prop := ∀ l ∈ ps, ∀ c ∈ l, c < 1000
def spPlanEq (C : Addr) : Sp := fun vs H Q _ => ∃ (x y : Addr) (ks ks' : List Nat) (ps ps' : List (List Nat)), vs = [.ref x, .ref y] ∧ PlanAt C H x ks ps ∧ PlanAt C H y ks' ps' ∧ PsOk ps ∧ PsOk ps' ∧ Q (.bl (decide (ks = ks' ∧ ps = ps'))) H
def spStepped (C : Addr) : Sp := fun vs H Q _ => ∃ (x : Addr) (ks : List Nat) (ps : List (List Nat)) (name : List Nat) (k : Nat), vs = [.ref x, .str (tx name), .str (tx [k])] ∧ PlanAt C H x ks ps ∧ k ∈ ks ∧ name.length ≤ 100000 ∧ Q (.str (tx (stepOf (crossOf ks ps k) name k))) H
def spJoined (C : Addr) : Sp := fun vs H Q _ => ∃ (x : Addr) (ks : List Nat) (ps : List (List Nat)) (name way : List Nat), vs = [.ref x, .str (tx name), .str (tx way)] ∧ PlanAt C H x ks ps ∧ (∀ c ∈ way, c ∈ ks) ∧ name.length + way.length ≤ 100000 ∧ Q (.str (tx (joinOf ks ps name way))) H
def spBack (C : Addr) : Sp := fun vs H Q _ => ∃ (x : Addr) (ks : List Nat) (ps : List (List Nat)) (name : List Nat), vs = [.ref x, .str (tx name)] ∧ PlanAt C H x ks ps ∧ (∀ c ∈ name, c ∈ ks) ∧ name.length ≤ 50000 ∧ Q (.str (tx (backOf ks ps name))) H
def spWayFrom (C : Addr) : Sp := fun vs H Q _ => ∃ (x : Addr) (ks : List Nat) (ps : List (List Nat)) (name goal : List Nat), vs = [.ref x, .str (tx name), .str (tx goal)] ∧ PlanAt C H x ks ps ∧ (∀ c ∈ name, c ∈ ks) ∧ (∀ c ∈ goal, c ∈ ks) ∧ name.length ≤ 50000 ∧ goal.length ≤ 50000 ∧ Q (.str (tx (wayOf ks ps name goal))) H
section
variable {P : Program} {w : World} {K : PySem.W.Frag} {mg : Str → Option Value} {base : Heap} {C : Addr}
abbrev stPlan_eq : Stmt := (inClass (top 42) 2)
abbrev NPlan_eq : List Str := ["self", "other"]
theorem scPlan_eq : FnScope NPlan_eq ["self", "other"] (defScope stPlan_eq) := ⟨rfl, rfl, rfl, by decide +kernel, rfl, by decide +kernel, by decide +kernel⟩

theorem ok_Plan_eq (F : MAt K C "__eq__" "Plan.__eq__" stPlan_eq) (T : TxtP K mg C) : MDef P w K mg base CX0 1 C "__eq__" ["self", "other"] (spPlanEq C) := by
  refine F.ok scPlan_eq (fun _ _ _ _ _ _ us hl => match us, hl with | [_, _], _ => rfl) (fun vs H Q E h => ?_) (fun f cdv A outer s H vs Q E hr h => ?_)
  · obtain ⟨x, y, ks, ks', ps, ps', rfl, _⟩ := h
    rfl
  obtain ⟨x, y, ks, ks', ps, ps', rfl, h1, h2, o1, o2, k⟩ := h
  have hu := hu_of hr
  have nd := scPlan_eq.nd
  refine ⟨_, (pss_one (ps_ret (pe_and (pe_callB (c_isiK (K := K) rfl) (by rfl) T.isinstance (by decide +kernel) (pa_cons (pv 1) (pa_cons (pe_globC T.Plan.at) pa_nil))) (pe_and (pe_cmpR op_eq (pe_flK (K := K) rfl (pv 0) rfl) (pe_flK (K := K) rfl (pv 1) rfl) (nomark _)) (pe_one (pe_cmpR (op_eqDK (K := K) rfl hr.units) (pe_flK (K := K) rfl (pv 0) rfl) (pe_flK (K := K) rfl (pv 1) rfl) (nomark _))))))), ?_⟩
  refine s_start [some _, some _] rfl ?_
  obtain ⟨dx, t, d, a1, a2, a3⟩ := h1.ex
  obtain ⟨dy, t', d', b1, b2, b3⟩ := h2.ex
  walk_at "go"
  refine v_isiC T.Plan b1 ?_
  walk_at "go"
  refine v_fld a1 T.Plan.cl T.nK planF_k ?_
  walk_at "go"
  refine v_fld b1 T.Plan.cl T.nK planF_k ?_
  walk_at "go"
  rw [dec_tx]
  refine if_dec (fun c => ?_) (fun c => ?_)
  · walk_at "go"
    refine v_fld a1 T.Plan.cl T.nP planF_p ?_
    walk_at "go"
    refine v_fld b1 T.Plan.cl T.nP planF_p ?_
    walk_at "go"
    refine v_eqT a2 b2 o1 o2 ?_
    have e : decide (ks = ks' ∧ ps = ps') = decide (ps = ps') := decide_eq_decide.mpr ⟨fun z => z.2, fun z => ⟨c, z⟩⟩
    rw [e] at k
    exact k
  · rw [decide_eq_false fun z => c z.1] at k
    exact k
abbrev ststepped : Stmt := (top 12)
abbrev Nstepped : List Str := ["plan", "name", "kind", "partners", "place"]
theorem scstepped : FnScope Nstepped ["plan", "name", "kind"] (defScope ststepped) := ⟨rfl, rfl, rfl, by decide +kernel, rfl, by decide +kernel, by decide +kernel⟩

theorem ok_stepped (F : FnAt K mg "stepped" ststepped) (T : TxtP K mg C) : Def P w K mg base CX0 1 "stepped" ["plan", "name", "kind"] (spStepped C) := by
  refine F.ok scstepped (fun _ _ _ _ _ _ us hl => match us, hl with | [_, _, _], _ => rfl) (fun vs H Q E h => ?_) (fun f cdv A outer s H vs Q E hr h => ?_)
  · obtain ⟨x, ks, ps, name, k, rfl, _⟩ := h
    rfl
  obtain ⟨x, ks, ps, name, k, rfl, h1, hk, hl, q⟩ := h
  have hu := hu_of hr
  have nd := scstepped.nd
  refine ⟨_, (pss_cons (ps_set (i := 3) nd rfl (Or.inl rfl) (pe_dget hu (pe_flK (K := K) rfl (pv 0) rfl) (pv 2) (fun _ _ => rfl)))
      (pss_cons (ps_set (i := 4) nd rfl (Or.inl rfl) (pe_callB c_lenS (by rfl) T.len PySem.boot_len (pa_cons (pv 1) pa_nil)))
      (pss_cutS (ps_while PassesOwn.never (PW.pt (pw_and (pt_cmpR op_gt (pv 4) pe_int (nomark _)) (pw_and1 (pt_cmpR op_inS (pe_ix ix_str (pv 1) (pe_op op_sub (pv 4) pe_int) (fun _ _ => rfl)) (pv 3) (by rfl)))))
      (pss_one (ps_set (i := 4) nd rfl (Or.inl rfl) (pe_op op_sub (pv 4) pe_int))))
      (pss_cutS (ps_if (PW.pt (pw_and (pt_cmpR op_gt (pv 4) pe_int (nomark _)) (pw_and1 (pt_cmpR op_eq (pe_ix ix_str (pv 1) (pe_op op_sub (pv 4) pe_int) (fun _ _ => rfl)) (pv 2) (nomark _)))))
      (pss_one (ps_ret (pe_op op_addS (pe_slice sl_S (pv 1) po_none (po_some (pe_op op_sub (pv 4) pe_int))) (pe_slice sl_S (pv 1) (po_some (pv 4)) po_none))))
      pss_nil)
      (pss_cutS (ps_while PassesOwn.never (PW.pt (pw_and (pt_cmpR op_lt (pv 4) (pe_callB c_lenS (by rfl) T.len PySem.boot_len (pa_cons (pv 1) pa_nil)) (nomark _)) (pw_and1 (pt_cmpR op_ltS (pe_ix ix_str (pv 1) (pv 4) (fun _ _ => rfl)) (pv 2) (nomark _)))))
      (pss_one (ps_set (i := 4) nd rfl (Or.inl rfl) (pe_op op_add (pv 4) pe_int))))
      (pss_one (ps_ret (pe_op op_addS (pe_op op_addS (pe_slice sl_S (pv 1) po_none (po_some (pv 4))) (pv 2)) (pe_slice sl_S (pv 1) (po_some (pv 4)) po_none))))))))), ?_⟩
  refine s_start [some _, some _, some _, none, none] rfl ?_
  obtain ⟨dx, t, d, a1, a2, a3⟩ := h1.ex
  walk_at "go"
  refine v_fld a1 T.Plan.cl T.nO planF_o ?_
  walk_at "go"
  refine v_dget (dget_let (g := fun k => V.str (tx (crossOf ks ps k))) a3 hk) ?_
  walk_at "go"
  refine s_cut (fun σ H' => ∃ ra b : List Nat, name = ra.reverse ++ b ∧ splitB (crossOf ks ps k) name.reverse [] = (ra, b) ∧ σ = [some (.ref x), some (.str (tx name)), some (.str (tx [k])), some (.str (tx (crossOf ks ps k))), some (.int (ra.length : Nat))] ∧ H' = H) ?_ ?_
  · refine s_while (fun m σ H' => ∃ ra b : List Nat, m = ra.length ∧ name = ra.reverse ++ b ∧ splitB (crossOf ks ps k) name.reverse [] = splitB (crossOf ks ps k) ra b ∧ σ = [some (.ref x), some (.str (tx name)), some (.str (tx [k])), some (.str (tx (crossOf ks ps k))), some (.int (ra.length : Nat))] ∧ H' = H) name.length ⟨name.reverse, [], by simp, by simp, rfl, by simp, rfl⟩ ?_
    rintro m σ H' ⟨ra, b, rfl, e1, e2, rfl, rfl⟩
    walk_at "go"
    cases ra with
    | nil =>
      refine if_dec (fun c => absurd c (by simp)) (fun _ => ?_)
      walk_at "go"
      exact ⟨[], b, e1, e2, rfl, rfl⟩
    | cons y r =>
      refine if_dec (fun _ => ?_) (fun c => absurd (by simp) c)
      walk_at "go"
      refine v_ixS (c := y) (by omega) (by rw [e1]; exact at_last) ?_
      walk_at "go"
      refine if_dec (fun c => ?_) (fun c => ?_)
      · refine v_turn ?_
        walk_at "go"
        refine ⟨r.length, by simp, r, y :: b, rfl, ?_, ?_, ?_, rfl⟩
        · rw [e1, List.reverse_cons, List.append_assoc]
          rfl
        · rw [e2]
          show (if y ∈ crossOf ks ps k then _ else _) = _
          rw [if_pos c]
        · have e : (((y :: r).length : Nat) : Int) - 1 = (r.length : Nat) := by
            rw [List.length_cons]
            omega
          rw [e]
          rfl
      · walk_at "go"
        refine ⟨y :: r, b, e1, ?_, rfl, rfl⟩
        rw [e2]
        show (if y ∈ crossOf ks ps k then _ else _) = _
        rw [if_neg c]
  rintro σ H' ⟨ra, b, e1, e2, rfl, rfl⟩
  have hl2 : ra.length + b.length = name.length := by
    rw [e1, List.length_append, List.length_reverse]
  have q : Q (.str (tx (stepAt k ra b))) H' := by
    have e : stepOf (crossOf ks ps k) name k = stepAt k ra b := by
      unfold stepOf
      rw [e2]
    rw [e] at q
    exact q
  refine s_cut (fun σ H2 => ra.head? ≠ some k ∧ σ = [some (.ref x), some (.str (tx name)), some (.str (tx [k])), some (.str (tx (crossOf ks ps k))), some (.int (ra.length : Nat))] ∧ H2 = H') ?_ ?_
  · walk_at "go"
    cases ra with
    | nil =>
      refine if_dec (fun c => absurd c (by simp)) (fun _ => ?_)
      walk_at "go"
      exact ⟨by simp, rfl, rfl⟩
    | cons y r =>
      refine if_dec (fun _ => ?_) (fun c => absurd (by simp) c)
      walk_at "go"
      refine v_ixS (c := y) (by omega) (by rw [e1]; exact at_last) ?_
      walk_at "go"
      rw [dec_tx]
      refine if_dec (fun c => ?_) (fun c => ?_)
      · walk_at "go"
        have ey : y = k := by
          injection c
        subst ey
        have e3 : (((y :: r).length : Nat) : Int) - 1 = (r.length : Nat) := by
          rw [List.length_cons]
          omega
        rw [e3]
        refine v_slTo (by omega) (by omega) ?_
        walk_at "go"
        refine v_slFrom (by omega) (by omega) ?_
        have e4 : name.take ((r.length : Nat) : Int).toNat = r.reverse := by
          rw [e1, List.reverse_cons, List.append_assoc]
          exact List.take_left' (by simp)
        have e5 : name.drop (((y :: r).length : Nat) : Int).toNat = b := by
          rw [e1]
          exact List.drop_left' (by simp)
        rw [e4, e5]
        refine v_addS (by rw [List.length_reverse]; rw [List.length_cons] at hl2; omega) ?_
        have e6 : stepAt y (y :: r) b = r.reverse ++ b := by
          unfold stepAt
          rw [if_pos (show (y :: r).head? = some y from rfl)]
          rfl
        rw [e6] at q
        exact q
      · walk_at "go"
        refine ⟨?_, rfl, rfl⟩
        intro z
        injection z with z
        exact c (by rw [z])
  rintro σ H2 ⟨hh, rfl, rfl⟩
  refine s_cut (fun σ H3 => ∃ c d : List Nat, b = c ++ d ∧ putIn k b = c ++ k :: d ∧ σ = [some (.ref x), some (.str (tx name)), some (.str (tx [k])), some (.str (tx (crossOf ks ps k))), some (.int ((ra.length + c.length : Nat) : Int))] ∧ H3 = H2) ?_ ?_
  · refine s_while (fun m σ H3 => ∃ c d : List Nat, m = d.length ∧ b = c ++ d ∧ putIn k b = c ++ putIn k d ∧ σ = [some (.ref x), some (.str (tx name)), some (.str (tx [k])), some (.str (tx (crossOf ks ps k))), some (.int ((ra.length + c.length : Nat) : Int))] ∧ H3 = H2) b.length ⟨[], b, rfl, rfl, rfl, rfl, rfl⟩ ?_
    rintro m σ H3 ⟨c, d, rfl, e3, e4, rfl, rfl⟩
    have hl3 : ra.length + (c.length + d.length) = name.length := by
      rw [← hl2, e3, List.length_append]
    walk_at "go"
    cases d with
    | nil =>
      refine if_dec (fun z => ?_) (fun _ => ?_)
      · rw [List.length_nil] at hl3
        omega
      walk_at "go"
      exact ⟨c, [], e3, e4, rfl, rfl⟩
    | cons y r =>
      rw [List.length_cons] at hl3
      refine if_dec (fun _ => ?_) (fun z => by omega)
      walk_at "go"
      refine v_ixS (c := y) (by omega) ?_ ?_
      · rw [e1, e3, ← List.append_assoc]
        have := at_mid (x := y) (a := ra.reverse ++ c) (b := r)
        rw [List.length_append, List.length_reverse] at this
        exact this
      walk_at "go"
      rw [lt_one]
      refine if_dec (fun z => ?_) (fun z => ?_)
      · refine v_turn ?_
        walk_at "go"
        refine ⟨r.length, by simp, c ++ [y], r, rfl, ?_, ?_, ?_, rfl⟩
        · rw [e3, List.append_assoc]
          rfl
        · rw [e4, List.append_assoc]
          congr 1
          unfold putIn
          rw [List.takeWhile_cons_of_pos (by simpa using z), List.dropWhile_cons_of_pos (by simpa using z)]
          rfl
        · have e : ((ra.length + c.length : Nat) : Int) + 1 = ((ra.length + (c ++ [y]).length : Nat) : Int) := by
            rw [List.length_append, List.length_singleton]
            omega
          rw [e]
          rfl
      · walk_at "go"
        refine ⟨c, y :: r, e3, ?_, rfl, rfl⟩
        rw [e4]
        congr 1
        unfold putIn
        rw [List.takeWhile_cons_of_neg (by simpa using z), List.dropWhile_cons_of_neg (by simpa using z)]
        rfl
  rintro σ H3 ⟨c, d, e3, e4, rfl, rfl⟩
  have hl3 : ra.length + (c.length + d.length) = name.length := by
    rw [← hl2, e3, List.length_append]
  walk_at "go"
  refine v_slTo (by omega) (by omega) ?_
  have e5 : name.take ((ra.length + c.length : Nat) : Int).toNat = ra.reverse ++ c := by
    rw [e1, e3, ← List.append_assoc]
    exact List.take_left' (by rw [List.length_append, List.length_reverse]; omega)
  have e6 : name.drop ((ra.length + c.length : Nat) : Int).toNat = d := by
    rw [e1, e3, ← List.append_assoc]
    exact List.drop_left' (by rw [List.length_append, List.length_reverse]; omega)
  rw [e5]
  have l1 : (ra.reverse ++ c).length + [k].length ≤ 1000000 := by
    rw [List.length_append, List.length_reverse, List.length_singleton]
    omega
  have l2 : (ra.reverse ++ c ++ [k]).length + d.length ≤ 1000000 := by
    rw [List.length_append, List.length_append, List.length_reverse, List.length_singleton]
    omega
  walk_at "go"
  refine v_slFrom (by omega) (by omega) ?_
  rw [e6]
  refine v_addS l2 ?_
  have e7 : stepAt k ra b = ra.reverse ++ c ++ [k] ++ d := by
    unfold stepAt
    rw [if_neg hh, e4]
    simp
  rw [e7] at q
  exact q
abbrev stjoined : Stmt := (top 13)
abbrev Njoined : List Str := ["plan", "name", "way", "kind"]
theorem scjoined : FnScope Njoined ["plan", "name", "way"] (defScope stjoined) := ⟨rfl, rfl, rfl, by decide +kernel, rfl, by decide +kernel, by decide +kernel⟩

theorem ok_joined (F : FnAt K mg "joined" stjoined) (D_stepped : Def P w K mg base CX0 1 "stepped" ["plan", "name", "kind"] (spStepped C)) : Def P w K mg base CX0 2 "joined" ["plan", "name", "way"] (spJoined C) := by
  refine F.ok scjoined (fun _ _ _ _ _ _ us hl => match us, hl with | [_, _, _], _ => rfl) (fun vs H Q E h => ?_) (fun f cdv A outer s H vs Q E hr h => ?_)
  · obtain ⟨x, ks, ps, name, k, rfl, _⟩ := h
    rfl
  obtain ⟨x, ks, ps, name, way, rfl, h1, hk, hl, q⟩ := h
  have hu := hu_of hr
  have nd := scjoined.nd
  refine ⟨_, (pss_cons (ps_for PassesOwn.never rfl (pi_str (pv 2)) (pg_name (i := 3) nd rfl (Or.inl rfl))
      (pss_one (ps_set (i := 1) nd rfl (Or.inl rfl) (pe_cd D_stepped hr pass0 (pa_cons (pv 0) (pa_cons (pv 1) (pa_cons (pv 3) pa_nil)))))))
      (pss_one (ps_ret (pv 1)))), ?_⟩
  refine s_start [some _, some _, some _, none] rfl ?_
  walk_at "go"
  refine for_it (walk_tx way) (fun i σ H' => ∃ z, σ = [some (.ref x), some (.str (tx (joinOf ks ps name (way.take i)))), some (.str (tx way)), z] ∧ H' = H) ⟨_, rfl, rfl⟩ (fun _ _ _ _ _ => trivial) ?_ ?_
  · rintro i v σ H2 H3 hi ⟨z, rfl, rfl⟩ ⟨rfl, rfl⟩
    walk_at "go"
    refine ⟨x, ks, ps, _, way.getD i 0, rfl, h1, hk _ (getD_mem hi), ?_, ?_⟩
    · have := joinOf_len ks ps (way.take i) name
      rw [List.length_take] at this
      omega
    walk_at "go"
    rw [← joinOf_snoc, ← take_getD hi]
    exact ⟨_, rfl, rfl⟩
  · rintro σ H2 ⟨z, rfl, rfl⟩
    walk_at "go"
    rw [List.take_of_length_le (Nat.le_refl _)]
    exact q
end
end
section
open PySem PySem.Spec L2
def roomF (x : Addr) (name : List Nat) : List (Str × V) := putF "name" (.str (tx name)) (putF "plan" (.ref x) [])
theorem npn : ¬ (("plan" : Str) = "name") := by decide +kernel
theorem roomF_p {x : Addr} {name : List Nat} : (roomF x name).lookup ("plan" : Str) = some (.ref x) := by
  unfold roomF
  rw [lookup_putF, if_neg npn, lookup_putF, if_pos rfl]
theorem roomF_n {x : Addr} {name : List Nat} : (roomF x name).lookup ("name" : Str) = some (.str (tx name)) := by
  unfold roomF
  rw [lookup_putF, if_pos rfl]
/-- a room of the plan at x stands at r -/
structure RoomAt (R : Addr) (H : Hp) (r x : Addr) (name : List Nat) : Prop where
  ex : ∃ dx, H r = some (.ins R dx (roomF x name))
theorem RoomAt.same {R : Addr} {H H' : Hp} {r x : Addr} {name : List Nat} (h : RoomAt R H r x name) (s : Same H H') : RoomAt R H' r x name := by
  obtain ⟨dx, e⟩ := h.ex
  exact ⟨dx, s _ _ e⟩
structure TxtR (K : PySem.W.Frag) (mg : Str → Option Value) (C R O : Addr) : Prop extends TxtP K mg C where
  enumerate : mg "enumerate" = none
  g_MOST_LETTERS : ∃ t, mg "MOST_LETTERS" = some (.int 2000 t)
  Room : ClsF K mg "Room" R
  nPl : NoAttr K R "plan"
  nNm : NoAttr K R "name"
  OtherPlan : ExcF K mg "OtherPlan" O
def spNeedWay (C : Addr) : Sp := fun vs H Q _ => ∃ (x : Addr) (ks : List Nat) (ps : List (List Nat)) (way : List Nat), vs = [.ref x, .str (tx way)] ∧ PlanAt C H x ks ps ∧ (∀ c ∈ way, c ∈ ks) ∧ way.length ≤ 2000 ∧ ∀ H', Same H H' → Q (.str (tx way)) H'
/-- two plans, and what is due if they are equal and if not -/
def Plans2 (C : Addr) (H : Hp) (x y : Addr) (e : Bool) : Prop := ∃ (ks ks' : List Nat) (ps ps' : List (List Nat)), PlanAt C H x ks ps ∧ PlanAt C H y ks' ps' ∧ PsOk ps ∧ PsOk ps' ∧ e = decide (ks = ks' ∧ ps = ps')
def spNeedSame (C O : Addr) : Sp := fun vs H Q E => ∃ (x y : Addr) (e : Bool), vs = [.ref x, .ref y] ∧ Plans2 C H x y e ∧ (e = true → Q .non H) ∧ (e = false → E (.ref O) none H)
def spRoom0 (C R : Addr) : Sp := fun vs H Q _ => ∃ (r dx x : Addr) (ks : List Nat) (ps : List (List Nat)) (way : List Nat), vs = [.ref r, .ref x, .str (tx way)] ∧ H r = some (.ins R dx []) ∧ PlanAt C H x ks ps ∧ (∀ c ∈ way, c ∈ ks) ∧ way.length ≤ 2000 ∧
  ∀ H', Keep r H H' → RoomAt R H' r x (joinOf ks ps [] way) → Q .non H'
def spRoom (C R : Addr) : Sp := fun vs H Q _ => ∃ (x : Addr) (ks : List Nat) (ps : List (List Nat)) (way : List Nat), vs = [.ref x, .str (tx way)] ∧ PlanAt C H x ks ps ∧ (∀ c ∈ way, c ∈ ks) ∧ way.length ≤ 2000 ∧ ∀ r H', H r = none → Same H H' → RoomAt R H' r x (joinOf ks ps [] way) → Q (.ref r) H'
theorem PlanAt.none {C : Addr} {H : Hp} {x : Addr} {ks : List Nat} {ps : List (List Nat)} (h : PlanAt C H x ks ps) {a b : Addr} {o u : HO} (ha : H a = none) (hb : H b = none) : PlanAt C (upd (upd H a o) b u) x ks ps := by
  refine h.same fun c z hc => ?_
  rw [upd_ne (ne_of_none hc hb), upd_ne (ne_of_none hc ha)]
  exact hc
theorem conv_room (C R : Addr) : Conv R (spRoom0 C R) (spRoom C R) := by
  rintro vs H Q E ⟨x, ks, ps, way, rfl, hp, h1, h2, k⟩ r dx hx hdx hne
  refine ⟨r, dx, x, ks, ps, way, rfl, upd_same, hp.none hdx hx, h1, h2, fun H' s' a => ⟨rfl, k r H' hx (fun b o hb => ?_) a⟩⟩
  refine s' b o ?_ (ne_of_none hb hx)
  rw [upd_ne (ne_of_none hb hx), upd_ne (ne_of_none hb hdx)]
  exact hb
section
variable {P : Program} {w : World} {K : PySem.W.Frag} {mg : Str → Option Value} {base : Heap} {C R O : Addr}
abbrev stneed_way : Stmt := (top 27)
abbrev Nneed_way : List Str := ["plan", "way", "index", "letter"]
theorem scneed_way : FnScope Nneed_way ["plan", "way"] (defScope stneed_way) := ⟨rfl, rfl, rfl, by decide +kernel, rfl, by decide +kernel, by decide +kernel⟩

theorem ok_need_way (F : FnAt K mg "need_way" stneed_way) (T : TxtR K mg C R O) : Def P w K mg base CX0 1 "need_way" ["plan", "way"] (spNeedWay C) := by
  refine F.ok scneed_way (fun _ _ _ _ _ _ us hl => match us, hl with | [_, _], _ => rfl) (fun vs H Q E h => ?_) (fun f cdv A outer s H vs Q E hr h => ?_)
  · obtain ⟨x, ks, ps, way, rfl, _⟩ := h
    rfl
  obtain ⟨x, ks, ps, way, rfl, h1, hk, hl, q⟩ := h
  have hu := hu_of hr
  have nd := scneed_way.nd
  refine ⟨_, (pss_cons (ps_if (pt_not (pt_val (pe_callB (c_isiK (K := K) rfl) (by rfl) T.isinstance (by decide +kernel) (pa_cons (pv 1) (pa_cons (pe_bltn (v := .ty "str") (u := .type "str") (by rfl) T.str (by decide +kernel) rfl) pa_nil)))))
      (pss_one ps_never)
      pss_nil)
      (pss_cons (ps_for PassesOwn.never rfl (pi_enumS (by rfl) T.enumerate (pa_cons (pv 1) pa_nil)) (pg_tup rfl (pgs_cons (pg_name (i := 2) nd rfl (Or.inl rfl)) (pgs_cons (pg_name (i := 3) nd rfl (Or.inl rfl)) pgs_nil)))
      (pss_one (ps_if (pt_cmpR op_notInS (pv 3) (pe_flK (K := K) rfl (pv 0) rfl) (by rfl))
        (pss_one ps_never)
        pss_nil)))
      (pss_cons (ps_if (pt_cmpR op_gt (pe_callB c_lenS (by rfl) T.len PySem.boot_len (pa_cons (pv 1) pa_nil)) (pe_globI T.g_MOST_LETTERS) (nomark _))
      (pss_one ps_never)
      pss_nil)
      (pss_one (ps_ret (pv 1)))))), ?_⟩
  refine s_start [some _, some _, none, none] rfl ?_
  walk_at "go"
  refine for_it (walk_enumS way) (fun i σ H' => ∃ y z, σ = [some (.ref x), some (.str (tx way)), y, z] ∧ Same H H') ⟨_, _, rfl, Same.refl _⟩ (fun _ _ _ _ _ => trivial) ?_ ?_
  · rintro i v σ H2 H3 hi ⟨y, z, rfl, s2⟩ ⟨t, c, rfl, ht, rfl, hc⟩
    have s3 : Same H (upd H2 t (.tup [.int (i : Nat), .str (tx [c])])) := s2.trans (Same.new ht)
    obtain ⟨dx, t', d, a1, a2, a3⟩ := h1.ex
    refine v_gTup2 rfl upd_same ?_
    walk_at "go"
    refine v_fld (s3 _ _ a1) T.Plan.cl T.nK planF_k ?_
    walk_at "go"
    refine if_ndec (fun z => absurd (hk c (List.mem_of_getElem? hc)) z) (fun _ => ?_)
    walk_at "go"
    exact ⟨_, _, rfl, s3⟩
  · rintro σ H2 ⟨y, z, rfl, s2⟩
    walk_at "go"
    refine if_dec (fun c => ?_) (fun c => ?_)
    · omega
    walk_at "go"
    exact q H2 s2
abbrev stneed_same : Stmt := (top 28)
abbrev Nneed_same : List Str := ["plan", "other"]
theorem scneed_same : FnScope Nneed_same ["plan", "other"] (defScope stneed_same) := ⟨rfl, rfl, rfl, by decide +kernel, rfl, by decide +kernel, by decide +kernel⟩

theorem ok_need_same (F : FnAt K mg "need_same" stneed_same) (T : TxtR K mg C R O) (N_Plan_eq : MDef P w K mg base CX0 1 C "__eq__" ["self", "other"] (spPlanEq C)) : Def P w K mg base (L2.CX P w) 3 "need_same" ["plan", "other"] (spNeedSame C O) := by
  refine F.okX scneed_same (fun _ _ _ _ _ _ us hl => match us, hl with | [_, _], _ => rfl) (fun vs H Q E h => ?_) (fun f cdv A outer s H vs Q E hr h => ?_)
  · obtain ⟨x, y, e, rfl, _⟩ := h
    rfl
  obtain ⟨x, y, e, rfl, ⟨ks, ks', ps, ps', p1, p2, o1, o2, he⟩, q1, q2⟩ := h
  have hu := hu_of hr
  have nd := scneed_same.nd
  refine ⟨_, (pss_one (ps_if (pt_cmpR (op_neM N_Plan_eq T.Plan.ne T.Plan.ob hr pass0) (pv 0) (pv 1) (nomark _))
      (pss_one (ps_raise rfl (takes_of rfl rfl rfl rfl) (pmk_own0 T.OtherPlan)))
      pss_nil)), ?_⟩
  refine s_start [some _, some _] rfl ?_
  walk_at "go"
  obtain ⟨dx, t, d, a1, a2, a3⟩ := p1.ex
  obtain ⟨dy, t', d', b1, b2, b3⟩ := p2.ex
  refine v_M2n a1 b1 ?_
  refine ⟨x, y, ks, ks', ps, ps', rfl, p1, p2, o1, o2, ?_⟩
  refine ⟨_, rfl, ?_⟩
  walk_at "go"
  refine if_ndec (fun c => ?_) (fun c => ?_)
  · exact q2 (by rw [he, decide_eq_false c])
  · walk_at "go"
    exact q1 (by rw [he, decide_eq_true c])
abbrev stRoom_init : Stmt := (inClass (top 31) 0)
abbrev NRoom_init : List Str := ["self", "plan", "way"]
theorem scRoom_init : FnScope NRoom_init ["self", "plan", "way"] (defScope stRoom_init) := ⟨rfl, rfl, rfl, by decide +kernel, rfl, by decide +kernel, by decide +kernel⟩

theorem ok_Room {dvs : List V} (F : MAtD K R "__init__" "Room.__init__" stRoom_init dvs) (hd : dvs.length = 1) (T : TxtR K mg C R O) (D_need_way : Def P w K mg base CX0 1 "need_way" ["plan", "way"] (spNeedWay C)) (D_joined : Def P w K mg base CX0 2 "joined" ["plan", "name", "way"] (spJoined C)) :
    CMk P w K mg base CX0 3 "Room" R (spRoom C R) ["self", "plan", "way"] "Room.__init__" stRoom_init dvs := by
  refine F.make (sp0 := spRoom0 C R) T.Room scRoom_init (by intro z; rw [z] at hd; cases hd) (fun T kV doc pm an cdv ct us its l1 l2 => ?_) (fun vs H Q E h => ?_) (conv_room C R) (fun f cdv A outer s H vs Q E hr h => ?_)
  · rw [hd] at l2 ⊢
    match us, l1, its, l2 with
    | [_, _, _], _, [_], _ => exact ⟨_, rfl, rfl⟩
  · obtain ⟨r, dx, x, ks, ps, way, rfl, _⟩ := h
    rfl
  obtain ⟨r, dx, x, ks, ps, way, rfl, hx, hp, h1, h2, k⟩ := h
  have hu := hu_of hr
  have nd := scRoom_init.nd
  replace D_need_way := D_need_way.mono (show 1 ≤ 2 by decide)
  refine ⟨_, (pss_cons (ps_flK (K := K) rfl (pv 0) (pv 1) rfl)
      (pss_one (ps_flK (K := K) rfl (pv 0) (pe_cd D_joined hr pass0 (pa_cons (pv 1) (pa_cons (pe_tx [] (by decide +kernel)) (pa_cons (pe_cd D_need_way hr pass0 (pa_cons (pv 1) (pa_cons (pv 2) pa_nil))) pa_nil)))) rfl))), ?_⟩
  refine s_start [some _, some _, some _] rfl ?_
  walk_at "go"
  refine v_sfld hx T.Room.cl T.nPl (by decide) fun H1 s1 e1 => ?_
  walk_at "go"
  have hp1 : PlanAt C H1 x ks ps := by
    obtain ⟨dx', t', d, a1, a2, a3⟩ := hp.ex
    exact ⟨dx', t', d, s1 _ _ a1 (fun z => by rw [z, hx] at a1; injection a1 with a1; injection a1 with _ _ a1; cases a1), s1 _ _ a2 (ne_of a2 hx (by intro z; cases z)), s1 _ _ a3 (ne_of a3 hx (by intro z; cases z))⟩
  refine ⟨x, ks, ps, way, rfl, hp1, h1, h2, fun H2 s2 => ?_⟩
  walk_at "go"
  refine ⟨x, ks, ps, [], way, rfl, hp1.same s2, h1, by rw [List.length_nil]; omega, ?_⟩
  walk_at "go"
  refine v_sfld (s2 _ _ e1) T.Room.cl T.nNm (by show 1 < 1000; decide) fun H3 s3 e3 => ?_
  refine k H3 (fun b o hb nb => s3 _ _ (s2 _ _ (s1 _ _ hb nb)) nb) ⟨dx, e3⟩
end
end
section
open PySem PySem.Spec L2
theorem Plans2.same {C : Addr} {H H' : Hp} {x y : Addr} {e : Bool} (h : Plans2 C H x y e) (s : Same H H') : Plans2 C H' x y e := by
  obtain ⟨ks, ks', ps, ps', a, b, c⟩ := h
  exact ⟨ks, ks', ps, ps', a.same s, b.same s, c⟩
def spRoomLen (R : Addr) : Sp := fun vs H Q _ => ∃ (r x : Addr) (name : List Nat), vs = [.ref r] ∧ RoomAt R H r x name ∧ name.length ≤ 100000 ∧ Q (.int name.length) H
/-- two rooms, and whether their plans are equal -/
structure Rooms2 (C R : Addr) (H : Hp) (r x : Addr) (a : List Nat) (r' y : Addr) (b : List Nat) (e : Bool) : Prop where
  one : RoomAt R H r x a
  two : RoomAt R H r' y b
  pl : Plans2 C H x y e
  la : a.length ≤ 2000
  lb : b.length ≤ 2000
theorem Rooms2.same {C R : Addr} {H H' : Hp} {r x : Addr} {a : List Nat} {r' y : Addr} {b : List Nat} {e : Bool} (h : Rooms2 C R H r x a r' y b e) (s : Same H H') : Rooms2 C R H' r x a r' y b e := ⟨h.one.same s, h.two.same s, h.pl.same s, h.la, h.lb⟩
def spRoomEq (C R : Addr) : Sp := fun vs H Q _ => ∃ (r x : Addr) (a : List Nat) (r' y : Addr) (b : List Nat) (e : Bool), vs = [.ref r, .ref r'] ∧ Rooms2 C R H r x a r' y b e ∧ Q (.bl (e && decide (a = b))) H
theorem roomF_no {x : Addr} {name : List Nat} {m : Str} (h1 : ¬ m = "name") (h2 : ¬ m = "plan") : (roomF x name).lookup m = none := by
  unfold roomF
  rw [lookup_putF, if_neg h1, lookup_putF, if_neg h2]
  rfl
section
variable {P : Program} {w : World} {K : PySem.W.Frag} {mg : Str → Option Value} {base : Heap} {C R O : Addr}
abbrev stRoom_eq : Stmt := (inClass (top 31) 9)
abbrev NRoom_eq : List Str := ["self", "other"]
theorem scRoom_eq : FnScope NRoom_eq ["self", "other"] (defScope stRoom_eq) := ⟨rfl, rfl, rfl, by decide +kernel, rfl, by decide +kernel, by decide +kernel⟩

theorem ok_Room_eq (F : MAt K R "__eq__" "Room.__eq__" stRoom_eq) (T : TxtR K mg C R O) (M_Plan_eq : MDef P w K mg base CX0 1 C "__eq__" ["self", "other"] (spPlanEq C)) : MDef P w K mg base CX0 2 R "__eq__" ["self", "other"] (spRoomEq C R) := by
  refine F.ok scRoom_eq (fun _ _ _ _ _ _ us hl => match us, hl with | [_, _], _ => rfl) (fun vs H Q E h => ?_) (fun f cdv A outer s H vs Q E hr h => ?_)
  · obtain ⟨r, x, a, r', y, b, e, rfl, _⟩ := h
    rfl
  obtain ⟨r, x, a, r', y, b, e, rfl, h, q⟩ := h
  have hu := hu_of hr
  have nd := scRoom_eq.nd
  refine ⟨_, (pss_one (ps_ret (pe_and (pe_callB (c_isiK (K := K) rfl) (by rfl) T.isinstance (by decide +kernel) (pa_cons (pv 1) (pa_cons (pe_globC T.Room.at) pa_nil))) (pe_and (pe_cmpR (op_cmpM (op := .Eq) (fun _ _ => rfl) M_Plan_eq hr pass0) (pe_flK (K := K) rfl (pv 0) rfl) (pe_flK (K := K) rfl (pv 1) rfl) (nomark _)) (pe_one (pe_cmpR op_eq (pe_flK (K := K) rfl (pv 0) rfl) (pe_flK (K := K) rfl (pv 1) rfl) (nomark _))))))), ?_⟩
  refine s_start [some _, some _] rfl ?_
  obtain ⟨dr, a1⟩ := h.one.ex
  obtain ⟨dr', b1⟩ := h.two.ex
  obtain ⟨ks, ks', ps, ps', p1, p2, o1, o2, he⟩ := h.pl
  obtain ⟨dx, t, d, c1, c2, c3⟩ := p1.ex
  obtain ⟨dy, t', d', d1, d2, d3⟩ := p2.ex
  walk_at "go"
  refine v_isiC T.Room b1 ?_
  walk_at "go"
  refine v_fld a1 T.Room.cl T.nPl roomF_p ?_
  walk_at "go"
  refine v_fld b1 T.Room.cl T.nPl roomF_p ?_
  refine v_M2 c1 d1 ⟨x, y, ks, ks', ps, ps', rfl, p1, p2, o1, o2, ?_⟩
  rw [← he]
  walk_at "go"
  cases e with
  | true =>
    walk_at "go"
    refine v_fld a1 T.Room.cl T.nNm roomF_n ?_
    walk_at "go"
    refine v_fld b1 T.Room.cl T.nNm roomF_n ?_
    walk_at "go"
    rw [dec_tx]
    exact q
  | false =>
    walk_at "go"
    exact q
end
end
section
open PySem PySem.Spec L2
def spPen (K : PySem.W.Frag) : Sp := fun vs H Q _ => ∃ (a : Addr) (ns : List Int), vs = [.ref a] ∧ SqL K H a (ns.map V.int) ∧ ns.length ≤ 63 ∧ ∀ (g : Pen) (H' : Hp), PenAt g H' 0 → Same H H' → H g.p = none → Q (.ref g.p) H'
theorem cut_ints (ns : List Int) (lo hi : Option Int) : ∃ ms : List Int, cutV (ns.map V.int) lo hi = ms.map V.int ∧ ms.length ≤ ns.length := by
  unfold cutV
  rw [← List.map_drop, ← List.map_take]
  refine ⟨_, rfl, ?_⟩
  rw [List.length_take, List.length_drop]
  omega
section
variable {P : Program} {w : World} {K : PySem.W.Frag} {mg : Str → Option Value} {base : Heap}
abbrev stpen : Stmt := (top 45)
abbrev Npen : List Str := ["_law_script"]
theorem scpen : FnScope Npen ["_law_script"] (defScope stpen) := ⟨rfl, rfl, rfl, by decide +kernel, rfl, by decide +kernel, by decide +kernel⟩

theorem ok_pen (F : FnAt K mg "_law_pen" stpen) (T : Txt K mg) : Def P w K mg base CX0 1 "_law_pen" ["_law_script"] (spPen K) := by
  refine F.ok scpen (fun _ _ _ _ _ _ us hl => match us, hl with | [_], _ => rfl) (fun vs H Q E h => ?_) (fun f cdv A outer s H vs Q E hr h => ?_)
  · obtain ⟨a, ns, rfl, _⟩ := h
    rfl
  obtain ⟨a, ns, rfl, ha, hn, k⟩ := h
  have hu := hu_of hr
  have nd := scpen.nd
  refine ⟨_, (pss_one (ps_ret (pe_disp (pps_cons pe_str (pe_callTy (c_listK (K := K) rfl) (by rfl) T.list (by decide +kernel) (pa_cons (pe_slice (sl_LK (K := K) rfl) (pv 0) po_none (po_some pe_int)) pa_nil)) (pps_cons pe_str pe_int (pps_cons pe_str pe_int pps_nil))) (by rfl) (by rfl) (fun z => by cases z) (by decide)))), ?_⟩
  refine s_start [some _] rfl ?_
  walk_at "go"
  intro p hp
  have s1 : Same H (upd H p (.dK [])) := Same.new hp
  obtain ⟨ms, e1, l1⟩ := cut_ints ns none (some 63)
  walk_at "go"
  refine v_slL (sqL_same ha s1) fun b H2 hb s2 e2 => ?_
  rw [e1] at e2
  walk_at "go"
  refine v_list (SqL.of e2) fun c H3 hc s3 e3 => ?_
  walk_at "go"
  have ep : H3 p = some (.dK []) := s3 _ _ (s2 _ _ upd_same)
  refine ⟨ep, [(Sum.inr "cells", .ref c), (Sum.inr "place", .int 0), (Sum.inr "rest", .int 0)], rfl, (by show 3 ≤ 15; decide), ?_⟩
  have hcp : c ≠ p := (ne_of_none (s2 _ _ upd_same) hc).symm
  have em : mergeK [] [(Sum.inr ("cells" : Str), V.ref c), (Sum.inr ("place" : Str), .int 0), (Sum.inr ("rest" : Str), .int 0)] = penL c 0 0 := by
    unfold mergeK penL
    rw [List.foldl_cons, List.foldl_cons, List.foldl_cons, List.foldl_nil]
    rw [putK_new (k := Sum.inr ("cells" : Str)) _ rfl, putK_new (k := Sum.inr ("place" : Str)) _ (by rw [List.nil_append, valV_neg kcp]; rfl), putK_new (k := Sum.inr ("rest" : Str)) _ (by rw [List.nil_append, List.cons_append, valV_neg kcr, List.nil_append, valV_neg kpr]; rfl)]
    rfl
  rw [em]
  have s4 : Same H (upd H3 p (.dK (penL c 0 0))) := fun b' o hb' => by
    rw [upd_ne (ne_of_none hb' hp)]
    exact s3 _ _ (s2 _ _ (s1 _ _ hb'))
  refine k ⟨p, c, ms⟩ _ ⟨0, 0, upd_same, ?_, by show ms.length ≤ 63; omega, by omega, by omega, by omega⟩ s4 hp
  show upd H3 p _ c = _
  rw [upd_ne hcp]
  exact e3
end
end
section
open PySem PySem.Spec L2
theorem cells_ne {k : Nat} : ¬ ((Sum.inr (tx [k]) : Key) = Sum.inr ("cells" : Str)) := by
  intro h
  injection h with h
  have : (tx [k]).length = ("cells" : Str).length := by rw [h]
  rw [tx_len, List.length_singleton] at this
  exact absurd this (by decide +kernel)
theorem RoomAt.pen {R : Addr} {H H' : Hp} {r x : Addr} {nm : List Nat} {g : Pen} {n : Nat} (h : RoomAt R H r x nm) (p : PenAt g H n) (k : Keep g.p H H') : RoomAt R H' r x nm := by
  obtain ⟨dx, e⟩ := h.ex
  obtain ⟨a, b, h1, _⟩ := p.ex
  exact ⟨dx, k _ _ e (ne_of e h1 (by intro z; cases z))⟩
theorem PlanAt.pen {C : Addr} {H H' : Hp} {x : Addr} {ks : List Nat} {ps : List (List Nat)} {g : Pen} {n : Nat} (h : PlanAt C H x ks ps) (p : PenAt g H n) (k : Keep g.p H H') : PlanAt C H' x ks ps := by
  obtain ⟨dx, t, d, a1, a2, a3⟩ := h.ex
  obtain ⟨a, b, h1, _⟩ := p.ex
  refine ⟨dx, t, d, k _ _ a1 (ne_of a1 h1 (by intro z; cases z)), k _ _ a2 (ne_of a2 h1 (by intro z; cases z)), k _ _ a3 fun z => ?_⟩
  rw [z, h1] at a3
  injection a3 with a3
  injection a3 with a3
  unfold crossKV penL at a3
  generalize hk : ks.map _ = m at a3
  cases ks with
  | nil => rw [List.map_nil] at hk; rw [← hk] at a3; cases a3
  | cons c r =>
    rw [List.map_cons] at hk
    rw [← hk] at a3
    injection a3 with a3 _
    injection a3 with a3 _
    exact cells_ne a3.symm
theorem RoomAt.lst {R : Addr} {H H' : Hp} {r x q : Addr} {nm : List Nat} {l : List V} (h : RoomAt R H r x nm) (e0 : H q = some (.lst l)) (k : Keep q H H') : RoomAt R H' r x nm := by
  obtain ⟨dx, e⟩ := h.ex
  exact ⟨dx, k _ _ e (ne_of e e0 (by intro z; cases z))⟩
theorem PlanAt.lst {C : Addr} {H H' : Hp} {x q : Addr} {ks : List Nat} {ps : List (List Nat)} {l : List V} (h : PlanAt C H x ks ps) (e0 : H q = some (.lst l)) (k : Keep q H H') : PlanAt C H' x ks ps := by
  obtain ⟨dx, t, d, a1, a2, a3⟩ := h.ex
  exact ⟨dx, t, d, k _ _ a1 (ne_of a1 e0 (by intro z; cases z)), k _ _ a2 (ne_of a2 e0 (by intro z; cases z)), k _ _ a3 (ne_of a3 e0 (by intro z; cases z))⟩
end
section
open PySem PySem.Spec L2
def spIsKind (C : Addr) : Sp := fun vs H Q _ => ∃ (x : Addr) (ks : List Nat) (ps : List (List Nat)) (k : Nat), vs = [.ref x, .str (tx [k])] ∧ PlanAt C H x ks ps ∧ k ∈ ks ∧ Q (.bl true) H
def spRoomAdd (C R : Addr) : Sp := fun vs H Q _ => ∃ (r x : Addr) (ks : List Nat) (ps : List (List Nat)) (name way : List Nat), vs = [.ref r, .str (tx way)] ∧ RoomAt R H r x name ∧ PlanAt C H x ks ps ∧ (∀ c ∈ name, c ∈ ks) ∧ (∀ c ∈ way, c ∈ ks) ∧ name.length ≤ 2000 ∧ way.length ≤ 2000 ∧ (joinOf ks ps name way).length ≤ 2000 ∧
  ∀ r' H', H r' = none → Same H H' → RoomAt R H' r' x (joinOf ks ps [] (joinOf ks ps name way)) → Q (.ref r') H'
/-- a room and a text -/
def spRoomEqS (R : Addr) : Sp := fun vs H Q _ => ∃ (r : Addr) (z : Str), vs = [.ref r, .str z] ∧ Q (.bl false) H
section
variable {P : Program} {w : World} {K : PySem.W.Frag} {mg : Str → Option Value} {base : Heap} {C R O : Addr}
abbrev stis_kind : Stmt := (top 25)
abbrev Nis_kind : List Str := ["plan", "value"]
theorem scis_kind : FnScope Nis_kind ["plan", "value"] (defScope stis_kind) := ⟨rfl, rfl, rfl, by decide +kernel, rfl, by decide +kernel, by decide +kernel⟩

theorem ok_is_kind (F : FnAt K mg "is_kind" stis_kind) (T : TxtP K mg C) : Def P w K mg base CX0 1 "is_kind" ["plan", "value"] (spIsKind C) := by
  refine F.ok scis_kind (fun _ _ _ _ _ _ us hl => match us, hl with | [_, _], _ => rfl) (fun vs H Q E h => ?_) (fun f cdv A outer s H vs Q E hr h => ?_)
  · obtain ⟨x, ks, ps, k, rfl, _⟩ := h
    rfl
  obtain ⟨x, ks, ps, k, rfl, h1, hk, q⟩ := h
  have hu := hu_of hr
  have nd := scis_kind.nd
  refine ⟨_, (pss_one (ps_ret (pe_and (pe_callB (c_isiK (K := K) rfl) (by rfl) T.isinstance (by decide +kernel) (pa_cons (pv 1) (pa_cons (pe_bltn (v := .ty "str") (u := .type "str") (by rfl) T.str (by decide +kernel) rfl) pa_nil))) (pe_and (pe_cmpR op_eq (pe_callB c_lenS (by rfl) T.len PySem.boot_len (pa_cons (pv 1) pa_nil)) pe_int (nomark _)) (pe_one (pe_cmpR op_inS (pv 1) (pe_flK (K := K) rfl (pv 0) rfl) (by rfl))))))), ?_⟩
  refine s_start [some _, some _] rfl ?_
  obtain ⟨dx, t, d, a1, a2, a3⟩ := h1.ex
  have l1 : [k].length ≤ 1000000 := by simp
  walk_at "go"
  refine if_dec (fun c => ?_) (fun c => (c (by rfl)).elim)
  walk_at "go"
  refine v_fld a1 T.Plan.cl T.nK planF_k ?_
  walk_at "go"
  rw [decide_eq_true hk]
  exact q
abbrev stRoom_add : Stmt := (inClass (top 31) 4)
abbrev NRoom_add : List Str := ["self", "way"]
theorem scRoom_add : FnScope NRoom_add ["self", "way"] (defScope stRoom_add) := ⟨rfl, rfl, rfl, by decide +kernel, rfl, by decide +kernel, by decide +kernel⟩

theorem ok_Room_add (F : MAt K R "__add__" "Room.__add__" stRoom_add) (T : TxtR K mg C R O) (D_need_way : Def P w K mg base CX0 1 "need_way" ["plan", "way"] (spNeedWay C)) (D_joined : Def P w K mg base CX0 2 "joined" ["plan", "name", "way"] (spJoined C)) (C_Room : CDef P w K mg base CX0 3 "Room" R (spRoom C R)) : MDef P w K mg base CX0 5 R "__add__" ["self", "way"] (spRoomAdd C R) := by
  refine F.ok scRoom_add (fun _ _ _ _ _ _ us hl => match us, hl with | [_, _], _ => rfl) (fun vs H Q E h => ?_) (fun f cdv A outer s H vs Q E hr h => ?_)
  · obtain ⟨r, x, ks, ps, name, way, rfl, _⟩ := h
    rfl
  obtain ⟨r, x, ks, ps, name, way, rfl, h1, h2, hn, hw, l1, l2, l3, q⟩ := h
  have hu := hu_of hr
  have nd := scRoom_add.nd
  replace D_need_way := D_need_way.mono (show 1 ≤ 4 by decide)
  replace D_joined := D_joined.mono (show 2 ≤ 4 by decide)
  refine ⟨_, (pss_one (ps_ret (pe_mk C_Room hr pass0 (pa_cons (pe_flK (K := K) rfl (pv 0) rfl) (pa_cons (pe_cd D_joined hr pass0 (pa_cons (pe_flK (K := K) rfl (pv 0) rfl) (pa_cons (pe_flK (K := K) rfl (pv 0) rfl) (pa_cons (pe_cd D_need_way hr pass0 (pa_cons (pe_flK (K := K) rfl (pv 0) rfl) (pa_cons (pv 1) pa_nil))) pa_nil)))) pa_nil))))), ?_⟩
  refine s_start [some _, some _] rfl ?_
  obtain ⟨dr, a1⟩ := h1.ex
  walk_at "go"
  refine v_fld a1 T.Room.cl T.nPl roomF_p ?_
  walk_at "go"
  refine v_fld a1 T.Room.cl T.nPl roomF_p ?_
  walk_at "go"
  refine v_fld a1 T.Room.cl T.nNm roomF_n ?_
  walk_at "go"
  refine v_fld a1 T.Room.cl T.nPl roomF_p ?_
  walk_at "go"
  refine ⟨x, ks, ps, way, rfl, h2, hw, l2, fun H1 s1 => ?_⟩
  walk_at "go"
  refine ⟨x, ks, ps, name, way, rfl, h2.same s1, hw, by omega, ?_⟩
  walk_at "go"
  refine ⟨x, ks, ps, _, rfl, h2.same s1, fun c hc => (joinOf_mem hc).elim (hn c) (hw c), l3, fun r' H' a b c => q r' H' ?_ (s1.trans b) c⟩
  exact L2.Same.free s1 a
end
end
section
open PySem PySem.Spec L2
def spPick : Sp := fun vs H Q _ => ∃ (g : Pen) (n : Nat) (q : Addr) (xs : List V), vs = [.ref g.p, .ref q] ∧ H q = some (.lst xs) ∧ 0 < xs.length ∧ xs.length < 1000000 ∧ PenAt g H n ∧ n < 1000000 ∧ q ≠ g.p ∧
  ∀ v H', v ∈ xs → PenAt g H' (n + 1) → Keep g.p H H' → Q v H'
def spShuffled : Sp := fun vs H Q _ => ∃ (g : Pen) (n : Nat) (q : Addr) (ls : List Nat), vs = [.ref g.p, .ref q] ∧ H q = some (.lst (ls.map fun c => V.str (tx [c]))) ∧ ls.length ≤ 1000 ∧ (∀ c ∈ ls, c < 1000) ∧ PenAt g H n ∧ n < 950000 ∧
  ∀ (l : Addr) (ys : List Nat) (H' : Hp), H l = none → ys.Perm ls → H' l = some (.lst (ys.map fun c => V.str (tx [c]))) → PenAt g H' (n + ls.length) → Keep g.p H H' → Q (.ref l) H'
section
variable {P : Program} {w : World} {K : PySem.W.Frag} {mg : Str → Option Value} {base : Heap}
abbrev stpick : Stmt := (top 47)
abbrev Npick : List Str := ["_law_pen_here", "_law_items"]
theorem scpick : FnScope Npick ["_law_pen_here", "_law_items"] (defScope stpick) := ⟨rfl, rfl, rfl, by decide +kernel, rfl, by decide +kernel, by decide +kernel⟩

theorem ok_pick (F : FnAt K mg "_law_pick" stpick) (T : Txt K mg) (D_draw : Def P w K mg base CX0 1 "_law_draw" ["_law_pen_here", "_law_number"] spDraw) : Def P w K mg base CX0 2 "_law_pick" ["_law_pen_here", "_law_items"] spPick := by
  refine F.ok scpick (fun _ _ _ _ _ _ us hl => match us, hl with | [_, _], _ => rfl) (fun vs H Q E h => ?_) (fun f cdv A outer s H vs Q E hr h => ?_)
  · obtain ⟨g, n, q, xs, rfl, _⟩ := h
    rfl
  obtain ⟨g, n, q, xs, rfl, hq, h0, h1, hp, hn, hne, k⟩ := h
  have hu := hu_of hr
  have nd := scpick.nd
  refine ⟨_, (pss_one (ps_ret (pe_ix (ix_LK (K := K) rfl) (pv 1) (pe_cd D_draw hr pass0 (pa_cons (pv 0) (pa_cons (pe_callB (c_lenK (K := K) rfl) (by rfl) T.len PySem.boot_len (pa_cons (pv 1) pa_nil)) pa_nil))) (fun _ _ => rfl)))), ?_⟩
  refine s_start [some _, some _] rfl ?_
  walk_at "go"
  refine ⟨g, xs.length, n, rfl, by omega, by omega, hp, hn, fun z H1 z0 z1 p1 k1 => ?_⟩
  walk_at "go"
  have hz : z.toNat < xs.length := by omega
  refine v_ixL (k1 _ _ hq hne) (at_of (j := z.toNat) (by omega) (List.getElem?_eq_getElem hz)) ?_
  exact k _ H1 (List.getElem_mem hz) p1 k1
abbrev stshuffled : Stmt := (top 48)
abbrev Nshuffled : List Str := ["_law_pen_here", "_law_items", "_law_left", "_law_found"]
theorem scshuffled : FnScope Nshuffled ["_law_pen_here", "_law_items"] (defScope stshuffled) := ⟨rfl, rfl, rfl, by decide +kernel, rfl, by decide +kernel, by decide +kernel⟩

theorem ok_shuffled (F : FnAt K mg "_law_shuffled" stshuffled) (T : Txt K mg) (D_draw : Def P w K mg base CX0 1 "_law_draw" ["_law_pen_here", "_law_number"] spDraw) : Def P w K mg base CX0 2 "_law_shuffled" ["_law_pen_here", "_law_items"] spShuffled := by
  refine F.ok scshuffled (fun _ _ _ _ _ _ us hl => match us, hl with | [_, _], _ => rfl) (fun vs H Q E h => ?_) (fun f cdv A outer s H vs Q E hr h => ?_)
  · obtain ⟨g, n, q, xs, rfl, _⟩ := h
    rfl
  obtain ⟨g, n, q, ls, rfl, hq, h1, h2, hp, hn, k⟩ := h
  have hu := hu_of hr
  have nd := scshuffled.nd
  refine ⟨_, (pss_cons (ps_par (i := 2) (j := 3) (by rfl) nd rfl rfl (by decide) rfl rfl (pa_cons (pe_callTy (c_listK (K := K) rfl) (by rfl) T.list (by decide +kernel) (pa_cons (pv 1) pa_nil)) (pa_cons (pe_lst pa_nil) pa_nil)) (by rfl))
      (pss_cutS (ps_while PassesOwn.never (pt_cmpR (op_neDK (K := K) rfl hr.units) (pv 2) (pe_lst pa_nil) (nomark _))
      (pss_one (ps_expr (pe_appK (K := K) rfl (pv 3) (pe_popK (K := K) rfl (pv 2) (pe_cd D_draw hr pass0 (pa_cons (pv 0) (pa_cons (pe_callB (c_lenK (K := K) rfl) (by rfl) T.len PySem.boot_len (pa_cons (pv 2) pa_nil)) pa_nil))))))))
      (pss_one (ps_ret (pv 3))))), ?_⟩
  refine s_start [some _, some _, none, none] rfl ?_
  walk_at "go"
  refine v_list (SqL.of hq) fun a H1 ha s1 e1 => ?_
  walk_at "go"
  intro b H2 hb s2 e2
  walk_at "go"
  have hab : a ≠ b := ne_of_none e1 hb
  refine s_cut (fun σ H' => ∃ ys : List Nat, σ = [some (.ref g.p), some (.ref q), some (.ref a), some (.ref b)] ∧ ys.Perm ls ∧ H' b = some (.lst (ys.map fun c => V.str (tx [c]))) ∧ PenAt g H' (n + ls.length) ∧ Keep g.p H H') ?_ ?_
  · refine s_while (fun m σ H' => ∃ xs ys : List Nat, m = xs.length ∧ σ = [some (.ref g.p), some (.ref q), some (.ref a), some (.ref b)] ∧ (ys ++ xs).Perm ls ∧ H' a = some (.lst (xs.map fun c => V.str (tx [c]))) ∧ H' b = some (.lst (ys.map fun c => V.str (tx [c]))) ∧ PenAt g H' (n + ys.length) ∧ Keep g.p H H') ls.length ⟨ls, [], rfl, rfl, .refl _, s2 _ _ e1, e2, hp.same (s1.trans s2), Keep.of (s1.trans s2)⟩ ?_
    rintro m σ H3 ⟨xs, ys, rfl, rfl, pm, ea, eb, p3, k3⟩
    have hl := pm.length_eq
    rw [List.length_append] at hl
    walk_at "go"
    intro e H4 he s4 e4
    have ea4 := s4 _ _ ea
    have eb4 := s4 _ _ eb
    have ea5 : H4 a = some (.lst ((xs.map fun c => tx [c]).map V.str)) := by
      rw [ea4, List.map_map]
      rfl
    refine v_neNilS ea5 (fun x hx => ?_) e4 ?_
    · obtain ⟨c, hc, rfl⟩ := List.mem_map.mp hx
      refine ok_tx fun d hd => ?_
      rw [List.mem_singleton] at hd
      subst hd
      exact h2 _ (pm.subset (List.mem_append_right _ hc))
    walk_at "go"
    rw [List.isEmpty_map]
    cases xs with
    | nil =>
      walk_at "go"
      refine ⟨ys, rfl, by simpa using pm, eb4, (p3.same s4).mono (by omega), fun c o hc nc => s4 _ _ (k3 _ _ hc nc)⟩
    | cons x0 xr =>
      walk_at "go"
      refine v_turn ?_
      walk_at "go"
      refine ⟨g, _, n + ys.length, rfl, ?_, ?_, p3.same s4, by omega, fun z H5 z0 z1 p5 k5 => ?_⟩
      · rw [List.length_map, List.length_map, List.length_cons]; omega
      · rw [List.length_map, List.length_map]; omega
      rw [List.length_map, List.length_map] at z1
      have nag : a ≠ g.p := (hp.p_ne ha).symm
      have nbg : b ≠ g.p := ((hp.same s1).p_ne hb).symm
      have hz : z.toNat < (x0 :: xr).length := by omega
      walk_at "go"
      refine v_pop (k5 _ _ ea4 nag) z0 (by rw [List.length_map]; omega) (by rw [List.length_map]; omega) (y := V.str (tx [(x0 :: xr)[z.toNat]])) (by rw [List.getElem?_map, List.getElem?_eq_getElem hz]; rfl) fun H6 k6 e6 => ?_
      walk_at "go"
      have eb6 := k6 _ _ (k5 _ _ eb4 nbg) hab.symm
      refine v_app eb6 (by rw [List.length_map]; omega) fun H7 k7 e7 => ?_
      walk_at "go"
      refine ⟨xr.length, by simp, (x0 :: xr).eraseIdx z.toNat, ys ++ [(x0 :: xr)[z.toNat]], ?_, rfl, ?_, ?_, ?_, ?_, ?_⟩
      · rw [List.length_eraseIdx_of_lt hz]
        rfl
      · refine .trans ?_ pm
        rw [List.append_assoc]
        refine .append_left _ ?_
        exact erase_perm _ _ hz
      · rw [k7 _ _ e6 hab]
        rw [erase_map]
      · rw [e7, List.map_append]
        rfl
      · have q6 := p5.keep k6 (hp.p_ne ha) (hp.cl_ne ha)
        have q7 := q6.keep k7 ((hp.same s1).p_ne hb) ((hp.same s1).cl_ne hb)
        rw [List.length_append]
        exact q7
      · intro c o hc nc
        exact k7 _ _ (k6 _ _ (k5 _ _ (s4 _ _ (k3 _ _ hc nc)) nc) (ne_of_none hc ha)) (ne_of_none (s1 _ _ hc) hb)
  rintro σ H3 ⟨ys, rfl, pm, eb, p3, k3⟩
  walk_at "go"
  exact k b ys H3 (L2.Same.free s1 hb) pm eb p3 k3
end
end
section
open PySem PySem.Spec L2
def spFloor : Sp := fun vs H Q _ => ∃ (g : Pen) (n num : Nat), vs = [.ref g.p, .int num] ∧ 1 ≤ num ∧ num ≤ 8 ∧ PenAt g H n ∧ n < 900000 ∧
  ∀ (d : Addr) (ls : List Nat) (rel : Nat → Nat → Bool) (H' : Hp), H d = none → Flr num ls rel → H' d = some (.dK (tabKV ls (crossBy ls rel))) → PenAt g H' (n + 300) → Keep g.p H H' → Q (.ref d) H'
structure TxtH (K : PySem.W.Frag) (mg : Str → Option Value) : Prop extends Txt K mg where
  range : mg "range" = none
section
variable {P : Program} {w : World} {K : PySem.W.Frag} {mg : Str → Option Value} {base : Heap}
abbrev stfloor : Stmt := (top 49)
abbrev Nfloor : List Str := ["_law_pen_here", "_law_number", "_law_letters", "_law_sort", "_law_table", "_law_item", "_law_at", "_law_far", "_law_is_side", "_law_is_drawn", "_law_is_often", "_law_peer"]
theorem scfloor : FnScope Nfloor ["_law_pen_here", "_law_number"] (defScope stfloor) := ⟨rfl, rfl, rfl, by decide +kernel, rfl, by decide +kernel, by decide +kernel⟩

theorem ok_floor (F : FnAt K mg "_law_floor" stfloor) (T : TxtH K mg) (D_draw : Def P w K mg base CX0 1 "_law_draw" ["_law_pen_here", "_law_number"] spDraw) (D_pick : Def P w K mg base CX0 2 "_law_pick" ["_law_pen_here", "_law_items"] spPick) : Def P w K mg base CX0 3 "_law_floor" ["_law_pen_here", "_law_number"] spFloor := by
  refine F.ok scfloor (fun _ _ _ _ _ _ us hl => match us, hl with | [_, _], _ => rfl) (fun vs H Q E h => ?_) (fun f cdv A outer s H vs Q E hr h => ?_)
  · obtain ⟨g, n, num, rfl, _⟩ := h
    rfl
  obtain ⟨g, n, num, rfl, n1, n8, hp, hn, k⟩ := h
  have hu := hu_of hr
  have nd := scfloor.nd
  replace D_draw := D_draw.mono (show 1 ≤ 2 by decide)
  refine ⟨_, (pss_cons (ps_set (i := 2) nd rfl (Or.inl rfl) (pe_slice sl_S (pe_cd D_pick hr pass0 (pa_cons (pv 0) (pa_cons (pe_lst (pa_cons (pe_tx [97, 98, 99, 100, 101, 102, 103, 104] (by decide +kernel)) (pa_cons (pe_tx [98, 100, 102, 104, 106, 108, 110, 112] (by decide +kernel)) (pa_cons (pe_tx [115, 116, 117, 118, 119, 120, 121, 122] (by decide +kernel)) pa_nil)))) pa_nil))) po_none (po_some (pe_op op_add pe_int (pe_cd D_draw hr pass0 (pa_cons (pv 0) (pa_cons (pv 1) pa_nil)))))))
      (pss_cons (ps_par (i := 3) (j := 4) (by rfl) nd rfl rfl (by decide) rfl rfl (pa_cons (pe_cd D_draw hr pass0 (pa_cons (pv 0) (pa_cons pe_int pa_nil))) (pa_cons pe_dnewK pa_nil)) (by rfl))
      (pss_cons (ps_for PassesOwn.never rfl (pi_str (pv 2)) (pg_name (i := 5) nd rfl (Or.inl rfl))
      (pss_one (ps_dput hu (pv 4) (pv 5) (pe_tx [] (by decide +kernel)) rfl)))
      (pss_cons (ps_for PassesOwn.never rfl (pi_range1 (by rfl) T.range (pa_cons (pe_callB c_lenS (by rfl) T.len PySem.boot_len (pa_cons (pv 2) pa_nil)) pa_nil)) (pg_name (i := 6) nd rfl (Or.inl rfl))
      (pss_one (ps_for PassesOwn.never rfl (pi_range2 (by rfl) T.range (pa_cons (pe_op op_add (pv 6) pe_int) (pa_cons (pe_callB c_lenS (by rfl) T.len PySem.boot_len (pa_cons (pv 2) pa_nil)) pa_nil))) (pg_name (i := 7) nd rfl (Or.inl rfl))
        (pss_cons (ps_set (i := 8) nd rfl (Or.inl rfl) (pe_cut (pe_or (pe_cmpR op_eq (pe_op op_sub (pv 7) (pv 6)) pe_int (nomark _)) (pe_one (pe_cmpR op_eq (pe_op op_sub (pv 7) (pv 6)) (pe_op op_sub (pe_callB c_lenS (by rfl) T.len PySem.boot_len (pa_cons (pv 2) pa_nil)) pe_int) (nomark _))))))
          (pss_cons (ps_set (i := 9) nd rfl (Or.inl rfl) (pe_cmpR op_eq (pe_cd D_draw hr pass0 (pa_cons (pv 0) (pa_cons pe_int pa_nil))) pe_int (nomark _)))
          (pss_cons (ps_set (i := 10) nd rfl (Or.inl rfl) (pe_cut (pe_or (pv 9) (pe_one (pe_cmpR op_eq (pe_cd D_draw hr pass0 (pa_cons (pv 0) (pa_cons pe_int pa_nil))) pe_int (nomark _))))))
          (pss_one (ps_if (pt_val (pe_ix (ix_LK (K := K) rfl) (pe_lst (pa_cons pe_bl (pa_cons pe_bl (pa_cons (pv 8) (pa_cons (pv 10) (pa_cons (pv 9) (pa_cons (pv 9) pa_nil))))))) (pv 3) (fun _ _ => rfl)))
          (pss_cons (ps_par (i := 5) (j := 11) (by rfl) nd rfl rfl (by decide) rfl rfl (pa_cons (pe_ix ix_str (pv 2) (pv 6) (fun _ _ => rfl)) (pa_cons (pe_ix ix_str (pv 2) (pv 7) (fun _ _ => rfl)) pa_nil)) (by rfl))
            (pss_cons (ps_dput hu (pv 4) (pv 5) (pe_op op_addS (pe_dget hu (pv 4) (pv 5) (fun _ _ => rfl)) (pv 11)) rfl)
            (pss_one (ps_dput hu (pv 4) (pv 11) (pe_op op_addS (pe_dget hu (pv 4) (pv 11) (fun _ _ => rfl)) (pv 5)) rfl))))
          pss_nil))))))))
      (pss_one (ps_ret (pv 4))))))), ?_⟩
  refine s_start [some _, some _, none, none, none, none, none, none, none, none, none, none] rfl ?_
  walk_at "go"
  intro q H1 hq s1 e1
  walk_at "go"
  refine ⟨g, n, q, _, rfl, e1, by decide, by decide, hp.same s1, by omega, (hp.p_ne hq).symm, fun v H2 hv p2 k2 => ?_⟩
  obtain ⟨t, ht, rfl⟩ : ∃ t ∈ ABC, v = V.str (tx t) := by
    simp only [List.mem_cons, List.not_mem_nil, or_false] at hv
    rcases hv with rfl | rfl | rfl
    · exact ⟨_, by decide, rfl⟩
    · exact ⟨_, by decide, rfl⟩
    · exact ⟨_, by decide, rfl⟩
  have tl := (abc_ok t ht).2.2.1
  walk_at "go"
  refine ⟨g, num, n + 1, rfl, by omega, by omega, p2, by omega, fun z H3 z0 z1 p3 k3 => ?_⟩
  walk_at "go"
  refine v_slTo (by omega) (by omega) ?_
  have hcut : ∃ t' ∈ ABC, ∃ m, 1 ≤ m ∧ m ≤ num ∧ t.take (1 + z).toNat = t'.take m := ⟨t, ht, (1 + z).toNat, by omega, by omega, rfl⟩
  generalize t.take (1 + z).toNat = ls at hcut ⊢
  have lnd := cut_nd hcut
  have lle := cut_len hcut
  have llt := cut_lt hcut
  walk_at "go"
  refine ⟨g, 6, n + 2, rfl, by omega, by omega, p3, by omega, fun so H4 so0 so1 p4 k4 => ?_⟩
  walk_at "go"
  intro d H5 hd s5 e5
  have kA : Keep g.p H H5 := fun b o hb nb => s5 _ _ (k4 _ _ (k3 _ _ (k2 _ _ (s1 _ _ hb) nb) nb) nb)
  have hd0 : H d = none := by
    cases z : H d with
    | none => rfl
    | some o =>
      by_cases e : d = g.p
      · exact absurd e (p4.p_ne hd).symm
      · have := k4 _ _ (k3 _ _ (k2 _ _ (s1 _ _ z) e) e) e
        rw [hd] at this
        cases this
  have ndp := (p4.p_ne hd)
  have ndc := (p4.cl_ne hd)
  have p5 := p4.same s5
  walk_at "go"
  refine for_it (walk_tx ls) (fun i σ H' => ∃ x, σ = [some (.ref g.p), some (.int num), some (.str (tx ls)), some (.int so), some (.ref d), x, none, none, none, none, none, none] ∧ PenAt g H' (n + 3) ∧ Keep g.p H H' ∧ H' d = some (.dK (tabKV (ls.take i) (crossBy ls fun _ _ => false)))) ⟨_, rfl, p5, kA, e5⟩ (fun _ _ _ _ _ => trivial) ?_ ?_
  · rintro i v σ H6 H7 hi ⟨x, rfl, p6, k6, e6⟩ ⟨rfl, rfl⟩
    walk_at "go"
    refine v_put (tab_new e6 (take_notin lnd hi) (by unfold crossBy; simp) (by rw [List.length_take]; omega)) fun H8 k8 e8 => ?_
    refine ⟨_, rfl, p6.keep k8 ndp ndc, fun b o hb nb => k8 _ _ (k6 _ _ hb nb) (ne_of_none hb hd0), ?_⟩
    rw [take_getD hi]
    exact e8
  rintro σ H6 ⟨x, rfl, p6, k6, e6⟩
  rw [List.take_of_length_le (Nat.le_refl _)] at e6
  have relA : RelOk ls fun _ _ => false := ⟨fun _ _ => rfl, fun _ _ h => by cases h⟩
  walk_at "go"
  refine for_it (walk_rI (fun i => ((i : Nat) : Int)) (fun k => Int.zero_add _)) (fun i σ H' => ∃ x1 x2 x3 x4 x5 x6 x7 rel, σ = [some (.ref g.p), some (.int num), some (.str (tx ls)), some (.int so), some (.ref d), x1, x2, x3, x4, x5, x6, x7] ∧ PenAt g H' (n + 3 + 20 * i) ∧ Keep g.p H H' ∧ RelOk ls rel ∧ Upto ls rel i 0 ∧ H' d = some (.dK (tabKV ls (crossBy ls rel)))) ⟨_, _, _, _, _, _, _, _, rfl, p6, k6, relA, fun _ _ _ _ h => (by cases h), e6⟩ (fun _ _ _ _ _ => trivial) ?_ ?_
  · rintro i v σ H7 H8 hi ⟨x1, x2, x3, x4, x5, x6, x7, rel, rfl, p7, k7, r7, u7, e7⟩ ⟨rfl, rfl⟩
    have hi' : i < ls.length := by omega
    walk_at "go"
    refine for_it (walk_rI (fun j => ((i + 1 + j : Nat) : Int)) (fun k => by omega)) (fun j σ H' => ∃ x1 x3 x4 x5 x6 x7 rel, σ = [some (.ref g.p), some (.int num), some (.str (tx ls)), some (.int so), some (.ref d), x1, some (.int (i : Nat)), x3, x4, x5, x6, x7] ∧ PenAt g H' (n + 3 + 20 * i + 2 * j) ∧ Keep g.p H H' ∧ RelOk ls rel ∧ Upto ls rel i (i + 1 + j) ∧ H' d = some (.dK (tabKV ls (crossBy ls rel)))) ⟨_, _, _, _, _, _, _, rfl, p7, k7, r7, ?_, e7⟩ (fun _ _ _ _ _ => trivial) ?_ ?_
    · intro a b h1 h2 h3
      have := u7 a b h1 h2 h3
      omega
    · rintro j v σ H9 H10 hj ⟨y1, y3, y4, y5, y6, y7, rel, rfl, p9, k9, r9, u9, e9⟩ ⟨rfl, rfl⟩
      have hj' : i + 1 + j < ls.length := by omega
      walk_at "go"
      refine e_cut (fun v H' => (∃ b, v = .bl b) ∧ H' = H10) ?_ ?_
      · walk_at "go"
        refine if_bool (fun _ => ⟨⟨_, rfl⟩, rfl⟩) (fun _ => ?_)
        walk_at "go"
        exact ⟨⟨_, rfl⟩, rfl⟩
      rintro v H11 ⟨⟨b1, rfl⟩, rfl⟩
      walk_at "go"
      refine ⟨g, 2, _, rfl, by omega, by omega, p9, by omega, fun z1 H12 _ _ p12 k12 => ?_⟩
      walk_at "go"
      refine e_cut (fun v H' => (∃ b, v = .bl b) ∧ PenAt g H' (n + 3 + 20 * i + 2 * j + 2) ∧ Keep g.p H12 H') ?_ ?_
      · walk_at "go"
        refine if_bool (fun _ => ⟨⟨_, rfl⟩, p12.mono (by omega), Keep.refl _ _⟩) (fun _ => ?_)
        walk_at "go"
        refine ⟨g, 2, _, rfl, by omega, by omega, p12, by omega, fun z2 H13 _ _ p13 k13 => ?_⟩
        walk_at "go"
        exact ⟨⟨_, rfl⟩, p13, k13⟩
      rintro v H13 ⟨⟨b2, rfl⟩, p13, k13⟩
      have e13 := k13 _ _ (k12 _ _ e9 ndp.symm) ndp.symm
      have k13' : Keep g.p H H13 := fun b o hb nb => k13 _ _ (k12 _ _ (k9 _ _ hb nb) nb) nb
      walk_at "go"
      intro q2 H14 hq2 s14 e14
      walk_at "go"
      obtain ⟨bb, hbb⟩ : ∃ bb, [V.bl false, V.bl true, V.bl b1, V.bl b2, V.bl (decide (V.int z1 = V.int 0)), V.bl (decide (V.int z1 = V.int 0))][so.toNat]? = some (V.bl bb) := by
        have : so.toNat = 0 ∨ so.toNat = 1 ∨ so.toNat = 2 ∨ so.toNat = 3 ∨ so.toNat = 4 ∨ so.toNat = 5 := by omega
        rcases this with e | e | e | e | e | e <;> rw [e] <;> exact ⟨_, rfl⟩
      refine v_ixL e14 (at_of (j := so.toNat) (by omega) hbb) ?_
      walk_at "go"
      have e15 := s14 _ _ e13
      have p15 := p13.same s14
      have k15 : Keep g.p H H14 := fun b o hb nb => s14 _ _ (k13' _ _ hb nb)
      have hx : ls.getD i 0 ∈ ls := getD_mem hi'
      have hy : ls.getD (i + 1 + j) 0 ∈ ls := getD_mem hj'
      have hxy : ls.getD (i + 1 + j) 0 ≠ ls.getD i 0 := fun z => by have := getD_inj lnd hj' hi' z; omega
      cases bb with
      | false =>
        walk_at "go"
        exact ⟨_, _, _, _, _, _, rel, rfl, p15.mono (by omega), k15, r9, u9.more, e15⟩
      | true =>
        walk_at "go"
        refine v_ixS (by omega) (at_getD hi') ?_
        walk_at "go"
        refine v_ixS (by omega) (at_getD hj') ?_
        walk_at "go"
        refine v_dget (tab_get e15 hx) ?_
        have l1 : (crossBy ls rel (ls.getD i 0)).length ≤ ls.length := List.length_filter_le _ _
        have l2 : (crossBy ls rel (ls.getD (i + 1 + j) 0)).length ≤ ls.length := List.length_filter_le _ _
        have l3 : (crossBy ls rel (ls.getD i 0)).length + [ls.getD (i + 1 + j) 0].length ≤ 1000000 := by rw [List.length_singleton]; omega
        have l4 : (crossBy ls rel (ls.getD (i + 1 + j) 0)).length + [ls.getD i 0].length ≤ 1000000 := by rw [List.length_singleton]; omega
        walk_at "go"
        refine v_put (tab_put e15 hx (by omega)) fun H16 k16 e16 => ?_
        walk_at "go"
        refine v_dget (tab_get e16 hy) ?_
        rw [if_neg hxy]
        walk_at "go"
        refine v_put (tab_put e16 hy (by omega)) fun H17 k17 e17 => ?_
        refine ⟨_, _, _, _, _, _, addRel rel (ls.getD i 0) (ls.getD (i + 1 + j) 0), rfl, ((p15.keep k16 ndp ndc).keep k17 ndp ndc).mono (by omega), fun b o hb nb => k17 _ _ (k16 _ _ (k15 _ _ hb nb) (ne_of_none hb hd0)) (ne_of_none hb hd0), r9.add hx hy hxy.symm, u9.add lnd (by omega) hj', ?_⟩
        rw [e17]
        congr 2
        refine tabKV_congr fun c hc => ?_
        rw [← tabStep lnd r9 (show i < i + 1 + j by omega) hj' u9 c hc, if_neg hxy]
    · rintro σ H9 ⟨y1, y3, y4, y5, y6, y7, rel, rfl, p9, k9, r9, u9, e9⟩
      refine ⟨_, _, _, _, _, _, _, rel, rfl, p9.mono (by omega), k9, r9, u9.turn (by omega), e9⟩
  rintro σ H7 ⟨x1, x2, x3, x4, x5, x6, x7, rel, rfl, p7, k7, r7, u7, e7⟩
  walk_at "go"
  refine k d ls rel H7 hd0 ⟨hcut, r7⟩ e7 (p7.mono (by omega)) k7
end
end
section
open PySem PySem.Spec L2
structure TxtV (K : PySem.W.Frag) (mg : Str → Option Value) : Prop extends TxtH K mg where
  tuple : mg "tuple" = none
  min : mg "min" = none
  dict : mg "dict" = none
def spUnits : Sp := fun vs H Q _ => ∃ (d : Addr) (ls : List Nat) (f : Nat → List Nat), vs = [.ref d] ∧ H d = some (.dK (tabKV ls f)) ∧ Tab ls f ∧ ∀ m H', H m = none → MarksAt H' m ls (fun c x => unit x c) → Same H H' → Q (.ref m) H'
def spThrough : Sp := fun vs H Q _ => ∃ (d m : Addr) (ls : List Nat) (f : Nat → List Nat) (M : Nat → Nat → Int) (k : Nat), vs = [.ref d, .ref m, .str (tx [k])] ∧ H d = some (.dK (tabKV ls f)) ∧ Tab ls f ∧ k ∈ ls ∧ MarksAt H m ls M ∧
  ∀ m' H', H m' = none → MarksAt H' m' ls (fun c x => thr f k (fun e => M e x) c) → Same H H' → Q (.ref m') H'
section
variable {P : Program} {w : World} {K : PySem.W.Frag} {mg : Str → Option Value} {base : Heap}
abbrev stunits : Stmt := (top 53)
abbrev Nunits : List Str := ["_law_table", "_law_letters", "_law_found", "_law_item", "_law_each"]
theorem scunits : FnScope Nunits ["_law_table"] (defScope stunits) := ⟨rfl, rfl, rfl, by decide +kernel, rfl, by decide +kernel, by decide +kernel⟩

theorem ok_units (F : FnAt K mg "_law_units" stunits) (T : TxtV K mg) : Def P w K mg base CX0 1 "_law_units" ["_law_table"] spUnits := by
  refine F.ok scunits (fun _ _ _ _ _ _ us hl => match us, hl with | [_], _ => rfl) (fun vs H Q E h => ?_) (fun f cdv A outer s H vs Q E hr h => ?_)
  · obtain ⟨d, ls, f, rfl, _⟩ := h
    rfl
  obtain ⟨d, ls, fn, rfl, hd, tab, k⟩ := h
  have hu := hu_of hr
  have nd := scunits.nd
  have tl := tab.len
  refine ⟨_, (pss_cons (ps_par (i := 1) (j := 2) (by rfl) nd rfl rfl (by decide) rfl rfl (pa_cons (pe_callTy (call_list_dK rfl) (by rfl) T.list (by decide +kernel) (pa_cons (pv 0) pa_nil)) (pa_cons pe_dnewK pa_nil)) (by rfl))
      (pss_cons (ps_for PassesOwn.never rfl (pi_listK (K := K) rfl (pv 1)) (pg_name (i := 3) nd rfl (Or.inr rfl))
      (pss_one (ps_dput hu (pv 2) (pv 3) (pe_callTy (c_tupleK (K := K) rfl) (by rfl) T.tuple (by decide +kernel) (pa_cons (pe_lc (own := [("_law_each", 4)]) (g := gName 4) (by rfl) nd (pi_listK (K := K) rfl (pv 1)) (blkOk_by (own := [("_law_each", 4)]) (N := Nunits) (sc := defScope stunits) (by decide +kernel)) (fun _ _ _ _ _ => (pg_name (i := 4) nd rfl (Or.inl rfl))) (fun _ _ _ _ _ => pts_nil) (fun _ _ _ _ _ => (pe_callTy c_int (by rfl) T.int (by decide +kernel) (pa_cons (pe_cmpR op_eq (pv 3) (pv 4) (nomark _)) pa_nil)))) pa_nil)) rfl)))
      (pss_one (ps_ret (pv 2))))), ?_⟩
  refine s_start [some _, none, none, none, none] rfl ?_
  walk_at "go"
  refine v_listD hd fun l H1 hl s1 e1 => ?_
  rw [tab_keys] at e1
  walk_at "go"
  intro m H2 hm s2 e2
  have e1' := s2 _ _ e1
  walk_at "go"
  refine for_it (walk_listM (ls := ls) (f := fun c => V.str (tx [c]))) (fun i σ H' => ∃ x A, σ = [some (.ref d), some (.ref l), some (.ref m), x, none] ∧ (∀ b o, H1 b = some o → H' b = some o) ∧ H' m = some (.dK (marksKV (ls.take i) A)) ∧ ∀ c ∈ ls.take i, H' (A c) = some (.tup (vecV ls fun x => unit x c))) ⟨_, fun _ => 0, rfl, s2, e2, by simp⟩ ?_ ?_ ?_
  · rintro i σ H' _ ⟨x, A, rfl, k1, _⟩
    exact SqL.of (k1 _ _ e1)
  · rintro i v σ H3 H4 hi ⟨x, A, rfl, k3, m3, t3⟩ ⟨rfl, hv⟩
    have hx : ls.getD i 0 ∈ ls := getD_mem hi
    obtain ⟨c, hc⟩ : ∃ c, ls.getD i 0 = c := ⟨_, rfl⟩
    obtain rfl : v = V.str (tx [c]) := by rw [← hc]; exact hv
    rw [hc] at hx
    have e3 := k3 _ _ e1
    walk_at "go"
    refine vals_all (ls := ls) (it := fun c => V.str (tx [c])) (f := fun x => V.int (unit x c)) (walk_listM (ls := ls) (f := fun c => V.str (tx [c]))) (fun H' s' => SqL.of (s' _ _ e3)) (by omega) (fun y hy H5 s5 R r => ?_) (fun y hy H5 s5 R r => ?_) (fun D H5 hD s5 e5 => ?_)
    · exact r H5 (Same.refl _)
    · walk_at "go"
      have e : (if decide (V.str (tx [c]) = V.str (tx [y])) = true then (1 : Int) else 0) = unit y c := by
        rw [dec_tx]
        unfold unit
        by_cases e : c = y
        · rw [if_pos e, e]
          simp
        · rw [if_neg e]
          simp [e]
      rw [e]
      exact r H5 (Same.refl _)
    walk_at "go"
    refine v_tuple e5 fun t H6 ht s6 e6 => ?_
    have m6 := s6 _ _ (s5 _ _ m3)
    walk_at "go"
    have hn : ¬ c ∈ ls.take i := hc ▸ take_notin tab.nd hi
    refine v_put (marks_new m6 hn (by rw [List.length_take]; omega)) fun H7 k7 e7 => ?_
    refine ⟨_, _, rfl, fun b o hb => k7 _ _ (s6 _ _ (s5 _ _ (k3 _ _ hb))) (ne_of_none hb hm), by rw [take_getD hi, hc]; exact e7, ?_⟩
    intro y hy
    rw [take_getD hi, hc, List.mem_append, List.mem_singleton] at hy
    have ntm : t ≠ m := (ne_of_none (s5 _ _ m3) ht).symm
    by_cases e : y = c
    · rw [if_pos e, e]
      exact k7 _ _ e6 ntm
    · rw [if_neg e]
      have hy := hy.resolve_right e
      have := t3 y hy
      exact k7 _ _ (s6 _ _ (s5 _ _ this)) (ne_of this m3 (by intro z; cases z))
  rintro σ H3 ⟨x, A, rfl, k3, m3, t3⟩
  rw [List.take_of_length_le (Nat.le_refl _)] at m3 t3
  have hm1 : H m = none := by
    cases z : H m with
    | none => rfl
    | some o => have := s1 _ _ z; rw [hm] at this; cases this
  walk_at "go"
  exact k m H3 hm1 ⟨A, m3, t3⟩ fun b o hb => k3 _ _ (s1 _ _ hb)
end
end
section
open PySem PySem.Spec L2
section
variable {P : Program} {w : World} {K : PySem.W.Frag} {mg : Str → Option Value} {base : Heap}
abbrev stthrough : Stmt := (top 54)
abbrev Nthrough : List Str := ["_law_table", "_law_marks_here", "_law_door", "_law_own", "_law_found", "_law_each", "_law_number", "_law_at"]
theorem scthrough : FnScope Nthrough ["_law_table", "_law_marks_here", "_law_door"] (defScope stthrough) := ⟨rfl, rfl, rfl, by decide +kernel, rfl, by decide +kernel, by decide +kernel⟩

theorem ok_through (F : FnAt K mg "_law_through" stthrough) (T : TxtV K mg) : Def P w K mg base CX0 1 "_law_through" ["_law_table", "_law_marks_here", "_law_door"] spThrough := by
  refine F.ok scthrough (fun _ _ _ _ _ _ us hl => match us, hl with | [_, _, _], _ => rfl) (fun vs H Q E h => ?_) (fun f cdv A outer s H vs Q E hr h => ?_)
  · obtain ⟨d, m, ls, f, M, k, rfl, _⟩ := h
    rfl
  obtain ⟨d, m, ls, fn, M, kk, rfl, hd, tab, hk, hM, k⟩ := h
  have hu := hu_of hr
  have nd := scthrough.nd
  have tl := tab.len
  obtain ⟨A0, hm, hA⟩ := hM.ex
  refine ⟨_, (pss_cons (ps_asg (pe_tup (pa_cons (pe_dget hu (pv 1) (pv 2) (fun _ _ => rfl)) (pa_cons pe_dnewK pa_nil))) (pg_tup rfl (pgs_cons (pg_name (i := 3) nd rfl (Or.inr rfl)) (pgs_cons (pg_name (i := 4) nd rfl (Or.inl rfl)) pgs_nil))))
      (pss_cons (ps_lock (ps_for PassesOwn.never rfl (pi_keys (pv 1)) (pg_name (i := 5) nd rfl (Or.inr rfl))
      (pss_one (ps_if (pt_cmpR op_eq (pv 5) (pv 2) (nomark _))
        (pss_one (ps_dput hu (pv 4) (pv 5) (pe_callTy (c_tupleK (K := K) rfl) (by rfl) T.tuple (by decide +kernel) (pa_cons (pe_lc (own := [("_law_number", 6)]) (g := gName 6) (by rfl) nd (pi_tupK (K := K) rfl (pv 3)) (blkOk_by (own := [("_law_number", 6)]) (N := Nthrough) (sc := defScope stthrough) (by decide +kernel)) (fun _ _ _ _ _ => (pg_name (i := 6) nd rfl (Or.inl rfl))) (fun _ _ _ _ _ => pts_nil) (fun _ _ _ _ _ => (pe_un un_neg (pv 6)))) pa_nil)) rfl))
        (pss_one (ps_if (pt_cmpR op_inS (pv 5) (pe_dget hu (pv 0) (pv 2) (fun _ _ => rfl)) (by rfl))
          (pss_one (ps_dput hu (pv 4) (pv 5) (pe_dget hu (pv 1) (pv 5) (fun _ _ => rfl)) rfl))
          (pss_one (ps_dput hu (pv 4) (pv 5) (pe_callTy (c_tupleK (K := K) rfl) (by rfl) T.tuple (by decide +kernel) (pa_cons (pe_lc (own := [("_law_at", 7)]) (g := gName 7) (by rfl) nd (pi_range1 (by rfl) T.range (pa_cons (pe_callB (c_lenK (K := K) rfl) (by rfl) T.len PySem.boot_len (pa_cons (pv 3) pa_nil)) pa_nil)) (blkOk_by (own := [("_law_at", 7)]) (N := Nthrough) (sc := defScope stthrough) (by decide +kernel)) (fun _ _ _ _ _ => (pg_name (i := 7) nd rfl (Or.inl rfl))) (fun _ _ _ _ _ => pts_nil) (fun _ _ _ _ _ => (pe_op op_add (pe_ix (ix_TK (K := K) rfl) (pe_dget hu (pv 1) (pv 5) (fun _ _ => rfl)) (pv 7) (fun _ _ => rfl)) (pe_op op_mul pe_int (pe_ix (ix_TK (K := K) rfl) (pv 3) (pv 7) (fun _ _ => rfl)))))) pa_nil)) rfl))))))))
      (pss_one (ps_ret (pv 4))))), ?_⟩
  refine s_start [some _, some _, some _, none, none, none, none, none] rfl ?_
  walk_at "go"
  refine v_dget (marks_get hm hk) ?_
  walk_at "go"
  intro q H1 hq s1 e1
  walk_at "go"
  intro t H2 ht s2 e2
  refine v_gTup2 rfl e2 ?_
  have s12 := s1.trans s2
  have hm2 := s12 _ _ hm
  walk_at "go"
  refine e_lock hm2 trivial fun od => ?_
  have nqm : q ≠ m := (ne_of_none hm hq).symm
  have ndm : d ≠ m := by
    intro z
    rw [z, hm] at hd
    injection hd with hd
    injection hd with hd
    cases ls with
    | nil => cases hk
    | cons c r =>
      unfold marksKV tabKV at hd
      rw [List.map_cons, List.map_cons] at hd
      injection hd with hd _
      injection hd with _ hd
      cases hd
  have nqd : q ≠ d := (ne_of_none hd hq).symm
  have nAm : ∀ c ∈ ls, A0 c ≠ m := fun c hc => ne_of (hA c hc) hm (by intro z; cases z)
  have nAq : ∀ c ∈ ls, A0 c ≠ q := fun c hc => ne_of_none (hA c hc) hq
  walk_at "go"
  refine ⟨m, od, rfl, .inl ⟨_, upd_same, ?_⟩⟩
  refine for_it walk_let (fun i σ H' => ∃ x B, σ = [some (.ref d), some (.ref m), some (.str (tx [kk])), some (.ref (A0 kk)), some (.ref q), x, none, none] ∧ (∀ b o, H b = some o → b ≠ m → H' b = some o) ∧ H' m = some (.frz od (.dK (marksKV ls A0))) ∧ H' q = some (.dK (marksKV (ls.take i) B)) ∧ ∀ c ∈ ls.take i, H' (B c) = some (.tup (vecV ls fun x => thr fn kk (fun e => M e x) c)))
    ⟨_, fun _ => 0, rfl, fun b o hb nb => by rw [upd_ne nb]; exact s12 _ _ hb, upd_same, by rw [upd_ne nqm]; exact s2 _ _ e1, by simp⟩ ?_ ?_ ?_
  · rintro i σ H' _ ⟨x, B, rfl, _, h, _⟩
    exact h
  · rintro i v σ H3 H4 hi ⟨x, B, rfl, k3, m3, q3, t3⟩ ⟨rfl, hv⟩
    have hx : ls.getD i 0 ∈ ls := getD_mem hi
    obtain ⟨c, hc⟩ : ∃ c, ls.getD i 0 = c := ⟨_, rfl⟩
    obtain rfl : v = V.str (tx [c]) := by rw [← hc]; exact hv
    rw [hc] at hx
    have hn : ¬ c ∈ ls.take i := hc ▸ take_notin tab.nd hi
    have hown := k3 _ _ (hA kk hk) (nAm kk hk)
    have hcA := k3 _ _ (hA c hx) (nAm c hx)
    have fin : ∀ (H5 H6 : Hp) (p : Addr), Same H4 H5 → H5 p = some (.tup (vecV ls fun x => thr fn kk (fun e => M e x) c)) → Keep q H5 H6 → H6 q = some (.dK (marksKV (ls.take i ++ [c]) fun y => if y = c then p else B y)) →
        ∃ x B, [some (V.ref d), some (V.ref m), some (V.str (tx [kk])), some (V.ref (A0 kk)), some (V.ref q), some (V.str (tx [c])), none, none] = [some (.ref d), some (.ref m), some (.str (tx [kk])), some (.ref (A0 kk)), some (.ref q), x, none, none] ∧ (∀ b o, H b = some o → b ≠ m → H6 b = some o) ∧ H6 m = some (.frz od (.dK (marksKV ls A0))) ∧ H6 q = some (.dK (marksKV (ls.take (i + 1)) B)) ∧ ∀ c ∈ ls.take (i + 1), H6 (B c) = some (.tup (vecV ls fun x => thr fn kk (fun e => M e x) c)) := by
      intro H5 H6 p s5 e5 k6 e6
      have q5 := s5 _ _ q3
      refine ⟨_, _, rfl, fun b o hb nb => k6 _ _ (s5 _ _ (k3 _ _ hb nb)) (ne_of_none hb hq), k6 _ _ (s5 _ _ m3) nqm.symm, by rw [take_getD hi, hc]; exact e6, ?_⟩
      intro y hy
      rw [take_getD hi, hc, List.mem_append, List.mem_singleton] at hy
      by_cases e : y = c
      · rw [if_pos e, e]
        exact k6 _ _ e5 (ne_of e5 q5 (by intro z; cases z))
      · rw [if_neg e]
        have := t3 y (hy.resolve_right e)
        exact k6 _ _ (s5 _ _ this) (ne_of this q3 (by intro z; cases z))
    walk_at "go"
    rw [dec_tx]
    refine if_dec (fun c1 => ?_) (fun c1 => ?_)
    · have c1 : c = kk := by
        injection c1
      walk_at "go"
      refine v_iT hown ?_
      refine vals_all (ls := ls) (it := fun x => V.int (M kk x)) (f := fun x => V.int (- M kk x)) (walk_tupM (ls := ls) (f := fun x => V.int (M kk x))) (fun H' s' => SqT.of (s' _ _ hown)) (by omega) (fun y hy H5 s5 R r => ?_) (fun y hy H5 s5 R r => ?_) (fun D H5 hD s5 e5 => ?_)
      · exact r H5 (Same.refl _)
      · walk_at "go"
        exact ⟨_, rfl, r H5 (Same.refl _)⟩
      walk_at "go"
      refine v_tuple e5 fun p H6 hp s6 e6 => ?_
      have q6 := s6 _ _ (s5 _ _ q3)
      walk_at "go"
      refine v_put (marks_new q6 hn (by rw [List.length_take]; omega)) fun H7 k7 e7 => ?_
      refine fin H6 H7 p (s5.trans s6) ?_ k7 e7
      rw [e6]
      congr 2
      refine List.map_congr_left fun x _ => ?_
      show _ = V.int (thr fn kk (fun e => M e x) c)
      rw [c1, thr_self]
    · have c1 : c ≠ kk := fun z => c1 (by rw [z])
      walk_at "go"
      refine v_dget (tab_get (k3 _ _ hd ndm) hk) ?_
      walk_at "go"
      refine if_dec (fun c2 => ?_) (fun c2 => ?_)
      · walk_at "go"
        refine v_dget (marks_getF m3 hx) ?_
        walk_at "go"
        refine v_put (marks_new q3 hn (by rw [List.length_take]; omega)) fun H7 k7 e7 => ?_
        refine fin H4 H7 (A0 c) (Same.refl _) ?_ k7 e7
        rw [hcA]
        congr 2
        refine List.map_congr_left fun x _ => ?_
        show _ = V.int (thr fn kk (fun e => M e x) c)
        unfold thr
        rw [if_neg c1, if_pos c2]
      · walk_at "go"
        refine v_lenT hown ?_
        rw [vecV_len]
        walk_at "go"
        refine vals_rng (ls := ls) (f := fun x => V.int (M c x + 2 * M kk x)) (by omega) (fun j hj H5 s5 R r => ?_) (fun j hj H5 s5 R r => ?_) (fun D H5 hD s5 e5 => ?_)
        · exact r H5 (Same.refl _)
        · walk_at "go"
          refine v_dget (marks_getF (s5 _ _ m3) hx) ?_
          walk_at "go"
          refine v_ixT (s5 _ _ hcA) (at_vec hj) ?_
          walk_at "go"
          refine v_ixT (s5 _ _ hown) (at_vec hj) ?_
          walk_at "go"
          exact r H5 (Same.refl _)
        walk_at "go"
        refine v_tuple e5 fun p H6 hp s6 e6 => ?_
        have q6 := s6 _ _ (s5 _ _ q3)
        walk_at "go"
        refine v_put (marks_new q6 hn (by rw [List.length_take]; omega)) fun H7 k7 e7 => ?_
        refine fin H6 H7 p (s5.trans s6) ?_ k7 e7
        rw [e6]
        congr 2
        refine List.map_congr_left fun x _ => ?_
        show _ = V.int (thr fn kk (fun e => M e x) c)
        rw [thr_not c1 c2]
  rintro σ H3 ⟨x, B, rfl, k3, m3, q3, t3⟩
  rw [List.take_of_length_le (Nat.le_refl _)] at q3 t3
  refine ⟨m3, ?_⟩
  walk_at "go"
  refine k q _ hq ⟨B, by rw [upd_ne nqm]; exact q3, fun c hc => ?_⟩ fun b o hb => ?_
  · have := t3 c hc
    rw [upd_ne (ne_of this m3 (by intro z; cases z))]
    exact this
  · by_cases e : b = m
    · rw [e, upd_same, ← hb, e, hm]
    · rw [upd_ne e]
      exact k3 _ _ hb e
end
end
section
open PySem PySem.Spec L2
def spMarks : Sp := fun vs H Q _ => ∃ (d : Addr) (ls : List Nat) (f : Nat → List Nat) (w : List Nat), vs = [.ref d, .str (tx w)] ∧ H d = some (.dK (tabKV ls f)) ∧ Tab ls f ∧ (∀ c ∈ w, c ∈ ls) ∧ ∀ m H', MarksAt H' m ls (fun c x => act f w.reverse (unit x) c) → Same H H' → Q (.ref m) H'
def backs (ls : List Nat) (M : Nat → Nat → Int) : List Nat := ls.filter fun c => decide (∃ x ∈ ls, M c x < 0)
def spBacks : Sp := fun vs H Q _ => ∃ (m : Addr) (ls : List Nat) (M : Nat → Nat → Int), vs = [.ref m] ∧ MarksAt H m ls M ∧ ls.length ≤ 8 ∧ 
  ∀ l H', H' l = some (.lst ((backs ls M).map fun c => V.str (tx [c]))) → Same H H' → Q (.ref l) H'
def spName : Sp := fun vs H Q _ => ∃ (d : Addr) (ls : List Nat) (f : Nat → List Nat) (w : List Nat), vs = [.ref d, .str (tx w)] ∧ H d = some (.dK (tabKV ls f)) ∧ Tab ls f ∧ CrOk f ∧ ls.Pairwise (· < ·) ∧ (∀ c ∈ w, c ∈ ls) ∧ w.length ≤ 10000 ∧ ∀ H', Same H H' → Q (.str (tx (joinC f [] w))) H'
theorem joinC_mem {cr : Nat → List Nat} {c : Nat} : ∀ {way name : List Nat}, c ∈ joinC cr name way → c ∈ name ∨ c ∈ way
  | [], name, h => .inl h
  | k :: r, name, h => by
    rcases joinC_mem (way := r) (name := stepOf (cr k) name k) h with z | z
    · rcases stepOf_mem z with e | e
      · exact .inr (e ▸ List.mem_cons_self ..)
      · exact .inl e
    · exact .inr (List.mem_cons_of_mem _ z)
theorem joinC_len (cr : Nat → List Nat) : ∀ (way name : List Nat), (joinC cr name way).length ≤ name.length + way.length
  | [], name => Nat.le_refl _
  | k :: r, name => by
    show (joinC cr (stepOf (cr k) name k) r).length ≤ _
    have := joinC_len cr r (stepOf (cr k) name k)
    have := stepOf_len (cr k) name k
    rw [List.length_cons]
    omega
/-- the backs of a name's marks: empty for home, else its first letter first -/
theorem backs_nil {f : Nat → List Nat} {ls : List Nat} (ok : CrOk f) : backs ls (fun c x => act f [] (unit x) c) = [] := by
  unfold backs
  rw [List.filter_eq_nil_iff]
  intro c hc h
  have := (mark_neg (ls := ls) ok (w := []) trivial (fun _ z => nomatch z) hc).mp (of_decide_eq_true h)
  exact this
theorem backs_cons {f : Nat → List Nat} {ls : List Nat} (ok : CrOk f) (asc : ls.Pairwise (· < ·)) {c : Nat} {r : List Nat} (h : NF f (c :: r)) (hw : ∀ y ∈ c :: r, y ∈ ls) : ∃ t, backs ls (fun e x => act f (c :: r) (unit x) e) = c :: t := by
  have mem : ∀ s, s ∈ backs ls (fun e x => act f (c :: r) (unit x) e) → c ≤ s := fun s hs => by
    obtain ⟨h1, h2⟩ := List.mem_filter.mp hs
    exact h.least ((mark_neg ok h.red hw h1).mp (of_decide_eq_true h2))
  have hc : c ∈ backs ls (fun e x => act f (c :: r) (unit x) e) := List.mem_filter.mpr ⟨hw c (List.mem_cons_self ..), decide_eq_true ((mark_neg ok h.red hw (hw c (List.mem_cons_self ..))).mpr (.inl rfl))⟩
  have ap : (backs ls (fun e x => act f (c :: r) (unit x) e)).Pairwise (· < ·) := asc.filter _
  generalize backs ls (fun e x => act f (c :: r) (unit x) e) = b at *
  cases b with
  | nil => cases hc
  | cons y t =>
    refine ⟨t, ?_⟩
    have h1 := mem y (List.mem_cons_self ..)
    rcases List.mem_cons.mp hc with e | e
    · rw [e]
    · have := (List.pairwise_cons.mp ap).1 c e
      omega
section
variable {P : Program} {w : World} {K : PySem.W.Frag} {mg : Str → Option Value} {base : Heap}
abbrev stmarks : Stmt := (top 55)
abbrev Nmarks : List Str := ["_law_table", "_law_walk_here", "_law_found", "_law_item"]
theorem scmarks : FnScope Nmarks ["_law_table", "_law_walk_here"] (defScope stmarks) := ⟨rfl, rfl, rfl, by decide +kernel, rfl, by decide +kernel, by decide +kernel⟩

theorem ok_marks (F : FnAt K mg "_law_marks" stmarks) (D_units : Def P w K mg base CX0 1 "_law_units" ["_law_table"] spUnits) (D_through : Def P w K mg base CX0 1 "_law_through" ["_law_table", "_law_marks_here", "_law_door"] spThrough) : Def P w K mg base CX0 2 "_law_marks" ["_law_table", "_law_walk_here"] spMarks := by
  refine F.ok scmarks (fun _ _ _ _ _ _ us hl => match us, hl with | [_, _], _ => rfl) (fun vs H Q E h => ?_) (fun f cdv A outer s H vs Q E hr h => ?_)
  · obtain ⟨d, ls, f, w, rfl, _⟩ := h
    rfl
  obtain ⟨d, ls, fn, wk, rfl, hd, tab, hw, k⟩ := h
  have hu := hu_of hr
  have nd := scmarks.nd
  refine ⟨_, (pss_cons (ps_set (i := 2) nd rfl (Or.inl rfl) (pe_cd D_units hr pass0 (pa_cons (pv 0) pa_nil)))
      (pss_cons (ps_for PassesOwn.never rfl (pi_str (pv 1)) (pg_name (i := 3) nd rfl (Or.inl rfl))
      (pss_one (ps_set (i := 2) nd rfl (Or.inl rfl) (pe_cd D_through hr pass0 (pa_cons (pv 0) (pa_cons (pv 2) (pa_cons (pv 3) pa_nil)))))))
      (pss_one (ps_ret (pv 2))))), ?_⟩
  refine s_start [some _, some _, none, none] rfl ?_
  walk_at "go"
  refine ⟨d, ls, fn, rfl, hd, tab, fun m H1 _ m1 s1 => ?_⟩
  walk_at "go"
  refine for_it (walk_tx wk) (fun i σ H' => ∃ x m, σ = [some (.ref d), some (.str (tx wk)), some (.ref m), x] ∧ MarksAt H' m ls (fun c x => act fn (wk.take i).reverse (unit x) c) ∧ Same H H') ⟨_, m, rfl, m1, s1⟩ (fun _ _ _ _ _ => trivial) ?_ ?_
  · rintro i v σ H2 H3 hi ⟨x, m, rfl, m2, s2⟩ ⟨rfl, rfl⟩
    walk_at "go"
    refine ⟨d, m, ls, fn, _, wk.getD i 0, rfl, s2 _ _ hd, tab, hw _ (getD_mem hi), m2, fun m' H4 _ m4 s4 => ?_⟩
    refine ⟨_, m', rfl, ?_, s2.trans s4⟩
    rw [take_getD hi, List.reverse_append]
    exact m4
  rintro σ H2 ⟨x, m, rfl, m2, s2⟩
  rw [List.take_of_length_le (Nat.le_refl _)] at m2
  walk_at "go"
  exact k m H2 m2 s2
abbrev stbacks : Stmt := (top 56)
abbrev Nbacks : List Str := ["_law_marks_here", "_law_item", "_law_number"]
theorem scbacks : FnScope Nbacks ["_law_marks_here"] (defScope stbacks) := ⟨rfl, rfl, rfl, by decide +kernel, rfl, by decide +kernel, by decide +kernel⟩

theorem ok_backs (F : FnAt K mg "_law_backs" stbacks) (T : TxtV K mg) : Def P w K mg base CX0 1 "_law_backs" ["_law_marks_here"] spBacks := by
  refine F.ok scbacks (fun _ _ _ _ _ _ us hl => match us, hl with | [_], _ => rfl) (fun vs H Q E h => ?_) (fun f cdv A outer s H vs Q E hr h => ?_)
  · obtain ⟨m, ls, M, rfl, _⟩ := h
    rfl
  obtain ⟨m, ls, M, rfl, hM, hl, k⟩ := h
  have hu := hu_of hr
  have nd := scbacks.nd
  obtain ⟨A0, hm, hA⟩ := hM.ex
  refine ⟨_, (pss_one (ps_lock (ps_ret (pe_lc (own := [("_law_item", 1)]) (g := gName 1) (by rfl) nd (pi_keys (pv 0)) (blkOk_by (own := [("_law_item", 1)]) (N := Nbacks) (sc := defScope stbacks) (by decide +kernel)) (fun _ _ _ _ _ => (pg_name (i := 1) nd rfl (Or.inl rfl))) (fun _ _ _ _ _ => (pts_one (pt_cmpR op_lt (pe_callB (cr_minK (K := K) rfl rfl) (by rfl) T.min (by decide +kernel) (pa_cons (pe_lc (own := [("_law_number", 2)]) (g := gName 2) (by rfl) nd (pi_tupK (K := K) rfl (pe_dget hu (pv 0) (pv 1) (fun _ _ => rfl))) (blkOk_by (own := [("_law_number", 2)]) (N := Nbacks) (sc := lcSc [".0", "_law_item"] ["min"] ["_law_marks_here"]) (by decide +kernel)) (fun _ _ _ _ _ => (pg_name (i := 2) nd rfl (Or.inl rfl))) (fun _ _ _ _ _ => pts_nil) (fun _ _ _ _ _ => (pe_callTy c_int (by rfl) T.int (by decide +kernel) (pa_cons (pv 2) pa_nil)))) pa_nil)) pe_int (nomark _)))) (fun _ _ _ _ _ => (pv 1)))))), ?_⟩
  refine s_start [some _, none, none] rfl ?_
  refine e_lock hm trivial fun od => ?_
  have nAm : ∀ c ∈ ls, A0 c ≠ m := fun c hc => ne_of (hA c hc) hm (by intro z; cases z)
  walk_at "go"
  refine ⟨m, od, rfl, .inl ⟨_, upd_same, ?_⟩⟩
  refine vals_some (ls := ls) (it := fun c => V.str (tx [c])) (f := fun c => V.str (tx [c])) (b := fun c => decide (∃ x ∈ ls, M c x < 0)) (walk_let (g := fun c => V.ref (A0 c))) (fun H' s' => s' _ _ upd_same) (by omega) (fun c hc H1 s1 R r => ?_) (fun c hc hb H1 s1 R r => ?_) (fun D H1 hD s1 e1 => ?_)
  · have hc1 : H1 (A0 c) = some (.tup (vecV ls (M c))) := s1 _ _ (by rw [upd_ne (nAm c hc)]; exact hA c hc)
    walk_at "go"
    refine v_dget (marks_getF (s1 _ _ upd_same) hc) ?_
    walk_at "go"
    refine v_iT hc1 ?_
    refine vals_all (ls := ls) (it := fun x => V.int (M c x)) (f := fun x => V.int (M c x)) (walk_tupM (ls := ls) (f := fun x => V.int (M c x))) (fun H' s' => SqT.of (s' _ _ hc1)) (by omega) (fun y hy H5 s5 R r => ?_) (fun y hy H5 s5 R r => ?_) (fun D H5 hD s5 e5 => ?_)
    · exact r H5 (Same.refl _)
    · walk_at "go"
      exact r H5 (Same.refl _)
    walk_at "go"
    have e6 : H5 D = some (.lst ((ls.map (M c)).map V.int)) := by
      rw [e5, List.map_map]
      rfl
    refine ⟨D, _, rfl, SqL.of e6, by rw [List.length_map]; exact List.length_pos_of_mem hc, fun z hz hle => ?_⟩
    walk_at "go"
    have e7 : decide (z < 0) = decide (∃ x ∈ ls, M c x < 0) := by
      refine decide_eq_decide.mpr ⟨fun h => ?_, fun h => ?_⟩
      · obtain ⟨x, hx, e⟩ := List.mem_map.mp hz
        exact ⟨x, hx, by omega⟩
      · obtain ⟨x, hx, e⟩ := h
        have := hle (M c x) (List.mem_map.mpr ⟨x, hx, rfl⟩)
        omega
    rw [e7]
    exact r H5 s5
  · walk_at "go"
    exact r H1 (Same.refl _)
  have hmm : H1 m = some (.frz od (.dK (marksKV ls A0))) := s1 _ _ upd_same
  refine ⟨hmm, ?_⟩
  have hDm : D ≠ m := fun z => by rw [z, upd_same] at hD; cases hD
  refine k D _ (by rw [upd_ne hDm]; exact e1) fun b o hb => ?_
  by_cases e : b = m
  · rw [e, upd_same, ← hb, e, hm]
  · rw [upd_ne e]
    exact s1 _ _ (by rw [upd_ne e]; exact hb)
abbrev stname : Stmt := (top 57)
abbrev Nname : List Str := ["_law_table", "_law_walk_here", "_law_marks_here", "_law_found", "_law_backs_here"]
theorem scname : FnScope Nname ["_law_table", "_law_walk_here"] (defScope stname) := ⟨rfl, rfl, rfl, by decide +kernel, rfl, by decide +kernel, by decide +kernel⟩

theorem ok_name (F : FnAt K mg "_law_name" stname) (D_marks : Def P w K mg base CX0 2 "_law_marks" ["_law_table", "_law_walk_here"] spMarks) (D_through : Def P w K mg base CX0 1 "_law_through" ["_law_table", "_law_marks_here", "_law_door"] spThrough) (D_backs : Def P w K mg base CX0 1 "_law_backs" ["_law_marks_here"] spBacks) : Def P w K mg base CX0 3 "_law_name" ["_law_table", "_law_walk_here"] spName := by
  refine F.ok scname (fun _ _ _ _ _ _ us hl => match us, hl with | [_, _], _ => rfl) (fun vs H Q E h => ?_) (fun f cdv A outer s H vs Q E hr h => ?_)
  · obtain ⟨d, ls, f, w, rfl, _⟩ := h
    rfl
  obtain ⟨d, ls, fn, wk, rfl, hd, tab, ok, asc, hw, hwl, k⟩ := h
  have hu := hu_of hr
  have nd := scname.nd
  replace D_through := D_through.mono (show 1 ≤ 2 by decide)
  replace D_backs := D_backs.mono (show 1 ≤ 2 by decide)
  have tl := tab.len
  have nfN : NF fn (joinC fn [] wk) := NF_join ok NF_nil
  have memN : ∀ y ∈ joinC fn [] wk, y ∈ ls := fun y hy => (joinC_mem hy).elim (fun z => nomatch z) (hw y)
  have lenN := joinC_len fn wk []
  rw [List.length_nil] at lenN
  have actN : ∀ f0, act fn (joinC fn [] wk) f0 = act fn wk f0 := fun f0 => act_join ok wk [] f0
  generalize joinC fn [] wk = NN at *
  refine ⟨_, (pss_cons (ps_par (i := 2) (j := 3) (by rfl) nd rfl rfl (by decide) rfl rfl (pa_cons (pe_cd D_marks hr pass0 (pa_cons (pv 0) (pa_cons (pe_revS (pv 1)) pa_nil))) (pa_cons (pe_tx [] (by decide +kernel)) pa_nil)) (by rfl))
      (pss_cons (ps_set (i := 4) nd rfl (Or.inl rfl) (pe_cd D_backs hr pass0 (pa_cons (pv 2) pa_nil)))
      (pss_cutS (ps_while PassesOwn.never (pt_cmpR (op_neDK (K := K) rfl hr.units) (pv 4) (pe_lst pa_nil) (nomark _))
      (pss_cons (ps_set (i := 3) nd rfl (Or.inl rfl) (pe_op op_addS (pv 3) (pe_ix (ix_LK (K := K) rfl) (pv 4) pe_int (fun _ _ => rfl))))
        (pss_cons (ps_set (i := 2) nd rfl (Or.inl rfl) (pe_cd D_through hr pass0 (pa_cons (pv 0) (pa_cons (pv 2) (pa_cons (pe_ix (ix_LK (K := K) rfl) (pv 4) pe_int (fun _ _ => rfl)) pa_nil)))))
        (pss_one (ps_set (i := 4) nd rfl (Or.inl rfl) (pe_cd D_backs hr pass0 (pa_cons (pv 2) pa_nil)))))))
      (pss_one (ps_ret (pv 3)))))), ?_⟩
  refine s_start [some _, some _, none, none, none] rfl ?_
  walk_at "go"
  refine ⟨d, ls, fn, _, rfl, hd, tab, fun c hc => hw c (List.mem_reverse.mp hc), fun m H1 m1 s1 => ?_⟩
  have m1 : MarksAt H1 m ls (fun c x => act fn NN (unit x) c) := m1.congr fun c _ x _ => by rw [List.reverse_reverse, actN]
  walk_at "go"
  refine ⟨m, ls, _, rfl, m1, tl, fun l H2 e2 s2 => ?_⟩
  walk_at "go"
  refine s_cut (fun σ H' => ∃ m l, σ = [some (.ref d), some (.str (tx wk)), some (.ref m), some (.str (tx NN)), some (.ref l)] ∧ Same H H') ?_ ?_
  · refine s_while (fun n σ H' => ∃ u v m l, NN = u ++ v ∧ n = v.length ∧ σ = [some (.ref d), some (.str (tx wk)), some (.ref m), some (.str (tx u)), some (.ref l)] ∧ Same H H' ∧ MarksAt H' m ls (fun c x => act fn v (unit x) c) ∧ H' l = some (.lst ((backs ls (fun c x => act fn v (unit x) c)).map fun c => V.str (tx [c])))) NN.length ⟨[], NN, m, l, rfl, rfl, rfl, s1.trans s2, m1.same s2, e2⟩ ?_
    rintro n σ H3 ⟨u, v, m, l, e, rfl, rfl, s3, m3, e3⟩
    have nfv : NF fn v := by
      rw [e] at nfN
      clear e actN memN lenN
      induction u with
      | nil => exact nfN
      | cons y u ih => exact ih nfN.tail
    have memv : ∀ y ∈ v, y ∈ ls := fun y hy => memN y (by rw [e]; exact List.mem_append_right _ hy)
    walk_at "go"
    intro q H4 hq s4 e4
    have small : ∀ l' ∈ (backs ls (fun c x => act fn v (unit x) c)).map (fun c => [c]), ∀ c ∈ l', c < 1000 := by
      intro l' hl' c hc
      obtain ⟨y, hy, rfl⟩ := List.mem_map.mp hl'
      rw [List.mem_singleton.mp hc]
      have := LET_lt (tab.lt y (List.mem_filter.mp hy).1)
      omega
    have e3' : H4 l = some (.lst (((backs ls (fun c x => act fn v (unit x) c)).map fun c => tx [c]).map V.str)) := by
      rw [s4 _ _ e3, List.map_map]
      rfl
    refine v_neNilS e3' (fun x hx => ?_) e4 ?_
    · obtain ⟨y, hy, rfl⟩ := List.mem_map.mp hx
      exact ok_tx (small [y] (List.mem_map.mpr ⟨y, hy, rfl⟩))
    rw [List.isEmpty_map]
    walk_at "go"
    cases v with
    | nil =>
      rw [backs_nil ok]
      refine iteF ?_
      refine ⟨m, l, ?_, s3.trans s4⟩
      rw [e, List.append_nil]
    | cons c r =>
      obtain ⟨t, et⟩ := backs_cons ok asc nfv memv
      rw [et]
      rw [et] at e3
      refine iteT ?_
      have e34 := s4 _ _ e3
      have hc : c ∈ ls := memv c (List.mem_cons_self ..)
      have lu : u.length + [c].length ≤ 1000000 := by
        have := congrArg List.length e
        rw [List.length_append] at this
        rw [List.length_singleton]
        omega
      refine v_turn ?_
      walk_at "go"
      refine v_ixL e34 (atI_nat (j := 0) rfl) ?_
      walk_at "go"
      refine v_ixL e34 (atI_nat (j := 0) rfl) ?_
      walk_at "go"
      refine ⟨d, m, ls, fn, _, c, rfl, s4 _ _ (s3 _ _ hd), tab, hc, m3.same s4, fun m' H5 _ m5 s5 => ?_⟩
      have m5 : MarksAt H5 m' ls (fun c x => act fn r (unit x) c) := m5.congr fun b _ x _ => by
        show thr fn c (thr fn c (act fn r (unit x))) b = _
        rw [thr_thr ok]
      walk_at "go"
      refine ⟨m', ls, _, rfl, m5, tl, fun l' H6 e6 s6 => ?_⟩
      refine ⟨r.length, by simp, u ++ [c], r, m', l', by rw [e]; simp, rfl, rfl, ((s3.trans s4).trans s5).trans s6, m5.same s6, e6⟩
  rintro σ H3 ⟨m, l, rfl, s3⟩
  walk_at "go"
  exact k H3 s3
end
end
section
open PySem PySem.Spec L2
def spPlain : Sp := fun vs H Q _ => ∃ (d : Addr) (ls : List Nat) (f : Nat → List Nat), vs = [.ref d] ∧ H d = some (.dK (tabKV ls f)) ∧ Tab ls f ∧ ∀ p H', H p = none → Same H H' → H' p = some (.dK (tabKV ls (fun _ => []))) → Q (.ref p) H'
theorem paired_map {α β : Type} {r : α → β → Prop} {A : Nat → α} {B : Nat → β} : ∀ {ls : List Nat}, (∀ c ∈ ls, r (A c) (B c)) → Paired r (ls.map A) (ls.map B)
  | [], _ => .nil
  | c :: ls, h => .cons (h c (List.mem_cons_self ..)) (paired_map fun d hd => h d (List.mem_cons_of_mem _ hd))
theorem let_pw {ls : List Nat} {g : Nat → V} (h : ls.Nodup) : (ls.map fun c => ((Sum.inr (tx [c]) : Key), g c)).Pairwise (fun a b => a.1 ≠ b.1) := by
  rw [List.pairwise_map]
  refine List.Pairwise.imp (fun {a b} hab z => ?_) h
  have := key_tx.mp z
  injection this with e _
  exact hab e
section
variable {P : Program} {w : World} {K : PySem.W.Frag} {mg : Str → Option Value} {base : Heap}
abbrev stplain : Stmt := (top 60)
abbrev Nplain : List Str := ["_law_table", "_law_item"]
theorem scplain : FnScope Nplain ["_law_table"] (defScope stplain) := ⟨rfl, rfl, rfl, by decide +kernel, rfl, by decide +kernel, by decide +kernel⟩

theorem ok_plain (F : FnAt K mg "_law_plain" stplain) (T : TxtV K mg) : Def P w K mg base CX0 1 "_law_plain" ["_law_table"] spPlain := by
  refine F.ok scplain (fun _ _ _ _ _ _ us hl => match us, hl with | [_], _ => rfl) (fun vs H Q E h => ?_) (fun f cdv A outer s H vs Q E hr h => ?_)
  · obtain ⟨d, ls, f, rfl, _⟩ := h
    rfl
  obtain ⟨d, ls, fn, rfl, hd, tab, k⟩ := h
  have hu := hu_of hr
  have nd := scplain.nd
  have tl := tab.len
  refine ⟨_, (pss_one (ps_lock (ps_ret (pe_callTy (c_dictPK (K := K) rfl rfl) (by rfl) T.dict (by decide +kernel) (pa_cons (pe_lc (own := [("_law_item", 1)]) (g := gName 1) (by rfl) nd (pi_keys (pv 0)) (blkOk_by (own := [("_law_item", 1)]) (N := Nplain) (sc := defScope stplain) (by decide +kernel)) (fun _ _ _ _ _ => (pg_name (i := 1) nd rfl (Or.inl rfl))) (fun _ _ _ _ _ => pts_nil) (fun _ _ _ _ _ => (pe_tup (pa_cons (pv 1) (pa_cons (pe_tx [] (by decide +kernel)) pa_nil))))) pa_nil))))), ?_⟩
  refine s_start [some _, none] rfl ?_
  refine e_lock hd trivial fun od => ?_
  walk_at "go"
  refine ⟨d, od, rfl, .inl ⟨_, upd_same, ?_⟩⟩
  intro D hD
  have hDd : D ≠ d := fun z => by rw [z, upd_same] at hD; cases hD
  have hDH : H D = none := by rw [upd_ne hDd] at hD; exact hD
  refine lc_it (walk_let (g := fun c => V.str (tx (fn c)))) (fun j H' => ∃ A : Nat → Addr, H' D = some (.lst ((ls.take j).map fun c => V.ref (A c))) ∧ (∀ c ∈ ls.take j, H' (A c) = some (.tup [.str (tx [c]), .str (tx [])])) ∧ (∀ b o, H b = some o → b ≠ d → H' b = some o) ∧ H' d = some (.frz od (.dK (tabKV ls fn)))) ⟨fun _ => 0, upd_same, by simp, fun b o hb nb => by rw [upd_ne (ne_of_none hb hDH), upd_ne nb]; exact hb, by rw [upd_ne hDd.symm]; exact upd_same⟩ ?_ ?_ ?_
  · rintro j H' _ ⟨A, _, _, _, h⟩
    exact h
  · rintro j v H3 H4 hj ⟨A, e3, t3, k3, d3⟩ ⟨rfl, hv⟩
    obtain ⟨c, hc⟩ : ∃ c, ls.getD j 0 = c := ⟨_, rfl⟩
    obtain rfl : v = V.str (tx [c]) := by rw [← hc]; exact hv
    have hn : ¬ c ∈ ls.take j := hc ▸ take_notin tab.nd hj
    walk_at "go"
    refine ⟨rfl, ?_⟩
    walk_at "go"
    intro t H5 ht s5 e5
    have e5D := s5 _ _ e3
    refine ⟨_, e5D, ?_, fun y => if y = c then t else A y, ?_, ?_, ?_, ?_⟩
    · refine szlt ?_
      rw [List.length_map, List.length_take]
      omega
    · rw [upd_same, take_getD hj, hc, List.map_append]
      congr 3
      · refine List.map_congr_left fun y hy => ?_
        show V.ref (A y) = V.ref (if y = c then t else A y)
        rw [if_neg (fun z : y = c => hn (z ▸ hy))]
      · show [V.ref t] = [V.ref (if c = c then t else A c)]
        rw [if_pos rfl]
    · intro y hy
      rw [take_getD hj, hc, List.mem_append, List.mem_singleton] at hy
      show upd H5 D _ (if y = c then t else A y) = _
      by_cases e : y = c
      · rw [if_pos e, upd_ne (ne_of e5 e5D (by intro z; cases z)), e]
        exact e5
      · rw [if_neg e]
        have := s5 _ _ (t3 y (hy.resolve_right e))
        rw [upd_ne (ne_of this e5D (by intro z; cases z))]
        exact this
    · intro b o hb nb
      rw [upd_ne (ne_of_none hb hDH)]
      exact s5 _ _ (k3 _ _ hb nb)
    · rw [upd_ne hDd.symm]
      exact s5 _ _ d3
  rintro H3 ⟨A, e3, t3, k3, d3⟩
  rw [List.take_of_length_le (Nat.le_refl _)] at e3 t3
  walk_at "go"
  refine ⟨D, ls.map A, ls.map fun c => ((Sum.inr (tx [c]) : Key), V.str (tx [])), rfl, SqL.of (by rw [e3, List.map_map]; rfl), paired_map fun c hc => SqT.of (t3 c hc), fun p hp => ?_⟩
  rw [merge_new (fun _ _ => rfl) (let_pw tab.nd), List.nil_append]
  have hpd : p ≠ d := fun z => by rw [z, d3] at hp; cases hp
  refine ⟨by rw [upd_ne hpd.symm]; exact d3, ?_⟩
  refine k p _ ?_ ?_ ?_
  · cases z : H p with
    | none => rfl
    | some o =>
      have := k3 _ _ z hpd
      rw [hp] at this
      cases this
  · intro b o hb
    by_cases e : b = d
    · rw [e, upd_same, ← hb, e, hd]
    · rw [upd_ne e]
      have := k3 _ _ hb e
      rw [upd_ne (ne_of_none this hp)]
      exact this
  · rw [upd_ne hpd, upd_same]
    rfl
end
end
section
open PySem PySem.Spec L2
theorem if_nI {c A B : Prop} {inst : Decidable c} (h : c) (q : B) : if (!decide c) = true then A else B := if_ndec (fun z => absurd h z) (fun _ => q)
theorem if_I {c A B : Prop} {inst : Decidable c} (h : c) (q : A) : if decide c = true then A else B := if_dec (fun _ => q) (fun z => absurd h z)
/-! ### rooms of one plan -/
theorem RoomAt.go {R : Addr} {H H' : Hp} {r x : Addr} {name : List Nat} (s : Same H H') (h : RoomAt R H r x name) : RoomAt R H' r x name := h.same s
theorem PlanAt.go {C : Addr} {H H' : Hp} {x : Addr} {ks : List Nat} {ps : List (List Nat)} (s : Same H H') (h : PlanAt C H x ks ps) : PlanAt C H' x ks ps := h.same s
section
variable {K : PySem.W.Frag} {H : Hp} {Q : VK} {C R r r' x : Addr} {a b : List Nat} {ks : List Nat} {ps : List (List Nat)} {E : XK}
theorem v_rname {P : V → Prop} (h : RoomAt R H r x a) (c : Cls K R) (n : NoAttr K R "name") (q : P (.str (tx a))) : ∃ a' C dx fs v, V.ref r = .ref a' ∧ H a' = some (.ins C dx fs) ∧ Cls K C ∧ NoAttr K C "name" ∧ fs.lookup ("name" : Str) = some v ∧ P v := by
  obtain ⟨dx, e⟩ := h.ex
  exact v_fld e c n roomF_n q
theorem v_rnameG {P : V → Prop} (q : ∃ R x a, RoomAt R H r x a ∧ Cls K R ∧ NoAttr K R "name" ∧ P (.str (tx a))) : ∃ a' C dx fs v, V.ref r = .ref a' ∧ H a' = some (.ins C dx fs) ∧ Cls K C ∧ NoAttr K C "name" ∧ fs.lookup ("name" : Str) = some v ∧ P v := by
  obtain ⟨R, x, a, h, c, n, q⟩ := q
  exact v_rname h c n q
theorem v_rplan {P : V → Prop} (h : RoomAt R H r x a) (c : Cls K R) (n : NoAttr K R "plan") (q : P (.ref x)) : ∃ a' C dx fs v, V.ref r = .ref a' ∧ H a' = some (.ins C dx fs) ∧ Cls K C ∧ NoAttr K C "plan" ∧ fs.lookup ("plan" : Str) = some v ∧ P v := by
  obtain ⟨dx, e⟩ := h.ex
  exact v_fld e c n roomF_p q
theorem v_rplanG {P : V → Prop} (q : ∃ R x a, RoomAt R H r x a ∧ Cls K R ∧ NoAttr K R "plan" ∧ P (.ref x)) : ∃ a' C dx fs v, V.ref r = .ref a' ∧ H a' = some (.ins C dx fs) ∧ Cls K C ∧ NoAttr K C "plan" ∧ fs.lookup ("plan" : Str) = some v ∧ P v := by
  obtain ⟨R, x, a, h, c, n, q⟩ := q
  exact v_rplan h c n q
theorem rooms2 (h1 : RoomAt R H r x a) (h2 : RoomAt R H r' x b) (pl : PlanAt C H x ks ps) (ok : PsOk ps) (la : a.length ≤ 2000) (lb : b.length ≤ 2000) : Rooms2 C R H r x a r' x b true := ⟨h1, h2, ⟨ks, ks, ps, ps, pl, pl, ok, ok, (decide_eq_true ⟨rfl, rfl⟩).symm⟩, la, lb⟩
theorem v_req (h1 : RoomAt R H r x a) (h2 : RoomAt R H r' x b) (pl : PlanAt C H x ks ps) (ok : PsOk ps) (la : a.length ≤ 2000) (lb : b.length ≤ 2000) (q : Q (.bl (decide (a = b))) H) : rM2 R (spRoomEq C R) E (.ref r) (.ref r') H Q := by
  obtain ⟨dx, e1⟩ := h1.ex
  obtain ⟨dy, e2⟩ := h2.ex
  refine v_M2 e1 e2 ⟨_, _, _, _, _, _, _, rfl, rooms2 h1 h2 pl ok la lb, ?_⟩
  rw [Bool.true_and]
  exact q
theorem v_rne (h1 : RoomAt R H r x a) (h2 : RoomAt R H r' x b) (pl : PlanAt C H x ks ps) (ok : PsOk ps) (la : a.length ≤ 2000) (lb : b.length ≤ 2000) (q : Q (.bl (!decide (a = b))) H) : rM2n R (spRoomEq C R) E (.ref r) (.ref r') H Q := by
  obtain ⟨dx, e1⟩ := h1.ex
  obtain ⟨dy, e2⟩ := h2.ex
  refine v_M2n e1 e2 ⟨_, _, _, _, _, _, _, rfl, rooms2 h1 h2 pl ok la lb, ?_⟩
  rw [Bool.true_and]
  exact ⟨_, rfl, q⟩
theorem v_rlen (h : RoomAt R H r x a) (l : a.length ≤ 100000) (q : Q (.int a.length) H) : rLenM R (spRoomLen R) E [.ref r] H Q := by
  obtain ⟨dx, e⟩ := h.ex
  exact v_lenM e ⟨_, _, _, rfl, h, l, a.length, rfl, by omega, q⟩
theorem v_reqT {z : Str} (h : RoomAt R H r x a) (q : Q (.bl false) H) : rMS R (spRoomEqS R) E (.ref r) (.str z) H Q := by
  obtain ⟨dx, e⟩ := h.ex
  exact v_MS e ⟨_, _, rfl, q⟩
theorem v_rlenG (q : ∃ x a, RoomAt R H r x a ∧ a.length ≤ 100000 ∧ Q (.int a.length) H) : rLenM R (spRoomLen R) E [.ref r] H Q := by
  obtain ⟨x, a, h, l, q⟩ := q
  exact v_rlen h l q
theorem v_reqG (q : ∃ x a b ks ps, RoomAt R H r x a ∧ RoomAt R H r' x b ∧ PlanAt C H x ks ps ∧ PsOk ps ∧ a.length ≤ 2000 ∧ b.length ≤ 2000 ∧ Q (.bl (decide (a = b))) H) : rM2 R (spRoomEq C R) E (.ref r) (.ref r') H Q := by
  obtain ⟨x, a, b, ks, ps, h1, h2, h3, h4, h5, h6, q⟩ := q
  exact v_req h1 h2 h3 h4 h5 h6 q
theorem v_rneG (q : ∃ x a b ks ps, RoomAt R H r x a ∧ RoomAt R H r' x b ∧ PlanAt C H x ks ps ∧ PsOk ps ∧ a.length ≤ 2000 ∧ b.length ≤ 2000 ∧ Q (.bl (!decide (a = b))) H) : rM2n R (spRoomEq C R) E (.ref r) (.ref r') H Q := by
  obtain ⟨x, a, b, ks, ps, h1, h2, h3, h4, h5, h6, q⟩ := q
  exact v_rne h1 h2 h3 h4 h5 h6 q
theorem v_reqTG {z : Str} (q : ∃ x a, RoomAt R H r x a ∧ Q (.bl false) H) : rMS R (spRoomEqS R) E (.ref r) (.str z) H Q := by
  obtain ⟨x, a, h, q⟩ := q
  exact v_reqT h q
theorem v_peqS {x : Addr} (pl : PlanAt C H x ks ps) (ok : PsOk ps) (q : Q (.bl true) H) : rM2 C (spPlanEq C) E (.ref x) (.ref x) H Q := by
  obtain ⟨dx, t, d, e, _⟩ := pl.ex
  refine v_M2 e e ⟨_, _, _, _, _, _, rfl, pl, pl, ok, ok, ?_⟩
  rw [decide_eq_true ⟨rfl, rfl⟩]
  exact q
theorem v_peqG {x : Addr} (q : ∃ ks ps, PlanAt C H x ks ps ∧ PsOk ps ∧ Q (.bl true) H) : rM2 C (spPlanEq C) E (.ref x) (.ref x) H Q := by
  obtain ⟨ks, ps, h1, h2, q⟩ := q
  exact v_peqS h1 h2 q
end
/-! ### rooms of a drawn floor -/
section
variable {K : PySem.W.Frag} {H : Hp} {Q : VK} {C R r x : Addr} {ls : List Nat} {fn : Nat → List Nat} {a b w : List Nat} {k : Nat} {E : XK}
theorem inAsc (T : Tab ls fn) (h : ∀ c ∈ a, c ∈ ls) : ∀ c ∈ a, c ∈ ascOf ls := fun c hc => ascOf_mem.mpr ⟨T.lt c (h c hc), h c hc⟩
theorem memN (h : ∀ c ∈ a, c ∈ ls) : ∀ c ∈ joinC fn [] a, c ∈ ls := fun c hc => h c (name_mem hc)
theorem sp_room (fl : Fl ls fn) (pl : PlanAt C H x (ascOf ls) (tabPairs ls fn)) (hw : ∀ c ∈ w, c ∈ ls) (l : w.length ≤ 2000) (q : ∀ r H', H r = none → Same H H' → RoomAt R H' r x (joinC fn [] w) → Q (.ref r) H') : spRoom C R [.ref x, .str (tx w)] H Q E := by
  refine ⟨x, _, _, w, rfl, pl, inAsc fl.tab hw, l, fun r H' h s ro => q r H' h s ?_⟩
  rw [joinOf_tab fl.tab (name := []) (by simp) hw] at ro
  exact ro
theorem v_add (fl : Fl ls fn) (h : RoomAt R H r x (joinC fn [] a)) (pl : PlanAt C H x (ascOf ls) (tabPairs ls fn)) (ha : ∀ c ∈ a, c ∈ ls) (hb : ∀ c ∈ b, c ∈ ls) (la : a.length ≤ 1000) (lb : b.length ≤ 1000) (q : ∀ r' H', H r' = none → Same H H' → RoomAt R H' r' x (joinC fn [] (a ++ b)) → Q (.ref r') H') : rMS R (spRoomAdd C R) E (.ref r) (.str (tx b)) H Q := by
  obtain ⟨dr, er⟩ := h.ex
  have n1 := name_len fn a
  have j1 := joinOf_len (ascOf ls) (tabPairs ls fn) b (joinC fn [] a)
  have n1 : (joinC fn [] a).length ≤ a.length := n1
  refine v_MS er ⟨r, x, _, _, _, b, rfl, h, pl, inAsc fl.tab (memN ha), inAsc fl.tab hb, by omega, by omega, by omega, fun r' H' hr' s' ro => q r' H' hr' s' ?_⟩
  have hm : ∀ c ∈ joinC fn (joinC fn [] a) b, c ∈ ls := fun c hc => (joinC_mem' hc).elim (memN ha c) (hb c)
  rw [joinOf_tab fl.tab (memN ha) hb, joinOf_tab fl.tab (name := []) (by simp) hm, show joinC fn [] (joinC fn (joinC fn [] a) b) = joinC fn [] (a ++ b) from name_app fl.ok a b] at ro
  exact ro
theorem sp_name {d : Addr} (fl : Fl ls fn) (hd : H d = some (.dK (tabKV ls fn))) (hw : ∀ c ∈ w, c ∈ ls) (l : w.length ≤ 10000) (q : ∀ H', Same H H' → Q (.str (tx (joinC fn [] w))) H') : spName [.ref d, .str (tx w)] H Q E := ⟨d, ls, fn, w, rfl, hd, fl.tab, fl.ok, fl.asc, hw, l, q⟩
end
theorem v_mdRG {R r : Addr} {H : Hp} {m : Str} {P : Prop} (q : ∃ x a, RoomAt R H r x a ∧ (¬ m = "name" ∧ ¬ m = "plan") ∧ P) : ∃ a dx fs, V.ref r = .ref a ∧ H a = some (.ins R dx fs) ∧ fs.lookup m = none ∧ P := by
  obtain ⟨x, a, h, ⟨h1, h2⟩, q⟩ := q
  obtain ⟨dx, e⟩ := h.ex
  exact ⟨r, dx, _, rfl, e, roomF_no h1 h2, q⟩
end
section
open PySem PySem.Spec L2
section
variable {P : Program} {w : World} {K : PySem.W.Frag} {mg : Str → Option Value} {base : Heap} {C : Addr}
abbrev stturned_back : Stmt := (top 14)
abbrev Nturned_back : List Str := ["plan", "name"]
theorem scturned_back : FnScope Nturned_back ["plan", "name"] (defScope stturned_back) := ⟨rfl, rfl, rfl, by decide +kernel, rfl, by decide +kernel, by decide +kernel⟩

theorem ok_turned_back (F : FnAt K mg "turned_back" stturned_back) (D_joined : Def P w K mg base CX0 2 "joined" ["plan", "name", "way"] (spJoined C)) : Def P w K mg base CX0 3 "turned_back" ["plan", "name"] (spBack C) := by
  refine F.ok scturned_back (fun _ _ _ _ _ _ us hl => match us, hl with | [_, _], _ => rfl) (fun vs H Q E h => ?_) (fun f cdv A outer s H vs Q E hr h => ?_)
  · obtain ⟨x, ks, ps, name, rfl, _⟩ := h
    rfl
  obtain ⟨x, ks, ps, name, rfl, h1, hk, hl, q⟩ := h
  have hu := hu_of hr
  have nd := scturned_back.nd
  refine ⟨_, (pss_one (ps_ret (pe_cd D_joined hr pass0 (pa_cons (pv 0) (pa_cons (pe_tx [] (by decide +kernel)) (pa_cons (pe_revS (pv 1)) pa_nil)))))), ?_⟩
  refine s_start [some _, some _] rfl ?_
  walk_at "go"

  refine ⟨x, ks, ps, [], name.reverse, rfl, h1, fun c hc => hk c (List.mem_reverse.mp hc), ?_, q⟩
  rw [List.length_reverse, List.length_nil]
  omega
abbrev stway_from : Stmt := (top 15)
abbrev Nway_from : List Str := ["plan", "name", "goal"]
theorem scway_from : FnScope Nway_from ["plan", "name", "goal"] (defScope stway_from) := ⟨rfl, rfl, rfl, by decide +kernel, rfl, by decide +kernel, by decide +kernel⟩

theorem ok_way_from (F : FnAt K mg "way_from" stway_from) (D_joined : Def P w K mg base CX0 2 "joined" ["plan", "name", "way"] (spJoined C)) (D_turned_back : Def P w K mg base CX0 3 "turned_back" ["plan", "name"] (spBack C)) : Def P w K mg base CX0 4 "way_from" ["plan", "name", "goal"] (spWayFrom C) := by
  refine F.ok scway_from (fun _ _ _ _ _ _ us hl => match us, hl with | [_, _, _], _ => rfl) (fun vs H Q E h => ?_) (fun f cdv A outer s H vs Q E hr h => ?_)
  · obtain ⟨x, ks, ps, name, goal, rfl, _⟩ := h
    rfl
  obtain ⟨x, ks, ps, name, goal, rfl, h1, hk, hg, hl, hm, q⟩ := h
  have hu := hu_of hr
  have nd := scway_from.nd
  replace D_joined := D_joined.mono (show 2 ≤ 3 by decide)
  refine ⟨_, (pss_one (ps_ret (pe_cd D_joined hr pass0 (pa_cons (pv 0) (pa_cons (pe_cd D_turned_back hr pass0 (pa_cons (pv 0) (pa_cons (pv 1) pa_nil))) (pa_cons (pv 2) pa_nil)))))), ?_⟩
  refine s_start [some _, some _, some _] rfl ?_
  walk_at "go"
  refine ⟨x, ks, ps, name, rfl, h1, hk, hl, ?_⟩
  walk_at "go"
  refine ⟨x, ks, ps, _, goal, rfl, h1, hg, ?_, q⟩
  have := backOf_len ks ps name
  omega
end
end
section
open PySem PySem.Spec L2
section
variable {P : Program} {w : World} {K : PySem.W.Frag} {mg : Str → Option Value} {base : Heap} {C R O : Addr}
end
end
section
open PySem PySem.Spec L2
def spFree (C : Addr) : Sp := fun vs H Q _ => ∃ (x : Addr) (ks : List Nat) (ps : List (List Nat)) (free : List Nat) (k : Nat), vs = [.ref x, .str (tx free), .str (tx [k])] ∧ PlanAt C H x ks ps ∧ k ∈ ks ∧ free.length ≤ 1000 ∧ ∀ H', Same H H' → Q (.str (tx (free.filter fun o => decide (o ∈ crossOf ks ps k)))) H'
/-- the kinds in front of a way -/
def firstsOf (ks : List Nat) (ps : List (List Nat)) (way : List Nat) : List Nat := ks.filter fun s => decide (s ∈ founds (crossOf ks ps) ks way)
theorem filt_len {p : Nat → Bool} {l : List Nat} : (l.filter p).length ≤ l.length := List.length_filter_le p l
section
variable {P : Program} {w : World} {K : PySem.W.Frag} {mg : Str → Option Value} {base : Heap} {C R O : Addr}
abbrev ststill_free : Stmt := (top 16)
abbrev Nstill_free : List Str := ["plan", "kinds", "kind", "other"]
theorem scstill_free : FnScope Nstill_free ["plan", "kinds", "kind"] (defScope ststill_free) := ⟨rfl, rfl, rfl, by decide +kernel, rfl, by decide +kernel, by decide +kernel⟩

theorem ok_still_free (F : FnAt K mg "still_free" ststill_free) (T : TxtP K mg C) : Def P w K mg base CX0 1 "still_free" ["plan", "kinds", "kind"] (spFree C) := by
  refine F.ok scstill_free (fun _ _ _ _ _ _ us hl => match us, hl with | [_, _, _], _ => rfl) (fun vs H Q E h => ?_) (fun f cdv A outer s H vs Q E hr h => ?_)
  · obtain ⟨x, ks, ps, free, k, rfl, _⟩ := h
    rfl
  obtain ⟨x, ks, ps, free, k, rfl, h1, hk, hl, q⟩ := h
  have hu := hu_of hr
  have nd := scstill_free.nd
  refine ⟨_, (pss_one (ps_ret (pe_joinK (K := K) rfl (pe_tx [] (by decide +kernel)) (pe_lc (own := [("other", 3)]) (g := gName 3) (by rfl) nd (pi_str (pv 1)) (blkOk_by (own := [("other", 3)]) (N := Nstill_free) (sc := defScope ststill_free) (by decide +kernel)) (fun _ _ _ _ _ => (pg_name (i := 3) nd rfl (Or.inl rfl))) (fun _ _ _ _ _ => (pts_one (pt_cmpR op_inS (pv 3) (pe_dget hu (pe_flK (K := K) rfl (pv 0) rfl) (pv 2) (fun _ _ => rfl)) (by rfl)))) (fun _ _ _ _ _ => (pv 3)))))), ?_⟩
  refine s_start [some _, some _, some _, none] rfl ?_
  obtain ⟨dx, t, d, a1, a2, a3⟩ := h1.ex
  walk_at "go"
  refine v_lcS (l := free) (b := fun c => decide (c ∈ crossOf ks ps k)) (f := fun c => V.str (tx [c])) (by omega) (fun c _ H1 s1 R r => ?_) (fun c _ _ H1 s1 R r => ?_) (fun D H1 hD s1 e1 => ?_)
  · walk_at "go"
    refine v_fld (s1 _ _ a1) T.Plan.cl T.nO planF_o ?_
    walk_at "go"
    refine v_dget (dget_let (g := fun k => V.str (tx (crossOf ks ps k))) (s1 _ _ a3) hk) ?_
    walk_at "go"
    exact r H1 (Same.refl _)
  · walk_at "go"
    exact r H1 (Same.refl _)
  walk_at "go"
  rw [strs_ones] at e1
  have hl2 := filt_len (p := fun c => decide (c ∈ crossOf ks ps k)) (l := free)
  refine v_join e1 (by rw [flat_ones]; omega) ?_
  rw [flat_ones]
  exact q H1 s1
end
/-! ### of a drawn floor -/
section
variable {K : PySem.W.Frag} {H : Hp} {Q : VK} {C R O r r' x : Addr} {ls : List Nat} {fn : Nat → List Nat} {a b : List Nat} {E : XK}
theorem asc_self (fl : Fl ls fn) : ascOf ls = ls := by
  have h1 : (ascOf ls).Perm ls := by
    refine (List.perm_ext_iff_of_nodup (ascOf_nodup ls) fl.tab.nd).mpr fun c => ?_
    rw [ascOf_mem]
    exact ⟨fun z => z.2, fun z => ⟨fl.tab.lt c z, z⟩⟩
  have s1 : (ascOf ls).Pairwise (· < ·) := List.Pairwise.filter _ (by decide +kernel : LET.Pairwise (· < ·))
  exact h1.eq_of_pairwise (fun a b _ _ h1 h2 => by omega) s1 fl.asc
end
end
section
open PySem PySem.Spec L2
def spSplit (C : Addr) : Sp := fun vs H Q _ => ∃ (x : Addr) (ks : List Nat) (ps : List (List Nat)) (way kinds : List Nat), vs = [.ref x, .str (tx way), .str (tx kinds)] ∧ PlanAt C H x ks ps ∧ (∀ c ∈ way, c ∈ ks) ∧ kinds.length ≤ 1000 ∧ way.length ≤ 100000 ∧
  ∀ p H', H p = none → Same H H' → H' p = some (.tup [.str (tx (splitA (crossOf ks ps) kinds way).1), .str (tx (splitA (crossOf ks ps) kinds way).2)]) → Q (.ref p) H'
def spNoEnd (C : Addr) : Sp := fun vs H Q _ => ∃ (x : Addr) (ks : List Nat) (ps : List (List Nat)) (way kinds : List Nat), vs = [.ref x, .str (tx way), .str (tx kinds)] ∧ PlanAt C H x ks ps ∧ (∀ c ∈ way, c ∈ ks) ∧ kinds.length ≤ 1000 ∧ way.length ≤ 100000 ∧
  ∀ H', Same H H' → Q (.str (tx (splitA (crossOf ks ps) kinds way.reverse).2.reverse)) H'
def nearOf (ks : List Nat) (ps : List (List Nat)) (name : List Nat) (k : Nat) : List Nat := if k ∈ firstsOf ks ps name.reverse then stepOf (crossOf ks ps k) name k else name
def startOf (ks : List Nat) (ps : List (List Nat)) (name : List Nat) (k : Nat) : List Nat := (splitA (crossOf ks ps) (crossOf ks ps k) (nearOf ks ps name k).reverse).2.reverse
theorem splitA_yes {f : Nat → List Nat} {k : Nat} {free r : List Nat} (h : k ∈ free) : splitA f free (k :: r) = (k :: (splitA f free r).1, (splitA f free r).2) := by
  conv => lhs; unfold splitA
  exact if_pos h
theorem splitA_no {f : Nat → List Nat} {k : Nat} {free r : List Nat} (h : ¬ k ∈ free) : splitA f free (k :: r) = ((splitA f (free.filter fun o => decide (o ∈ f k)) r).1, k :: (splitA f (free.filter fun o => decide (o ∈ f k)) r).2) := by
  conv => lhs; unfold splitA
  exact if_neg h
/-! ### walls -/
def wallF (x : Addr) (k : Nat) (r : Addr) : List (Str × V) := putF "room" (.ref r) (putF "kind" (.str (tx [k])) (putF "plan" (.ref x) []))
/-- a wall stands at a; its room, which has the name m, at r -/
structure WallAt (W R : Addr) (H : Hp) (a r x : Addr) (k : Nat) (m : List Nat) : Prop where
  ex : ∃ dx, H a = some (.ins W dx (wallF x k r))
  ro : RoomAt R H r x m
theorem WallAt.same {W R : Addr} {H H' : Hp} {a r x : Addr} {k : Nat} {m : List Nat} (h : WallAt W R H a r x k m) (s : Same H H') : WallAt W R H' a r x k m := by
  obtain ⟨⟨dx, e⟩, ro⟩ := h
  exact ⟨⟨dx, s _ _ e⟩, ro.same s⟩
structure TxtW (K : PySem.W.Frag) (mg : Str → Option Value) (C R O W : Addr) : Prop extends TxtR K mg C R O where
  Wall : ClsF K mg "Wall" W
  nWp : NoAttr K W "plan"
  nWk : NoAttr K W "kind"
  nWr : NoAttr K W "room"
section
variable {P : Program} {w : World} {K : PySem.W.Frag} {mg : Str → Option Value} {base : Heap} {C R O W : Addr}
abbrev stsplit_ahead : Stmt := (top 17)
abbrev Nsplit_ahead : List Str := ["plan", "way", "kinds", "begun", "rest", "free", "at", "kind"]
theorem scsplit_ahead : FnScope Nsplit_ahead ["plan", "way", "kinds"] (defScope stsplit_ahead) := ⟨rfl, rfl, rfl, by decide +kernel, rfl, by decide +kernel, by decide +kernel⟩

theorem ok_split_ahead (F : FnAt K mg "split_ahead" stsplit_ahead) (T : TxtR K mg C R O) (D_still_free : Def P w K mg base CX0 1 "still_free" ["plan", "kinds", "kind"] (spFree C)) : Def P w K mg base CX0 2 "split_ahead" ["plan", "way", "kinds"] (spSplit C) := by
  refine F.ok scsplit_ahead (fun _ _ _ _ _ _ us hl => match us, hl with | [_, _, _], _ => rfl) (fun vs H Q E h => ?_) (fun f cdv A outer s H vs Q E hr h => ?_)
  · obtain ⟨x, ks, ps, way, kinds, rfl, _⟩ := h
    rfl
  obtain ⟨x, ks, ps, way, kinds, rfl, h1, hw, hk, hl, q⟩ := h
  have hu := hu_of hr
  have nd := scsplit_ahead.nd
  refine ⟨_, (pss_cons (ps_set (i := 3) nd rfl (Or.inl rfl) (pe_tx [] (by decide +kernel)))
      (pss_cons (ps_set (i := 4) nd rfl (Or.inl rfl) (pe_tx [] (by decide +kernel)))
      (pss_cons (ps_set (i := 5) nd rfl (Or.inl rfl) (pv 2))
      (pss_cons (ps_for PassesOwn.never rfl (pi_enumS (by rfl) T.enumerate (pa_cons (pv 1) pa_nil)) (pg_tup rfl (pgs_cons (pg_name (i := 6) nd rfl (Or.inl rfl)) (pgs_cons (pg_name (i := 7) nd rfl (Or.inl rfl)) pgs_nil)))
      (pss_cons (ps_if (pt_cmpR op_eq (pv 5) (pe_tx [] (by decide +kernel)) (nomark _))
        (pss_one (ps_ret (pe_tup (pa_cons (pv 3) (pa_cons (pe_op op_addS (pv 4) (pe_slice sl_S (pv 1) (po_some (pv 6)) po_none)) pa_nil)))))
        pss_nil)
        (pss_one (ps_if (pt_cmpR op_inS (pv 7) (pv 5) (by rfl))
        (pss_one (ps_set (i := 3) nd rfl (Or.inl rfl) (pe_op op_addS (pv 3) (pv 7))))
        (pss_cons (ps_set (i := 4) nd rfl (Or.inl rfl) (pe_op op_addS (pv 4) (pv 7)))
          (pss_one (ps_set (i := 5) nd rfl (Or.inl rfl) (pe_cd D_still_free hr pass0 (pa_cons (pv 0) (pa_cons (pv 5) (pa_cons (pv 7) pa_nil)))))))))))
      (pss_one (ps_ret (pe_tup (pa_cons (pv 3) (pa_cons (pv 4) pa_nil))))))))), ?_⟩
  refine s_start [some _, some _, some _, none, none, none, none, none] rfl ?_
  have sl := splitA_len (crossOf ks ps) way kinds
  walk_at "go"
  refine for_it (walk_enumS way) (fun i σ H' => ∃ bg rs free y z, σ = [some (.ref x), some (.str (tx way)), some (.str (tx kinds)), some (.str (tx bg)), some (.str (tx rs)), some (.str (tx free)), y, z] ∧ Same H H' ∧ free.length ≤ 1000 ∧ splitA (crossOf ks ps) kinds way = (bg ++ (splitA (crossOf ks ps) free (way.drop i)).1, rs ++ (splitA (crossOf ks ps) free (way.drop i)).2)) ⟨[], [], kinds, _, _, rfl, Same.refl _, hk, rfl⟩ (fun _ _ _ _ _ => trivial) ?_ ?_
  · rintro i v σ H2 H3 hi ⟨bg, rs, free, y, z, rfl, s2, lf, e2⟩ ⟨t, c, rfl, ht, rfl, hc⟩
    have s3 : Same H (upd H2 t (.tup [.int (i : Nat), .str (tx [c])])) := s2.trans (Same.new ht)
    refine v_gTup2 rfl upd_same ?_
    generalize upd H2 t (.tup [.int (i : Nat), .str (tx [c])]) = H4 at s3 ⊢
    have l1 : bg.length + rs.length ≤ 100000 := by
      have a1 := congrArg (fun p => p.1.length) e2
      have a2 := congrArg (fun p => p.2.length) e2
      simp only [List.length_append] at a1 a2
      omega
    have hd : way.drop i = c :: way.drop (i + 1) := by
      rw [List.drop_eq_getElem_cons hi]
      congr 1
      rw [List.getElem?_eq_getElem hi] at hc
      injection hc
    walk_at "go"
    rw [dec_tx]
    refine if_dec (fun c1 => ?_) (fun c1 => ?_)
    · subst c1
      rw [splitA_nil, List.append_nil] at e2
      walk_at "go"
      refine v_slFrom (by omega) (by omega) ?_
      have e3 : way.drop ((i : Nat) : Int).toNat = way.drop i := rfl
      rw [e3]
      have l2 : rs.length + (way.drop i).length ≤ 1000000 := by rw [List.length_drop]; omega
      walk_at "go"
      intro p H5 hp s5 e5
      refine q p H5 ?_ (s3.trans s5) ?_
      · exact L2.Same.free s3 hp
      · rw [e2]
        exact e5
    walk_at "go"
    refine if_dec (fun c2 => ?_) (fun c2 => ?_)
    · have l3 : bg.length + [c].length ≤ 1000000 := by rw [List.length_singleton]; omega
      walk_at "go"
      refine ⟨bg ++ [c], rs, free, _, _, rfl, s3, lf, ?_⟩
      rw [e2, hd, splitA_yes c2, List.append_assoc]
      rfl
    · have l3 : rs.length + [c].length ≤ 1000000 := by rw [List.length_singleton]; omega
      walk_at "go"
      have hc2 : c ∈ ks := hw c (List.mem_of_getElem? hc)
      refine ⟨x, ks, ps, free, c, rfl, h1.same s3, hc2, lf, fun H5 s5 => ?_⟩
      have lf2 := filt_len (p := fun o => decide (o ∈ crossOf ks ps c)) (l := free)
      refine ⟨bg, rs ++ [c], _, _, _, rfl, s3.trans s5, by omega, ?_⟩
      rw [e2, hd, splitA_no c2, List.append_assoc]
      rfl
  · rintro σ H2 ⟨bg, rs, free, y, z, rfl, s2, lf, e2⟩
    rw [List.drop_length] at e2
    have e2 : splitA (crossOf ks ps) kinds way = (bg, rs) := by
      rw [e2]
      show (bg ++ [], rs ++ []) = _
      rw [List.append_nil, List.append_nil]
    walk_at "go"
    intro p H5 hp s5 e5
    refine q p H5 ?_ (s2.trans s5) ?_
    · exact L2.Same.free s2 hp
    · rw [e2]
      exact e5
abbrev stwithout_end : Stmt := (top 18)
abbrev Nwithout_end : List Str := ["plan", "way", "kinds", "begun", "rest"]
theorem scwithout_end : FnScope Nwithout_end ["plan", "way", "kinds"] (defScope stwithout_end) := ⟨rfl, rfl, rfl, by decide +kernel, rfl, by decide +kernel, by decide +kernel⟩

theorem ok_without_end (F : FnAt K mg "without_end" stwithout_end) (D_split_ahead : Def P w K mg base CX0 2 "split_ahead" ["plan", "way", "kinds"] (spSplit C)) : Def P w K mg base CX0 3 "without_end" ["plan", "way", "kinds"] (spNoEnd C) := by
  refine F.ok scwithout_end (fun _ _ _ _ _ _ us hl => match us, hl with | [_, _, _], _ => rfl) (fun vs H Q E h => ?_) (fun f cdv A outer s H vs Q E hr h => ?_)
  · obtain ⟨x, ks, ps, way, kinds, rfl, _⟩ := h
    rfl
  obtain ⟨x, ks, ps, way, kinds, rfl, h1, hw, hk, hl, q⟩ := h
  have hu := hu_of hr
  have nd := scwithout_end.nd
  refine ⟨_, (pss_cons (ps_asg (pe_cd D_split_ahead hr pass0 (pa_cons (pv 0) (pa_cons (pe_revS (pv 1)) (pa_cons (pv 2) pa_nil)))) (pg_tup rfl (pgs_cons (pg_name (i := 3) nd rfl (Or.inl rfl)) (pgs_cons (pg_name (i := 4) nd rfl (Or.inl rfl)) pgs_nil))))
      (pss_one (ps_ret (pe_revS (pv 4))))), ?_⟩
  refine s_start [some _, some _, some _, none, none] rfl ?_
  have sl := splitA_len (crossOf ks ps) way.reverse kinds
  rw [List.length_reverse] at sl
  walk_at "go"
  refine ⟨x, ks, ps, way.reverse, kinds, rfl, h1, fun c hc => hw c (List.mem_reverse.mp hc), hk, by rw [List.length_reverse]; exact hl, fun p H2 hp s2 e2 => ?_⟩
  refine v_gTup2 rfl e2 ?_
  have l3 : (splitA (crossOf ks ps) kinds way.reverse).2.length ≤ 1000000 := by omega
  walk_at "go"
  exact q H2 s2
end
/-! ### of a drawn floor -/
section
variable {K : PySem.W.Frag} {H : Hp} {Q : VK} {C R W r x : Addr} {ls : List Nat} {fn : Nat → List Nat} {a : List Nat} {k : Nat} {E : XK}
end
end
section
open PySem PySem.Spec L2
def kindsIn (ks kinds : List Nat) : List Nat := ks.filter fun k => decide (k ∈ kinds)
def spNeedKinds (C : Addr) : Sp := fun vs H Q _ => ∃ (x : Addr) (ks : List Nat) (ps : List (List Nat)) (kinds : List Nat), vs = [.ref x, .str (tx kinds)] ∧ PlanAt C H x ks ps ∧ (∀ c ∈ kinds, c ∈ ks) ∧ kinds.Nodup ∧ kinds.length ≤ 1000 ∧ ks.length ≤ 1000 ∧ ∀ H', Same H H' → Q (.str (tx (kindsIn ks kinds))) H'
def allCross (ks : List Nat) (ps : List (List Nat)) (a b : List Nat) : Bool := a.all fun i => b.all fun j => decide (i = j ∨ j ∈ crossOf ks ps i)
def spAllCross (C : Addr) : Sp := fun vs H Q _ => ∃ (x : Addr) (ks : List Nat) (ps : List (List Nat)) (a b : List Nat), vs = [.ref x, .str (tx a), .str (tx b)] ∧ PlanAt C H x ks ps ∧ (∀ c ∈ a, c ∈ ks) ∧ a.length ≤ 900 ∧ b.length ≤ 900 ∧ ∀ H', Same H H' → Q (.bl (allCross ks ps a b)) H'
theorem flatMap_congr16 {α β : Type} {l : List α} {f g : α → List β} (h : ∀ a ∈ l, f a = g a) : l.flatMap f = l.flatMap g := by
  induction l with
  | nil => rfl
  | cons a r ih => rw [List.flatMap_cons, List.flatMap_cons, h a (.head _), ih fun b hb => h b (.tail _ hb)]
theorem lc2_out16 {te0 t1 te : TE} {tt tt1 : TT} {g g1 : TG} {vs vs1 : List Nat} {σ : L2.St} {H : Hp} {Q : VK} {la : List Nat} (h : ∀ R : VK, R (.str (tx la)) H → te0 σ H R) (q : tLc2 (iStr (tC (.str (tx la)))) g tt (iStr t1) g1 tt1 te vs vs1 σ H Q) : tLc2 (iStr te0) g tt (iStr t1) g1 tt1 te vs vs1 σ H Q := h _ q
section
variable {P : Program} {w : World} {K : PySem.W.Frag} {mg : Str → Option Value} {base : Heap} {C R O : Addr}
abbrev stneed_kinds : Stmt := (top 33)
abbrev Nneed_kinds : List Str := ["plan", "kinds", "index", "letter", "kind"]
theorem scneed_kinds : FnScope Nneed_kinds ["plan", "kinds"] (defScope stneed_kinds) := ⟨rfl, rfl, rfl, by decide +kernel, rfl, by decide +kernel, by decide +kernel⟩

theorem ok_need_kinds (F : FnAt K mg "need_kinds" stneed_kinds) (T : TxtR K mg C R O) (D_is_kind : Def P w K mg base CX0 1 "is_kind" ["plan", "value"] (spIsKind C)) : Def P w K mg base CX0 2 "need_kinds" ["plan", "kinds"] (spNeedKinds C) := by
  refine F.ok scneed_kinds (fun _ _ _ _ _ _ us hl => match us, hl with | [_, _], _ => rfl) (fun vs H Q E h => ?_) (fun f cdv A outer s H vs Q E hr h => ?_)
  · obtain ⟨x, ks, ps, kinds, rfl, _⟩ := h
    rfl
  obtain ⟨x, ks, ps, kinds, rfl, h1, hk, hn, hl, hl', q⟩ := h
  have hu := hu_of hr
  have nd := scneed_kinds.nd
  refine ⟨_, (pss_cons (ps_if (pt_not (pt_val (pe_callB (c_isiK (K := K) rfl) (by rfl) T.isinstance (by decide +kernel) (pa_cons (pv 1) (pa_cons (pe_bltn (v := .ty "str") (u := .type "str") (by rfl) T.str (by decide +kernel) rfl) pa_nil)))))
      (pss_one ps_never)
      pss_nil)
      (pss_cons (ps_for PassesOwn.never rfl (pi_enumS (by rfl) T.enumerate (pa_cons (pv 1) pa_nil)) (pg_tup rfl (pgs_cons (pg_name (i := 2) nd rfl (Or.inl rfl)) (pgs_cons (pg_name (i := 3) nd rfl (Or.inl rfl)) pgs_nil)))
      (pss_cons (ps_if (pt_not (pt_val (pe_cd D_is_kind hr pass0 (pa_cons (pv 0) (pa_cons (pv 3) pa_nil)))))
        (pss_one ps_never)
        pss_nil)
        (pss_one (ps_if (pt_cmpR op_inS (pv 3) (pe_slice sl_S (pv 1) po_none (po_some (pv 2))) (by rfl))
        (pss_one ps_never)
        pss_nil))))
      (pss_one (ps_ret (pe_joinK (K := K) rfl (pe_tx [] (by decide +kernel)) (pe_lc (own := [("kind", 4)]) (g := gName 4) (by rfl) nd (pi_str (pe_flK (K := K) rfl (pv 0) rfl)) (blkOk_by (own := [("kind", 4)]) (N := Nneed_kinds) (sc := defScope stneed_kinds) (by decide +kernel)) (fun _ _ _ _ _ => (pg_name (i := 4) nd rfl (Or.inl rfl))) (fun _ _ _ _ _ => (pts_one (pt_cmpR op_inS (pv 4) (pv 1) (by rfl)))) (fun _ _ _ _ _ => (pv 4)))))))), ?_⟩
  refine s_start [some _, some _, none, none, none] rfl ?_
  walk_at "go"
  refine for_it (walk_enumS kinds) (fun i σ H' => ∃ y z, σ = [some (.ref x), some (.str (tx kinds)), y, z, none] ∧ Same H H') ⟨_, _, rfl, Same.refl _⟩ (fun _ _ _ _ _ => trivial) ?_ ?_
  · rintro i v σ H2 H3 hi ⟨y, z, rfl, s2⟩ ⟨t, c, rfl, ht, rfl, hc⟩
    have s3 : Same H (upd H2 t (.tup [.int (i : Nat), .str (tx [c])])) := s2.trans (Same.new ht)
    refine v_gTup2 rfl upd_same ?_
    walk_at "go"
    refine ⟨x, ks, ps, c, rfl, h1.same s3, hk c (List.mem_of_getElem? hc), ?_⟩
    walk_at "go"
    refine v_slTo (by omega) (by omega) ?_
    walk_at "go"
    have hi' : i < kinds.length := (List.getElem?_eq_some_iff.mp hc).1
    have n1 : c ∉ kinds.take ((i : Nat) : Int).toNat := fun z => by
      rw [Int.toNat_natCast] at z
      obtain ⟨j, hj, e⟩ := List.getElem_of_mem z
      rw [List.length_take] at hj
      rw [List.getElem_take] at e
      have e2 := (List.getElem?_eq_some_iff.mp hc).2
      have e3 := (List.getElem_inj hn).mp (e.trans e2.symm)
      omega
    refine if_dec (fun z => (n1 z).elim) (fun _ => ?_)
    walk_at "go"
    exact ⟨_, _, rfl, s3⟩
  · rintro σ H2 ⟨y, z, rfl, s2⟩
    obtain ⟨dx, t', d, a1, a2, a3⟩ := h1.ex
    walk_at "go"
    refine v_fld (s2 _ _ a1) T.Plan.cl T.nK planF_k ?_
    walk_at "go"
    refine v_lcS (l := ks) (b := fun c => decide (c ∈ kinds)) (f := fun c => V.str (tx [c])) (by omega) (fun c _ H1 s1 R r => ?_) (fun c _ _ H1 s1 R r => ?_) (fun D H1 hD s1 e1 => ?_)
    · walk_at "go"
      exact r H1 (Same.refl _)
    · walk_at "go"
      exact r H1 (Same.refl _)
    walk_at "go"
    rw [strs_ones] at e1
    have hl2 := filt_len (p := fun c => decide (c ∈ kinds)) (l := ks)
    refine v_join e1 (by rw [flat_ones]; omega) ?_
    rw [flat_ones]
    exact q H1 (s2.trans s1)
abbrev stall_cross : Stmt := (top 34)
abbrev Nall_cross : List Str := ["plan", "kinds", "others", "one", "two"]
theorem scall_cross : FnScope Nall_cross ["plan", "kinds", "others"] (defScope stall_cross) := ⟨rfl, rfl, rfl, by decide +kernel, rfl, by decide +kernel, by decide +kernel⟩

theorem ok_all_cross (F : FnAt K mg "all_cross" stall_cross) (T : TxtR K mg C R O) : Def P w K mg base CX0 1 "all_cross" ["plan", "kinds", "others"] (spAllCross C) := by
  refine F.ok scall_cross (fun _ _ _ _ _ _ us hl => match us, hl with | [_, _, _], _ => rfl) (fun vs H Q E h => ?_) (fun f cdv A outer s H vs Q E hr h => ?_)
  · obtain ⟨x, ks, ps, a, b, rfl, _⟩ := h
    rfl
  obtain ⟨x, ks, ps, a, b, rfl, h1, hk, l1, l2, q⟩ := h
  have hu := hu_of hr
  have nd := scall_cross.nd
  refine ⟨_, (pss_one (ps_ret (pe_callB (c_allK (K := K) rfl rfl) (by rfl) T.all (by decide +kernel) (pa_cons (pe_lc2 (own := [("one", 3), ("two", 4)]) (vs1 := [4]) (by rfl) nd (pi_str (pv 1)) (blkOk_by (own := [("one", 3), ("two", 4)]) (N := Nall_cross) (sc := defScope stall_cross) (by decide +kernel)) (by decide) (fun _ _ _ _ _ => (pg_name (i := 3) nd rfl (Or.inl rfl))) (fun _ _ _ _ _ => pts_nil) (fun _ _ _ _ _ => (pi_str (pv 2))) (fun _ _ _ _ _ => (pg_name (i := 4) nd rfl (Or.inl rfl))) (fun _ _ _ _ _ => pts_nil) (fun _ _ _ _ _ => (pe_or (pe_cmpR op_eq (pv 3) (pv 4) (nomark _)) (pe_one (pe_cmpR op_inS (pv 4) (pe_dget hu (pe_flK (K := K) rfl (pv 0) rfl) (pv 3) (fun _ _ => rfl)) (by rfl)))))) pa_nil)))), ?_⟩
  refine s_start [some _, some _, some _, none, none] rfl ?_
  obtain ⟨dx, t, d, a1, a2, a3⟩ := h1.ex
  walk_at "go"
  refine lc2_out16 (la := a) (fun R r => ?_) ?_
  · walk_at "go"
    exact r
  refine v_lc2S (la := a) (lb := b) (b := fun _ _ => true) (f := fun p q => V.bl (decide (p = q ∨ q ∈ crossOf ks ps p))) (by decide) (Nat.lt_of_le_of_lt (Nat.mul_le_mul l1 l2) (by decide)) (fun c _ Ha sa R r => ?_) (fun c d _ _ Ha sa R r => ?_) (fun c d hc hd _ Ha sa R r => ?_) (fun D H2 hD s2 e2 => ?_)
  · walk_at "go"
    exact r
  · walk_at "go"
    exact r Ha (Same.refl _)
  · walk_at "go"
    refine if_dec (fun e => ?_) (fun e => ?_)
    · have e' : c = d := by
        have z : tx [c] = tx [d] := by injection e
        simpa using tx_inj.mp z
      have r' := r Ha (Same.refl _)
      rw [decide_eq_true (Or.inl e')] at r'
      exact r'
    · have e' : ¬ c = d := fun z => e (by rw [z])
      walk_at "go"
      refine v_fld (sa _ _ a1) T.Plan.cl T.nO planF_o ?_
      walk_at "go"
      refine v_dget (dget_let (g := fun k => V.str (tx (crossOf ks ps k))) (sa _ _ a3) (hk c hc)) ?_
      walk_at "go"
      have e2 : decide (d ∈ crossOf ks ps c) = decide (c = d ∨ d ∈ crossOf ks ps c) := decide_eq_decide.mpr (by simp [e'])
      rw [e2]
      exact r Ha (Same.refl _)
  have e2 : H2 D = some (.lst ((a.flatMap fun p => b.map fun q => decide (p = q ∨ q ∈ crossOf ks ps p)).map V.bl)) := by
    rw [e2, List.map_flatMap]
    congr 2
    refine flatMap_congr16 fun c _ => ?_
    rw [filter_yes, List.map_map]
    rfl
  have all0 : (a.flatMap fun p => b.map fun q => decide (p = q ∨ q ∈ crossOf ks ps p)).all id = allCross ks ps a b := by
    rw [Bool.eq_iff_iff, List.all_eq_true]
    unfold allCross
    rw [List.all_eq_true]
    constructor
    · intro z p hp
      rw [List.all_eq_true]
      exact fun q hq => z _ (List.mem_flatMap.mpr ⟨p, hp, List.mem_map.mpr ⟨q, hq, rfl⟩⟩)
    · intro z y hy
      obtain ⟨p, hp, hy⟩ := List.mem_flatMap.mp hy
      obtain ⟨q, hq, rfl⟩ := List.mem_map.mp hy
      exact List.all_eq_true.mp (z p hp) q hq
  walk_at "go"
  refine v_all e2 ?_
  rw [all0]
  exact q H2 s2
end
end
section
open PySem PySem.Spec L2
/-! ### blocks -/
def blockF (x : Addr) (kinds : List Nat) (r : Addr) (v : V) : List (Str × V) := putF "many" v (putF "room" (.ref r) (putF "kinds" (.str (tx kinds)) (putF "plan" (.ref x) [])))
theorem nbpk : ¬ (("plan" : Str) = "kinds") := by decide +kernel
theorem nbpr : ¬ (("plan" : Str) = "room") := by decide +kernel
theorem nbpm : ¬ (("plan" : Str) = "many") := by decide +kernel
theorem nbkr : ¬ (("kinds" : Str) = "room") := by decide +kernel
theorem nbkm : ¬ (("kinds" : Str) = "many") := by decide +kernel
theorem nbrm : ¬ (("room" : Str) = "many") := by decide +kernel
theorem blockF_p {x r : Addr} {kinds : List Nat} {v : V} : (blockF x kinds r v).lookup ("plan" : Str) = some (.ref x) := by
  unfold blockF
  rw [lookup_putF, if_neg nbpm, lookup_putF, if_neg nbpr, lookup_putF, if_neg nbpk, lookup_putF, if_pos rfl]
theorem blockF_k {x r : Addr} {kinds : List Nat} {v : V} : (blockF x kinds r v).lookup ("kinds" : Str) = some (.str (tx kinds)) := by
  unfold blockF
  rw [lookup_putF, if_neg nbkm, lookup_putF, if_neg nbkr, lookup_putF, if_pos rfl]
theorem blockF_r {x r : Addr} {kinds : List Nat} {v : V} : (blockF x kinds r v).lookup ("room" : Str) = some (.ref r) := by
  unfold blockF
  rw [lookup_putF, if_neg nbrm, lookup_putF, if_pos rfl]
theorem blockF_m {x r : Addr} {kinds : List Nat} {v : V} : (blockF x kinds r v).lookup ("many" : Str) = some v := by
  unfold blockF
  rw [lookup_putF, if_pos rfl]
/-- how many rooms a block has -/
def manyOf (ks : List Nat) (ps : List (List Nat)) (kinds : List Nat) : V := if allCross ks ps kinds kinds = true then .int (2 ^ kinds.length) else .non
/-- a block stands at a; its first room, which has the name m, at r -/
structure BlockAt (B R : Addr) (H : Hp) (a r x : Addr) (kinds m : List Nat) (v : V) : Prop where
  ex : ∃ dx, H a = some (.ins B dx (blockF x kinds r v))
  ro : RoomAt R H r x m
theorem BlockAt.same {B R : Addr} {H H' : Hp} {a r x : Addr} {kinds m : List Nat} {v : V} (h : BlockAt B R H a r x kinds m v) (s : Same H H') : BlockAt B R H' a r x kinds m v := by
  obtain ⟨⟨dx, e⟩, ro⟩ := h
  exact ⟨⟨dx, s _ _ e⟩, ro.same s⟩
structure TxtB (K : PySem.W.Frag) (mg : Str → Option Value) (C R O B : Addr) : Prop extends TxtR K mg C R O where
  Block : ClsF K mg "Block" B
  nBp : NoAttr K B "plan"
  nBk : NoAttr K B "kinds"
  nBr : NoAttr K B "room"
  nBm : NoAttr K B "many"
/-- the first room of the block at name along kinds -/
def baseOf (ks : List Nat) (ps : List (List Nat)) (name kinds : List Nat) : List Nat := (splitA (crossOf ks ps) kinds name.reverse).2.reverse
def spBlock0 (C R B : Addr) : Sp := fun vs H Q _ => ∃ (a dx r x : Addr) (ks : List Nat) (ps : List (List Nat)) (name kinds : List Nat), vs = [.ref a, .ref r, .str (tx kinds)] ∧ H a = some (.ins B dx []) ∧ RoomAt R H r x name ∧ PlanAt C H x ks ps ∧ (∀ c ∈ name, c ∈ ks) ∧ (∀ c ∈ kinds, c ∈ ks) ∧ kinds.Nodup ∧ kinds.length ≤ 900 ∧ ks.length ≤ 900 ∧ name.length ≤ 2000 ∧
  ∀ r' H', Keep a H H' → BlockAt B R H' a r' x (kindsIn ks kinds) (joinOf ks ps [] (baseOf ks ps name (kindsIn ks kinds))) (manyOf ks ps (kindsIn ks kinds)) → Q .non H'
def spBlock (C R B : Addr) : Sp := fun vs H Q _ => ∃ (r x : Addr) (ks : List Nat) (ps : List (List Nat)) (name kinds : List Nat), vs = [.ref r, .str (tx kinds)] ∧ RoomAt R H r x name ∧ PlanAt C H x ks ps ∧ (∀ c ∈ name, c ∈ ks) ∧ (∀ c ∈ kinds, c ∈ ks) ∧ kinds.Nodup ∧ kinds.length ≤ 900 ∧ ks.length ≤ 900 ∧ name.length ≤ 2000 ∧
  ∀ a r' H', H a = none → Same H H' → BlockAt B R H' a r' x (kindsIn ks kinds) (joinOf ks ps [] (baseOf ks ps name (kindsIn ks kinds))) (manyOf ks ps (kindsIn ks kinds)) → Q (.ref a) H'
theorem conv_block (C R B : Addr) : Conv B (spBlock0 C R B) (spBlock C R B) := by
  rintro vs H Q E ⟨r, x, ks, ps, name, kinds, rfl, hr, hp, h1, h2, h3, h4, h5, h6, q⟩ a dx hx hdx hne
  have s0 : Same H (upd (upd H dx (.own a)) a (.ins B dx [])) := fun b o hb => by
    rw [upd_ne (ne_of_none hb hx), upd_ne (ne_of_none hb hdx)]
    exact hb
  refine ⟨a, dx, r, x, ks, ps, name, kinds, rfl, upd_same, hr.same s0, hp.same s0, h1, h2, h3, h4, h5, h6, fun r' H' s' z => ⟨rfl, q a r' H' hx (fun b o hb => ?_) z⟩⟩
  exact s' b o (s0 _ _ hb) (ne_of_none hb hx)
def spBlockEq (C R B : Addr) : Sp := fun vs H Q _ => ∃ (a r x : Addr) (kinds m : List Nat) (v : V) (b r' y : Addr) (kinds' n : List Nat) (v' : V) (e : Bool), vs = [.ref a, .ref b] ∧ BlockAt B R H a r x kinds m v ∧ BlockAt B R H b r' y kinds' n v' ∧ Rooms2 C R H r x m r' y n e ∧ Q (.bl ((e && decide (m = n)) && decide (kinds = kinds'))) H
section
variable {P : Program} {w : World} {K : PySem.W.Frag} {mg : Str → Option Value} {base : Heap} {C R O B : Addr}
abbrev stBlock_init : Stmt := (inClass (top 35) 0)
abbrev NBlock_init : List Str := ["self", "room", "kinds"]
theorem scBlock_init : FnScope NBlock_init ["self", "room", "kinds"] (defScope stBlock_init) := ⟨rfl, rfl, rfl, by decide +kernel, rfl, by decide +kernel, by decide +kernel⟩

theorem ok_Block (F : MAt K B "__init__" "Block.__init__" stBlock_init) (T : TxtB K mg C R O B) (D_need_kinds : Def P w K mg base CX0 2 "need_kinds" ["plan", "kinds"] (spNeedKinds C)) (D_all_cross : Def P w K mg base CX0 1 "all_cross" ["plan", "kinds", "others"] (spAllCross C)) (D_without_end : Def P w K mg base CX0 3 "without_end" ["plan", "way", "kinds"] (spNoEnd C)) (C_Room : CDef P w K mg base CX0 3 "Room" R (spRoom C R)) :
    CMk0 P w K mg base CX0 5 "Block" B (spBlock C R B) ["self", "room", "kinds"] "Block.__init__" stBlock_init := by
  refine F.make0 (sp0 := spBlock0 C R B) T.Block scBlock_init (fun _ _ _ _ _ _ us hl => match us, hl with | [_, _, _], _ => rfl) (fun vs H Q E h => ?_) (conv_block C R B) (fun f cdv A outer s H vs Q E hr h => ?_)
  · obtain ⟨a, dx, r, x, ks, ps, name, kinds, rfl, _⟩ := h
    rfl
  obtain ⟨a, dx, r, x, ks, ps, name, kinds, rfl, hx, hr', hp, h1, h2, h3, h4, h5, h6, q⟩ := h
  have hu := hu_of hr
  have nd := scBlock_init.nd
  replace D_need_kinds := D_need_kinds.mono (show 2 ≤ 4 by decide)
  replace D_all_cross := D_all_cross.mono (show 1 ≤ 4 by decide)
  replace D_without_end := D_without_end.mono (show 3 ≤ 4 by decide)
  refine ⟨_, (pss_cons (ps_flK (K := K) rfl (pv 0) (pe_flK (K := K) rfl (pv 1) rfl) rfl)
      (pss_cons (ps_flK (K := K) rfl (pv 0) (pe_cd D_need_kinds hr pass0 (pa_cons (pe_flK (K := K) rfl (pv 1) rfl) (pa_cons (pv 2) pa_nil))) rfl)
      (pss_cons (ps_flK (K := K) rfl (pv 0) (pe_mk C_Room hr pass0 (pa_cons (pe_flK (K := K) rfl (pv 1) rfl) (pa_cons (pe_cd D_without_end hr pass0 (pa_cons (pe_flK (K := K) rfl (pv 1) rfl) (pa_cons (pe_flK (K := K) rfl (pv 1) rfl) (pa_cons (pe_flK (K := K) rfl (pv 0) rfl) pa_nil)))) pa_nil))) rfl)
      (pss_one (ps_flK (K := K) rfl (pv 0) (pe_ifExp (pt_val (pe_cd D_all_cross hr pass0 (pa_cons (pe_flK (K := K) rfl (pv 1) rfl) (pa_cons (pe_flK (K := K) rfl (pv 0) rfl) (pa_cons (pe_flK (K := K) rfl (pv 0) rfl) pa_nil))))) (pe_op op_shl pe_int (pe_callB c_lenS (by rfl) T.len PySem.boot_len (pa_cons (pe_flK (K := K) rfl (pv 0) rfl) pa_nil))) pe_non) rfl))))), ?_⟩
  refine s_start [some _, some _, some _] rfl ?_
  obtain ⟨dr, er⟩ := hr'.ex
  have nra : r ≠ a := ne_of er hx (by intro z; injection z with _ _ z; cases z)
  walk_at "go"
  refine v_fld er T.Room.cl T.nPl roomF_p ?_
  walk_at "go"
  refine v_sfld hx T.Block.cl T.nBp (by decide) fun H1 s1 e1 => ?_
  walk_at "go"
  have er1 := s1 _ _ er nra
  have pk : ∀ {H H' : Hp} {fs : List (Str × V)}, Keep a H H' → PlanAt C H x ks ps → H a = some (.ins B dx fs) → x ≠ a → PlanAt C H' x ks ps := by
    intro H H' fs s1 hp hx nx
    obtain ⟨dx', t', d, a1, a2, a3⟩ := hp.ex
    exact ⟨dx', t', d, s1 _ _ a1 nx, s1 _ _ a2 (ne_of a2 hx (by intro z; cases z)), s1 _ _ a3 (ne_of a3 hx (by intro z; cases z))⟩
  have nxa : x ≠ a := by
    obtain ⟨dx', t', d, a1, a2, a3⟩ := hp.ex
    exact ne_of a1 hx (by intro z; injection z with _ _ z; cases z)
  have hp1 := pk s1 hp hx nxa
  refine v_fld er1 T.Room.cl T.nPl roomF_p ?_
  walk_at "go"
  have kl : (kindsIn ks kinds).length ≤ 900 := Nat.le_trans (List.length_filter_le _ _) h5
  refine ⟨x, ks, ps, kinds, rfl, hp1, h2, h3, by omega, by omega, fun H2 s2 => ?_⟩
  have e2 := s2 _ _ e1
  have er2 := s2 _ _ er1
  have hp2 := hp1.same s2
  walk_at "go"
  refine v_sfld e2 T.Block.cl T.nBk (by show 1 < 1000; decide) fun H3 s3 e3 => ?_
  walk_at "go"
  have er3 := s3 _ _ er2 nra
  have hp3 := pk s3 hp2 e2 nxa
  refine v_fld er3 T.Room.cl T.nPl roomF_p ?_
  walk_at "go"
  refine v_fld er3 T.Room.cl T.nPl roomF_p ?_
  walk_at "go"
  refine v_fld er3 T.Room.cl T.nNm roomF_n ?_
  walk_at "go"
  have lk3 : (putF "kinds" (V.str (tx (kindsIn ks kinds))) (putF "plan" (V.ref x) [])).lookup ("kinds" : Str) = some (V.str (tx (kindsIn ks kinds))) := by
    rw [lookup_putF, if_pos rfl]
  refine v_fld e3 T.Block.cl T.nBk lk3 ?_
  walk_at "go"
  refine ⟨x, ks, ps, name, kindsIn ks kinds, rfl, hp3, h1, by omega, by omega, fun H4 s4 => ?_⟩
  walk_at "go"
  have sm : ∀ c ∈ baseOf ks ps name (kindsIn ks kinds), c ∈ ks := fun c hc => h1 c (List.mem_reverse.mp (splitA_mem2 _ _ _ c (List.mem_reverse.mp hc)))
  have sl : (baseOf ks ps name (kindsIn ks kinds)).length ≤ name.length := by
    unfold baseOf
    have z := splitA_len (crossOf ks ps) name.reverse (kindsIn ks kinds)
    rw [List.length_reverse] at *
    omega
  refine ⟨x, ks, ps, _, rfl, hp3.same s4, sm, by show (baseOf _ _ _ _).length ≤ _; omega, fun r' H5 hr5 s5 ro5 => ?_⟩
  have e5 := s5 _ _ (s4 _ _ e3)
  walk_at "go"
  refine v_sfld e5 T.Block.cl T.nBr (by show 2 < 1000; decide) fun H6 s6 e6 => ?_
  obtain ⟨dr5, er5⟩ := ro5.ex
  have nr5 : r' ≠ a := (ne_of_none (s4 _ _ e3) hr5).symm
  have er6 := s6 _ _ (s5 _ _ (s4 _ _ er3)) nra
  have hp6 := pk s6 ((hp3.same s4).same s5) e5 nxa
  have lk6 : (putF "room" (V.ref r') (putF "kinds" (V.str (tx (kindsIn ks kinds))) (putF "plan" (V.ref x) []))).lookup ("kinds" : Str) = some (V.str (tx (kindsIn ks kinds))) := by
    rw [lookup_putF, if_neg nbkr, lookup_putF, if_pos rfl]
  walk_at "go"
  refine v_fld er6 T.Room.cl T.nPl roomF_p ?_
  walk_at "go"
  refine v_fld e6 T.Block.cl T.nBk lk6 ?_
  walk_at "go"
  refine v_fld e6 T.Block.cl T.nBk lk6 ?_
  walk_at "go"
  have km : ∀ c ∈ kindsIn ks kinds, c ∈ ks := fun c hc => (List.mem_filter.mp hc).1
  refine ⟨x, ks, ps, _, _, rfl, hp6, km, kl, kl, fun H7 s7 => ?_⟩
  have e7 := s7 _ _ e6
  have fin : ∀ {v : V} {H8 : Hp}, Keep a H7 H8 → H8 a = some (.ins B dx (blockF x (kindsIn ks kinds) r' v)) → manyOf ks ps (kindsIn ks kinds) = v → Q .non H8 := fun {v H8} s8 e8 em => by
    refine q r' H8 (fun b o hb nb => s8 _ _ (s7 _ _ (s6 _ _ (s5 _ _ (s4 _ _ (s3 _ _ (s2 _ _ (s1 _ _ hb nb)) nb))) nb)) nb) ⟨⟨dx, by rw [em]; exact e8⟩, ⟨dr5, s8 _ _ (s7 _ _ (s6 _ _ er5 nr5)) nr5⟩⟩
  walk_at "go"
  refine if_bool (fun c => ?_) (fun c => ?_)
  · walk_at "go"
    refine v_fld e7 T.Block.cl T.nBk lk6 ?_
    walk_at "go"
    · exact ⟨by omega, by omega, by decide⟩
    walk_at "go"
    refine v_sfld e7 T.Block.cl T.nBm (by show 3 < 1000; decide) fun H8 s8 e8 => ?_
    refine fin s8 e8 ?_
    unfold manyOf
    rw [if_pos c, Int.one_mul, Int.toNat_natCast]
  · walk_at "go"
    refine v_sfld e7 T.Block.cl T.nBm (by show 3 < 1000; decide) fun H8 s8 e8 => ?_
    refine fin s8 e8 ?_
    unfold manyOf
    exact if_neg (by rw [c]; decide)
abbrev stBlock_eq : Stmt := (inClass (top 35) 2)
abbrev NBlock_eq : List Str := ["self", "other"]
theorem scBlock_eq : FnScope NBlock_eq ["self", "other"] (defScope stBlock_eq) := ⟨rfl, rfl, rfl, by decide +kernel, rfl, by decide +kernel, by decide +kernel⟩

theorem ok_Block_eq (F : MAt K B "__eq__" "Block.__eq__" stBlock_eq) (T : TxtB K mg C R O B) (M_Room_eq : MDef P w K mg base CX0 2 R "__eq__" ["self", "other"] (spRoomEq C R)) : MDef P w K mg base CX0 3 B "__eq__" ["self", "other"] (spBlockEq C R B) := by
  refine F.ok scBlock_eq (fun _ _ _ _ _ _ us hl => match us, hl with | [_, _], _ => rfl) (fun vs H Q E h => ?_) (fun f cdv A outer s H vs Q E hr h => ?_)
  · obtain ⟨a, r, x, k, m, v, b, r', y, j, n, v', e, rfl, _⟩ := h
    rfl
  obtain ⟨a, r, x, k, m, v, b, r', y, j, n, v', e, rfl, ⟨⟨dx, e1⟩, ro1⟩, ⟨⟨dy, e2⟩, ro2⟩, rr, q⟩ := h
  have hu := hu_of hr
  have nd := scBlock_eq.nd
  refine ⟨_, (pss_one (ps_ret (pe_and (pe_callB (c_isiK (K := K) rfl) (by rfl) T.isinstance (by decide +kernel) (pa_cons (pv 1) (pa_cons (pe_globC T.Block.at) pa_nil))) (pe_and (pe_cmpR (op_cmpM (op := .Eq) (fun _ _ => rfl) M_Room_eq hr pass0) (pe_flK (K := K) rfl (pv 0) rfl) (pe_flK (K := K) rfl (pv 1) rfl) (nomark _)) (pe_one (pe_cmpR op_eq (pe_flK (K := K) rfl (pv 0) rfl) (pe_flK (K := K) rfl (pv 1) rfl) (nomark _))))))), ?_⟩
  refine s_start [some _, some _] rfl ?_
  obtain ⟨d1, f1⟩ := ro1.ex
  obtain ⟨d2, f2⟩ := ro2.ex
  walk_at "go"
  refine v_isiC T.Block e2 ?_
  walk_at "go"
  refine v_fld e1 T.Block.cl T.nBr blockF_r ?_
  walk_at "go"
  refine v_fld e2 T.Block.cl T.nBr blockF_r ?_
  walk_at "go"
  refine v_M2 f1 f2 ⟨r, x, m, r', y, n, e, rfl, rr, ?_⟩
  walk_at "go"
  refine if_bool (fun c1 => ?_) (fun c1 => ?_)
  · rw [c1, Bool.true_and] at q
    walk_at "go"
    refine v_fld e1 T.Block.cl T.nBk blockF_k ?_
    walk_at "go"
    refine v_fld e2 T.Block.cl T.nBk blockF_k ?_
    walk_at "go"
    rw [dec_tx]
    exact q
  · rw [c1, Bool.false_and] at q
    exact q
end
end
section
open PySem PySem.Spec L2
section
variable {ls : List Nat} {fn : Nat → List Nat} {m n : List Nat} {k j : Nat}
end
end
section
open PySem PySem.Spec L2
/-- a def that cuts the first such letter out of a text -/
structure CutDef (P : Program) (w : World) (K : PySem.W.Frag) (mg : Str → Option Value) (base : Heap) (k : Nat) : Prop where
  ex : ∃ f, mg "without_first" = some (.ref f) ∧ PySem.W.keepIn K (.ref f) = true ∧ CutRun P w K mg base CX0 k f
theorem CutRun.mono {P : Program} {w : World} {K : PySem.W.Frag} {mg : Str → Option Value} {base : Heap} {CX : CXT} {j k : Nat} {f : Addr} (R : CutRun P w K mg base CX j f) (h : j ≤ k) : CutRun P w K mg base CX k f := fun A outer s H p q c t u Q E hr => R A outer s H p q c t u Q E (hr.mono h)
theorem CutDef.mono {P : Program} {w : World} {K : PySem.W.Frag} {mg : Str → Option Value} {base : Heap} {j k : Nat} (R : CutDef P w K mg base j) (h : j ≤ k) : CutDef P w K mg base k := by
  obtain ⟨f, a, b, c⟩ := R.ex
  exact ⟨f, a, b, c.mono h⟩
section
variable {P : Program} {w : World} {K : PySem.W.Frag} {mg : Str → Option Value} {base : Heap} {C R O : Addr}
end
end
section
open PySem PySem.Spec L2
/-- three rooms, each with whether its plan is the first one's -/
structure Rooms3 (C R : Addr) (H : Hp) (ra xa : Addr) (a : List Nat) (rb xb : Addr) (b : List Nat) (rc xc : Addr) (c : List Nat) (e2 e3 : Bool) : Prop where
  r1 : RoomAt R H ra xa a
  r2 : RoomAt R H rb xb b
  r3 : RoomAt R H rc xc c
  p2 : Plans2 C H xa xb e2
  p3 : Plans2 C H xa xc e3
section
variable {P : Program} {w : World} {K : PySem.W.Frag} {mg : Str → Option Value} {base : Heap} {C R O : Addr} {ls : List Nat} {fn : Nat → List Nat}
theorem way_le (f : Nat → List Nat) (m n : List Nat) : (wayC f m n).length ≤ m.length + n.length := by
  have h : (wayC f m n).length ≤ (m.reverse ++ n).length := name_len f _
  rw [List.length_append, List.length_reverse] at h
  exact h
end
end
section
open PySem PySem.Spec L2
def spMade (C : Addr) : Sp := fun vs H Q _ => ∃ (g : Pen) (n : Nat) (d : Addr) (ls : List Nat) (f : Nat → List Nat), vs = [.ref g.p, .ref d] ∧ PenAt g H n ∧ n < 900000 ∧ d ≠ g.p ∧ H d = some (.dK (tabKV ls f)) ∧ Tab ls f ∧
  ∀ x H', H x = none → Keep g.p H H' → PenAt g H' (n + 100) → PlanAt C H' x (ascOf ls) (tabPairs ls f) → PlanOff C H' x d → Q (.ref x) H'
theorem Keep.free {p x : Addr} {H H' : Hp} (k : Keep p H H') (h : H' x = none) (n : x ≠ p) : H x = none := by
  cases z : H x with
  | none => rfl
  | some o =>
    have := k _ _ z n
    rw [h] at this
    cases this
section
variable {P : Program} {w : World} {K : PySem.W.Frag} {mg : Str → Option Value} {base : Heap} {C R O : Addr}
abbrev stmade : Stmt := (top 50)
abbrev Nmade : List Str := ["_law_pen_here", "_law_table", "_law_pairs", "_law_item", "_law_peer"]
theorem scmade : FnScope Nmade ["_law_pen_here", "_law_table"] (defScope stmade) := ⟨rfl, rfl, rfl, by decide +kernel, rfl, by decide +kernel, by decide +kernel⟩

theorem ok_made (F : FnAt K mg "_law_made" stmade) (T : TxtR K mg C R O) (D_draw : Def P w K mg base CX0 1 "_law_draw" ["_law_pen_here", "_law_number"] spDraw) (D_shuffled : Def P w K mg base CX0 2 "_law_shuffled" ["_law_pen_here", "_law_items"] spShuffled) (C_Plan : CDef P w K mg base CX0 3 "Plan" C (spPlan K C)) : Def P w K mg base CX0 5 "_law_made" ["_law_pen_here", "_law_table"] (spMade C) := by
  refine F.ok scmade (fun _ _ _ _ _ _ us hl => match us, hl with | [_, _], _ => rfl) (fun vs H Q E h => ?_) (fun f cdv A outer s H vs Q E hr h => ?_)
  · obtain ⟨g, n, d, ls, f, rfl, _⟩ := h
    rfl
  obtain ⟨g, n, d, ls, fn, rfl, hp, hn, hdp, hd, tab, k⟩ := h
  have hu := hu_of hr
  have nd := scmade.nd
  replace D_draw := D_draw.mono (show 1 ≤ 4 by decide)
  replace D_shuffled := D_shuffled.mono (show 2 ≤ 4 by decide)
  have tl := tab.len
  refine ⟨_, (pss_cons (ps_set (i := 2) nd rfl (Or.inl rfl) (pe_lst pa_nil))
      (pss_cons (ps_lock (ps_for PassesOwn.never rfl (pi_keys (pv 1)) (pg_name (i := 3) nd rfl (Or.inl rfl))
      (pss_one (ps_for PassesOwn.never rfl (pi_str (pe_dget hu (pv 1) (pv 3) (fun _ _ => rfl))) (pg_name (i := 4) nd rfl (Or.inl rfl))
        (pss_one (ps_if (PW.pt (pw_or (pt_cmpR op_ltS (pv 3) (pv 4) (nomark _)) (pw_or1 (pt_cmpR op_gt (pe_cd D_draw hr pass0 (pa_cons (pv 0) (pa_cons pe_int pa_nil))) pe_int (nomark _)))))
          (pss_one (ps_expr (pe_appK (K := K) rfl (pv 2) (pe_op op_addS (pv 3) (pv 4)))))
          pss_nil))))))
      (pss_one (ps_ret (pe_mk C_Plan hr pass0 (pa_cons (pe_joinK (K := K) rfl (pe_tx [] (by decide +kernel)) (pe_cd D_shuffled hr pass0 (pa_cons (pv 0) (pa_cons (pe_callTy (call_list_dK rfl) (by rfl) T.list (by decide +kernel) (pa_cons (pv 1) pa_nil)) pa_nil)))) (pa_cons (pv 2) pa_nil))))))), ?_⟩
  refine s_start [some _, some _, none, none, none] rfl ?_
  walk_at "go"
  intro q H1 hq s1 e1
  walk_at "go"
  have hd1 := s1 _ _ hd
  have ndc : g.cl ≠ d := by
    obtain ⟨a, r, h1, h2, _⟩ := hp.ex
    exact ne_of h2 hd (by intro z; cases z)
  have nqd : q ≠ d := (ne_of_none hd hq).symm
  have nqp := hp.p_ne hq
  have nqc := hp.cl_ne hq
  refine e_lock hd1 trivial fun od => ?_
  have fz : ∀ b o, b ≠ d → H1 b = some o → upd H1 d (.frz od (.dK (tabKV ls fn))) b = some o := fun b o nb hb => by
    rw [upd_ne nb]
    exact hb
  walk_at "go"
  refine ⟨d, od, rfl, .inl ⟨_, upd_same, ?_⟩⟩
  have p1 : PenAt g (upd H1 d (.frz od (.dK (tabKV ls fn)))) n := by
    obtain ⟨a, r, h1, h2, h3⟩ := (hp.same s1).ex
    exact ⟨a, r, fz _ _ hdp.symm h1, fz _ _ ndc h2, h3⟩
  refine for_it walk_keys (fun i σ H' => ∃ x1 x2 ps, σ = [some (.ref g.p), some (.ref d), some (.ref q), x1, x2] ∧ PenAt g H' (n + 8 * i) ∧ (∀ b o, H b = some o → b ≠ g.p → b ≠ d → H' b = some o) ∧ H' d = some (.frz od (.dK (tabKV ls fn))) ∧ H' q = some (.lst (strsV ps)) ∧ ps.length ≤ 8 * i ∧
    (∀ p ∈ ps, ∃ a b, p = [a, b] ∧ a ∈ ls ∧ b ∈ fn a) ∧ ∀ a ∈ ls.take i, ∀ b ∈ fn a, a < b → [a, b] ∈ ps) ⟨_, _, [], rfl, p1, fun b o hb n1 n2 => fz _ _ n2 (s1 _ _ hb), upd_same, fz _ _ nqd e1, by simp, by simp, by simp⟩ (fun i σ H' _ z => ?_) ?_ ?_
  · obtain ⟨x1, x2, ps, _, _, _, h, _⟩ := z
    exact h
  · rintro i v σ H2 H3 hi ⟨x1, x2, ps, rfl, p2, k2, d2, q2, l2, h2, g2⟩ ⟨rfl, kk, vv, hkv, rfl⟩
    have hi' : i < ls.length := by
      unfold tabKV at hi
      rw [List.length_map] at hi
      exact hi
    obtain ⟨rfl, rfl⟩ : kk = Sum.inr (tx [ls.getD i 0]) ∧ vv = V.str (tx (fn (ls.getD i 0))) := by
      unfold tabKV at hkv
      rw [List.getElem?_map, List.getElem?_eq_getElem hi'] at hkv
      have e : ls.getD i 0 = ls[i] := by rw [List.getD_eq_getElem?_getD, List.getElem?_eq_getElem hi']; rfl
      rw [e]
      injection hkv with hkv
      injection hkv with a b
      exact ⟨a.symm, b.symm⟩
    have hx : ls.getD i 0 ∈ ls := getD_mem hi'
    have hgl := tab.gl _ hx
    show tFor _ _ _ _ _ _
    walk_at "go"
    refine v_dget (tab_getF d2 hx) ?_
    walk_at "go"
    refine for_it (walk_tx (fn (ls.getD i 0))) (fun j σ H' => ∃ x2 ps, σ = [some (.ref g.p), some (.ref d), some (.ref q), some (.str (tx [ls.getD i 0])), x2] ∧ PenAt g H' (n + 8 * i + j) ∧ (∀ b o, H b = some o → b ≠ g.p → b ≠ d → H' b = some o) ∧ H' d = some (.frz od (.dK (tabKV ls fn))) ∧ H' q = some (.lst (strsV ps)) ∧ ps.length ≤ 8 * i + j ∧
      (∀ p ∈ ps, ∃ a b, p = [a, b] ∧ a ∈ ls ∧ b ∈ fn a) ∧ (∀ a ∈ ls.take i, ∀ b ∈ fn a, a < b → [a, b] ∈ ps) ∧ ∀ b ∈ (fn (ls.getD i 0)).take j, ls.getD i 0 < b → [ls.getD i 0, b] ∈ ps) ⟨_, ps, rfl, p2, k2, d2, q2, l2, h2, g2, by simp⟩ (fun _ _ _ _ _ => trivial) ?_ ?_
    · rintro j v σ H4 H5 hj ⟨x2, ps, rfl, p4, k4, d4, q4, l4, h4, g4, t4⟩ ⟨rfl, rfl⟩
      have hy : (fn (ls.getD i 0)).getD j 0 ∈ fn (ls.getD i 0) := getD_mem hj
      generalize hyy : (fn (ls.getD i 0)).getD j 0 = y at hy ⊢
      generalize hxx : ls.getD i 0 = x at *
      have l3 : [x].length + [y].length ≤ 1000000 := by simp
      have app : ∀ (H6 H7 : Hp), PenAt g H6 (n + 8 * i + j + 1) → Keep g.p H5 H6 → Keep q H6 H7 → H7 q = some (.lst (strsV ps ++ [V.str (tx ([x] ++ [y]))])) → ∃ x2 ps, [some (V.ref g.p), some (V.ref d), some (V.ref q), some (V.str (tx [x])), some (V.str (tx [y]))] = [some (.ref g.p), some (.ref d), some (.ref q), some (.str (tx [x])), x2] ∧ PenAt g H7 (n + 8 * i + (j + 1)) ∧ (∀ b o, H b = some o → b ≠ g.p → b ≠ d → H7 b = some o) ∧ H7 d = some (.frz od (.dK (tabKV ls fn))) ∧ H7 q = some (.lst (strsV ps)) ∧ ps.length ≤ 8 * i + (j + 1) ∧
          (∀ p ∈ ps, ∃ a b, p = [a, b] ∧ a ∈ ls ∧ b ∈ fn a) ∧ (∀ a ∈ ls.take i, ∀ b ∈ fn a, a < b → [a, b] ∈ ps) ∧ ∀ b ∈ (fn x).take (j + 1), x < b → [x, b] ∈ ps := by
        intro H6 H7 p6 k6 k7 e7
        refine ⟨_, ps ++ [[x, y]], rfl, p6.keep k7 nqp nqc, fun b o hb n1 n2 => k7 _ _ (k6 _ _ (k4 _ _ hb n1 n2) n1) (ne_of_none hb hq), k7 _ _ (k6 _ _ d4 hdp) nqd.symm, ?_, ?_, ?_, ?_, ?_⟩
        · rw [e7]
          unfold strsV
          rw [List.map_append]
          rfl
        · rw [List.length_append, List.length_singleton]
          omega
        · intro p hp
          rcases List.mem_append.mp hp with z | z
          · exact h4 p z
          · exact ⟨x, y, List.mem_singleton.mp z, hx, hy⟩
        · intro a ha b hb hab
          exact List.mem_append_left _ (g4 a ha b hb hab)
        · intro b hb hab
          rw [take_getD hj, List.mem_append, List.mem_singleton] at hb
          rcases hb with z | z
          · exact List.mem_append_left _ (t4 b z hab)
          · rw [z, hyy]
            exact List.mem_append_right _ (List.mem_singleton.mpr rfl)
      walk_at "go"
      rw [lt_one]
      refine if_dec (fun c => ?_) (fun c => ?_)
      · walk_at "go"
        refine v_app q4 (by rw [List.length_map]; omega) fun H6 k6 e6 => ?_
        exact app H5 H6 (p4.mono (by omega)) (Keep.refl _ _) k6 e6
      · walk_at "go"
        refine ⟨g, 3, _, rfl, by omega, by omega, p4, by omega, fun z H6 _ _ p6 k6 => ?_⟩
        walk_at "go"
        refine if_dec (fun c2 => ?_) (fun c2 => ?_)
        · have q6 := k6 _ _ q4 nqp.symm
          walk_at "go"
          refine v_app q6 (by rw [List.length_map]; omega) fun H7 k7 e7 => ?_
          exact app H6 H7 p6 k6 k7 e7
        · walk_at "go"
          refine ⟨_, ps, rfl, p6, fun b o hb n1 n2 => k6 _ _ (k4 _ _ hb n1 n2) n1, k6 _ _ d4 hdp, k6 _ _ q4 nqp.symm, by omega, h4, g4, ?_⟩
          intro b hb hab
          rw [take_getD hj, List.mem_append, List.mem_singleton] at hb
          rcases hb with z | z
          · exact t4 b z hab
          · rw [z, hyy] at hab
            exact absurd hab c
    · rintro σ H4 ⟨x2, ps, rfl, p4, k4, d4, q4, l4, h4, g4, t4⟩
      rw [List.take_of_length_le (Nat.le_refl _)] at t4
      refine ⟨_, _, ps, rfl, p4.mono (by omega), k4, d4, q4, by omega, h4, ?_⟩
      intro a ha b hb hab
      rw [take_getD hi', List.mem_append, List.mem_singleton] at ha
      rcases ha with z | z
      · exact g4 a z b hb hab
      · subst z
        exact t4 b hb hab
  rintro σ H2 ⟨x1, x2, ps, rfl, p2, k2, d2, q2, l2, h2, g2⟩
  have tk : (tabKV ls fn).length = ls.length := by unfold tabKV; rw [List.length_map]
  rw [tk] at p2 l2 g2
  rw [List.take_of_length_le (Nat.le_refl _)] at g2
  refine ⟨d2, ?_⟩
  have p3 : PenAt g (upd H2 d (.dK (tabKV ls fn))) (n + 64) := by
    obtain ⟨a, r, h1, h3, h4, h5, h6, h7⟩ := p2.ex
    exact ⟨a, r, by rw [upd_ne hdp.symm]; exact h1, by rw [upd_ne ndc]; exact h3, h4, h5, by omega, h7⟩
  have k3 : Keep g.p H (upd H2 d (.dK (tabKV ls fn))) := fun b o hb nb => by
    by_cases e : b = d
    · subst e
      rw [upd_same, ← hb, hd]
    · rw [upd_ne e]
      exact k2 _ _ hb nb e
  have d3 : upd H2 d (.dK (tabKV ls fn)) d = some (.dK (tabKV ls fn)) := upd_same
  have q3 : upd H2 d (.dK (tabKV ls fn)) q = some (.lst (strsV ps)) := by rw [upd_ne nqd]; exact q2
  generalize upd H2 d (.dK (tabKV ls fn)) = H3 at p3 k3 d3 q3 ⊢
  walk_at "go"
  refine v_listD d3 fun l H4 hl s4 e4 => ?_
  rw [tab_keys] at e4
  walk_at "go"
  refine ⟨g, n + 64, l, ls, rfl, e4, by omega, fun c hc => by have := LET_lt (tab.lt c hc); omega, p3.same s4, by omega, fun y ys H5 hy pm e5 p5 k5 => ?_⟩
  walk_at "go"
  rw [strs_ones] at e5
  have ylen := pm.length_eq
  refine v_join e5 (by rw [flat_ones]; omega) ?_
  rw [flat_ones]
  walk_at "go"
  have nqp' := nqp.symm
  refine ⟨ys, q, ps, rfl, ⟨.inl (k5 _ _ (s4 _ _ q3) nqp'), by omega, ?_, fun c hc => tab.lt c (pm.subset hc), pm.nodup_iff.mpr tab.nd, by omega⟩, fun x H6 hx s6 pl off => ?_⟩
  · intro p hp
    obtain ⟨a, b, rfl, ha, hb⟩ := h2 p hp
    obtain ⟨b1, b2, b3⟩ := tab.sub a ha b hb
    exact ⟨a, b, rfl, b2.symm, pm.mem_iff.mpr ha, pm.mem_iff.mpr b1⟩
  have kA : Keep g.p H H6 := fun b o hb nb => s6 _ _ (k5 _ _ (s4 _ _ (k3 _ _ hb nb)) nb)
  rw [show kindsOf ys = ascOf ls from ascOf_congr fun c => pm.mem_iff, show prsOf ps = tabPairs ls fn from tabPairs_eq tab h2 g2] at pl
  have kB : Keep g.p H H5 := fun b o hb nb => k5 _ _ (s4 _ _ (k3 _ _ hb nb)) nb
  refine k x H6 (kB.free hx (p5.p_ne hx).symm) kA ((p5.same s6).mono (by omega)) pl (off d _ (k5 _ _ (s4 _ _ d3) hdp))
end
end
section
open PySem PySem.Spec L2
def spWalk : Sp := fun vs H Q _ => ∃ (g : Pen) (n : Nat) (d : Addr) (ls : List Nat) (f : Nat → List Nat) (num : Nat), vs = [.ref g.p, .ref d, .int num] ∧ PenAt g H n ∧ n < 900000 ∧ d ≠ g.p ∧ H d = some (.dK (tabKV ls f)) ∧ Tab ls f ∧ 0 < ls.length ∧ num ≤ 100000 ∧
  ∀ (l : List Nat) H', (∀ c ∈ l, c ∈ ls) → l.length ≤ num → PenAt g H' (n + 100) → Keep g.p H H' → Q (.str (tx l)) H'
theorem mem_rep {a : List Nat} {n : Nat} {c : Nat} (h : c ∈ (List.replicate n a).flatten) : c ∈ a := by
  rw [List.mem_flatten] at h
  obtain ⟨l, hl, hc⟩ := h
  rw [List.mem_replicate] at hl
  exact hl.2 ▸ hc
theorem len_rep (a : List Nat) (n : Nat) : (List.replicate n a).flatten.length = n * a.length := by
  rw [List.length_flatten, List.map_replicate, List.sum_replicate_nat]
section
variable {P : Program} {w : World} {K : PySem.W.Frag} {mg : Str → Option Value} {base : Heap}
abbrev stwalk : Stmt := (top 51)
abbrev Nwalk : List Str := ["_law_pen_here", "_law_table", "_law_number", "_law_letters", "_law_found", "_law_turn", "_law_item", "_law_peer", "_law_sort", "_law_k"]
theorem scwalk : FnScope Nwalk ["_law_pen_here", "_law_table", "_law_number"] (defScope stwalk) := ⟨rfl, rfl, rfl, by decide +kernel, rfl, by decide +kernel, by decide +kernel⟩

theorem ok_walk (F : FnAt K mg "_law_walk" stwalk) (T : TxtH K mg) (D_draw : Def P w K mg base CX0 1 "_law_draw" ["_law_pen_here", "_law_number"] spDraw) (D_pick : Def P w K mg base CX0 2 "_law_pick" ["_law_pen_here", "_law_items"] spPick) : Def P w K mg base CX0 3 "_law_walk" ["_law_pen_here", "_law_table", "_law_number"] spWalk := by
  refine F.ok scwalk (fun _ _ _ _ _ _ us hl => match us, hl with | [_, _, _], _ => rfl) (fun vs H Q E h => ?_) (fun f cdv A outer s H vs Q E hr h => ?_)
  · obtain ⟨g, n, d, ls, f, num, rfl, _⟩ := h
    rfl
  obtain ⟨g, n, d, ls, fn, num, rfl, hp, hn, hdp, hd, tab, l0, hnum, k⟩ := h
  have hu := hu_of hr
  have nd := scwalk.nd
  replace D_draw := D_draw.mono (show 1 ≤ 2 by decide)
  have tl := tab.len
  refine ⟨_, (pss_cons (ps_par (i := 3) (j := 4) (by rfl) nd rfl rfl (by decide) rfl rfl (pa_cons (pe_callTy (call_list_dK rfl) (by rfl) T.list (by decide +kernel) (pa_cons (pv 1) pa_nil)) (pa_cons (pe_tx [] (by decide +kernel)) pa_nil)) (by rfl))
      (pss_cons (ps_for PassesOwn.never rfl (pi_range1 (by rfl) T.range (pa_cons (pe_cd D_draw hr pass0 (pa_cons (pv 0) (pa_cons pe_int pa_nil))) pa_nil)) (pg_name (i := 5) nd rfl (Or.inl rfl))
      (pss_cons (ps_par3 (i := 6) (j := 7) (l := 8) (by rfl) nd rfl rfl rfl (by decide) (by decide) (by decide) rfl rfl rfl (pa_cons (pe_cd D_pick hr pass0 (pa_cons (pv 0) (pa_cons (pv 3) pa_nil))) (pa_cons (pe_cd D_pick hr pass0 (pa_cons (pv 0) (pa_cons (pv 3) pa_nil))) (pa_cons (pe_cd D_draw hr pass0 (pa_cons (pv 0) (pa_cons pe_int pa_nil))) pa_nil))) (by rfl))
        (pss_one (ps_if (pt_cmpR op_eq (pv 8) pe_int (nomark _))
        (pss_one (ps_set (i := 4) nd rfl (Or.inl rfl) (pe_op op_addS (pv 4) (pe_op op_mulS (pe_op op_addS (pv 6) (pv 7)) (pe_op op_add pe_int (pe_cd D_draw hr pass0 (pa_cons (pv 0) (pa_cons pe_int pa_nil))))))))
        (pss_one (ps_if (pt_cmpR op_eq (pv 8) pe_int (nomark _))
          (pss_one (ps_set (i := 4) nd rfl (Or.inl rfl) (pe_op op_addS (pv 4) (pe_slice sl_S (pe_revS (pv 4)) po_none (po_some (pe_cd D_draw hr pass0 (pa_cons (pv 0) (pa_cons pe_int pa_nil))))))))
          (pss_one (ps_if (pt_cmpR op_eq (pv 8) pe_int (nomark _))
            (pss_one (ps_set (i := 4) nd rfl (Or.inl rfl) (pe_op op_addS (pe_op op_addS (pv 4) (pe_dget hu (pv 1) (pv 6) (fun _ _ => rfl))) (pv 6))))
            (pss_one (ps_for PassesOwn.never rfl (pi_range1 (by rfl) T.range (pa_cons (pe_op op_add pe_int (pe_cd D_draw hr pass0 (pa_cons (pv 0) (pa_cons pe_int pa_nil)))) pa_nil)) (pg_name (i := 9) nd rfl (Or.inl rfl))
              (pss_one (ps_set (i := 4) nd rfl (Or.inl rfl) (pe_op op_addS (pv 4) (pe_cd D_pick hr pass0 (pa_cons (pv 0) (pa_cons (pv 3) pa_nil))))))))))))))))
      (pss_one (ps_ret (pe_slice sl_S (pv 4) po_none (po_some (pv 2))))))), ?_⟩
  refine s_start [some _, some _, some _, none, none, none, none, none, none, none] rfl ?_
  walk_at "go"
  refine v_listD hd fun q H1 hq s1 e1 => ?_
  rw [tab_keys] at e1
  have nqp := hp.p_ne hq
  walk_at "go"
  refine ⟨g, 7, n, rfl, by omega, by omega, hp.same s1, by omega, fun zt H2 zt0 zt1 p2 k2 => ?_⟩
  have e2 := k2 _ _ e1 nqp.symm
  have kA : Keep g.p H H2 := fun b o hb nb => k2 _ _ (s1 _ _ hb) nb
  have ll : (ls.map fun c => V.str (tx [c])).length = ls.length := List.length_map _
  walk_at "go"
  have pk : ∀ v ∈ (ls.map fun c => V.str (tx [c])), ∃ c ∈ ls, v = V.str (tx [c]) := fun v hv => by
    obtain ⟨c, hc, e⟩ := List.mem_map.mp hv
    exact ⟨c, hc, e.symm⟩
  refine for_it (walk_rI (fun i => ((i : Nat) : Int)) (fun k => Int.zero_add _)) (fun i σ H' => ∃ x1 x2 x3 x4 x5, ∃ fd : List Nat, σ = [some (.ref g.p), some (.ref d), some (.int num), some (.ref q), some (.str (tx fd)), x1, x2, x3, x4, x5] ∧ PenAt g H' (n + 1 + 12 * i) ∧ Keep g.p H H' ∧ H' q = some (.lst (ls.map fun c => V.str (tx [c]))) ∧ fd.length ≤ 12 * i ∧ ∀ c ∈ fd, c ∈ ls) ⟨_, _, _, _, _, [], rfl, p2, kA, e2, by simp, by simp⟩ (fun _ _ _ _ _ => trivial) ?_ ?_
  · rintro i v σ H3 H4 hi ⟨x1, x2, x3, x4, x5, fd, rfl, p3, k3, e3, l3, m3⟩ ⟨rfl, rfl⟩
    have hi6 : i < 6 := by omega
    walk_at "go"
    refine ⟨g, _, q, _, rfl, e3, by omega, by omega, p3, by omega, nqp.symm, fun v1 H5 hv1 p5 k5 => ?_⟩
    obtain ⟨c1, hc1, rfl⟩ := pk v1 hv1
    have e5 := k5 _ _ e3 nqp.symm
    walk_at "go"
    refine ⟨g, _, q, _, rfl, e5, by omega, by omega, p5, by omega, nqp.symm, fun v2 H6 hv2 p6 k6 => ?_⟩
    obtain ⟨c2, hc2, rfl⟩ := pk v2 hv2
    have e6 := k6 _ _ e5 nqp.symm
    walk_at "go"
    refine ⟨g, 5, _, rfl, by omega, by omega, p6, by omega, fun so H7 so0 so1 p7 k7 => ?_⟩
    have e7 := k7 _ _ e6 nqp.symm
    have kB : Keep g.p H H7 := fun b o hb nb => k7 _ _ (k6 _ _ (k5 _ _ (k3 _ _ hb nb) nb) nb) nb
    have dB := kB _ _ hd hdp
    walk_at "go"
    refine if_dec (fun s0 => ?_) (fun s0 => ?_)
    · have l4 : [c1].length + [c2].length ≤ 1000000 := by simp
      walk_at "go"
      refine ⟨g, 5, _, rfl, by omega, by omega, p7, by omega, fun z H8 z0 z1 p8 k8 => ?_⟩
      walk_at "go"
      have zt : (1 + z).toNat ≤ 5 := by omega
      have z5 : [c1, c2].length * (1 + z).toNat ≤ 10 := by
        show 2 * _ ≤ _
        omega
      refine v_mulS (by omega) (by omega) (Nat.le_trans z5 (by decide)) ?_
      have rl := len_rep [c1, c2] (1 + z).toNat
      have rl2 : (List.replicate (1 + z).toNat [c1, c2]).flatten.length ≤ 10 := by
        rw [rl, Nat.mul_comm]
        exact z5
      refine v_addS (by show fd.length + (List.replicate (1 + z).toNat [c1, c2]).flatten.length ≤ _; omega) ?_
      walk_at "go"
      refine ⟨_, _, _, _, _, _, rfl, p8.mono (by omega), fun b o hb nb => k8 _ _ (kB _ _ hb nb) nb, k8 _ _ e7 nqp.symm, ?_, ?_⟩
      · rw [List.length_append]
        show fd.length + (List.replicate (1 + z).toNat [c1, c2]).flatten.length ≤ _
        omega
      · intro c hc
        rcases List.mem_append.mp hc with z | z
        · exact m3 c z
        · have := mem_rep z
          simp only [List.singleton_append, List.mem_cons, List.not_mem_nil, or_false] at this
          rcases this with rfl | rfl <;> assumption
    walk_at "go"
    refine if_dec (fun s1 => ?_) (fun s1 => ?_)
    · walk_at "go"
      refine ⟨g, 6, _, rfl, by omega, by omega, p7, by omega, fun z H8 z0 z1 p8 k8 => ?_⟩
      walk_at "go"
      refine v_slTo (by rw [List.length_reverse]; omega) z0 ?_
      have rl : (fd.reverse.take z.toNat).length ≤ 5 := by rw [List.length_take]; omega
      refine v_addS (by omega) ?_
      walk_at "go"
      refine ⟨_, _, _, _, _, _, rfl, p8.mono (by omega), fun b o hb nb => k8 _ _ (kB _ _ hb nb) nb, k8 _ _ e7 nqp.symm, ?_, ?_⟩
      · rw [List.length_append]
        omega
      · intro c hc
        rcases List.mem_append.mp hc with z | z
        · exact m3 c z
        · exact m3 c (List.mem_reverse.mp (List.mem_of_mem_take z))
    walk_at "go"
    refine if_dec (fun s2 => ?_) (fun s2 => ?_)
    · walk_at "go"
      refine v_dget (tab_get dB hc1) ?_
      have gl := tab.gl _ hc1
      have l5 : (fd ++ fn c1).length + [c1].length ≤ 1000000 := by
        rw [List.length_append, List.length_singleton]
        omega
      walk_at "go"
      refine ⟨_, _, _, _, _, _, rfl, p7.mono (by omega), kB, e7, ?_, ?_⟩
      · rw [List.length_append, List.length_append, List.length_singleton]
        omega
      · intro c hc
        rcases List.mem_append.mp hc with z | z
        · rcases List.mem_append.mp z with z | z
          · exact m3 c z
          · exact (tab.sub c1 hc1 c z).1
        · rw [List.mem_singleton.mp z]
          exact hc1
    walk_at "go"
    refine ⟨g, 6, _, rfl, by omega, by omega, p7, by omega, fun z H8 z0 z1 p8 k8 => ?_⟩
    walk_at "go"
    refine for_it (walk_rI (fun i => ((i : Nat) : Int)) (fun k => Int.zero_add _)) (fun j σ H' => ∃ x5, ∃ fd' : List Nat, σ = [some (.ref g.p), some (.ref d), some (.int num), some (.ref q), some (.str (tx fd')), some (.int (i : Nat)), some (.str (tx [c1])), some (.str (tx [c2])), some (.int so), x5] ∧ PenAt g H' (n + 1 + 12 * i + 4 + j) ∧ Keep g.p H H' ∧ H' q = some (.lst (ls.map fun c => V.str (tx [c]))) ∧ fd'.length ≤ 12 * i + j ∧ ∀ c ∈ fd', c ∈ ls) ⟨_, fd, rfl, p8, fun b o hb nb => k8 _ _ (kB _ _ hb nb) nb, k8 _ _ e7 nqp.symm, l3, m3⟩ (fun _ _ _ _ _ => trivial) ?_ ?_
    · rintro j v σ H9 H10 hj ⟨x5, fd', rfl, p9, k9, e9, l9, m9⟩ ⟨rfl, rfl⟩
      have hj6 : j < 6 := by omega
      walk_at "go"
      refine ⟨g, _, q, _, rfl, e9, by omega, by omega, p9, by omega, nqp.symm, fun v3 H11 hv3 p11 k11 => ?_⟩
      obtain ⟨c3, hc3, rfl⟩ := pk v3 hv3
      have l6 : fd'.length + [c3].length ≤ 1000000 := by
        rw [List.length_singleton]
        omega
      walk_at "go"
      refine ⟨_, _, rfl, p11, fun b o hb nb => k11 _ _ (k9 _ _ hb nb) nb, k11 _ _ e9 nqp.symm, ?_, ?_⟩
      · rw [List.length_append, List.length_singleton]
        omega
      · intro c hc
        rcases List.mem_append.mp hc with z | z
        · exact m9 c z
        · rw [List.mem_singleton.mp z]
          exact hc3
    · rintro σ H9 ⟨x5, fd', rfl, p9, k9, e9, l9, m9⟩
      exact ⟨_, _, _, _, _, fd', rfl, p9.mono (by omega), k9, e9, by omega, m9⟩
  rintro σ H3 ⟨x1, x2, x3, x4, x5, fd, rfl, p3, k3, e3, l3, m3⟩
  walk_at "go"
  refine v_slTo (by omega) (by omega) ?_
  refine k _ H3 (fun c hc => m3 c (List.mem_of_mem_take hc)) ?_ (p3.mono (by omega)) k3
  rw [List.length_take]
  omega
end
end
section
open PySem PySem.Spec L2
def spBegun : Sp := fun vs H Q _ => ∃ (g : Pen) (n : Nat) (d : Addr) (ls : List Nat) (f : Nat → List Nat) (num size : Nat), vs = [.ref g.p, .ref d, .int num, .int size] ∧ PenAt g H n ∧ n < 800000 ∧ d ≠ g.p ∧ H d = some (.dK (tabKV ls f)) ∧ Tab ls f ∧ 0 < ls.length ∧ num ≤ 900 ∧ size ≤ 900 ∧
  ∀ (l : List Nat) H', (∀ c ∈ l, c ∈ ls) → l.length ≤ max num size → PenAt g H' (n + 101) → Keep g.p H H' → Q (.str (tx l)) H'
section
variable {P : Program} {w : World} {K : PySem.W.Frag} {mg : Str → Option Value} {base : Heap} {C R O W : Addr}
abbrev stbegun : Stmt := (top 52)
abbrev Nbegun : List Str := ["_law_pen_here", "_law_table", "_law_number", "_law_size", "_law_found"]
theorem scbegun : FnScope Nbegun ["_law_pen_here", "_law_table", "_law_number", "_law_size"] (defScope stbegun) := ⟨rfl, rfl, rfl, by decide +kernel, rfl, by decide +kernel, by decide +kernel⟩

theorem ok_begun (F : FnAt K mg "_law_begun" stbegun) (D_draw : Def P w K mg base CX0 1 "_law_draw" ["_law_pen_here", "_law_number"] spDraw) (D_walk : Def P w K mg base CX0 3 "_law_walk" ["_law_pen_here", "_law_table", "_law_number"] spWalk) : Def P w K mg base CX0 4 "_law_begun" ["_law_pen_here", "_law_table", "_law_number", "_law_size"] spBegun := by
  refine F.ok scbegun (fun _ _ _ _ _ _ us hl => match us, hl with | [_, _, _, _], _ => rfl) (fun vs H Q E h => ?_) (fun f cdv A outer s H vs Q E hr h => ?_)
  · obtain ⟨g, n, d, ls, f, num, size, rfl, _⟩ := h
    rfl
  obtain ⟨g, n, d, ls, fn, num, size, rfl, hp, hn, hdp, hd, tab, l0, hnum, hsize, k⟩ := h
  have hu := hu_of hr
  have nd := scbegun.nd
  replace D_draw := D_draw.mono (show 1 ≤ 3 by decide)
  refine ⟨_, (pss_cons (ps_set (i := 4) nd rfl (Or.inl rfl) (pe_cd D_walk hr pass0 (pa_cons (pv 0) (pa_cons (pv 1) (pa_cons (pv 2) pa_nil)))))
      (pss_one (ps_ret (pe_ifExp (pt_cmpR op_eq (pe_cd D_draw hr pass0 (pa_cons (pv 0) (pa_cons pe_int pa_nil))) pe_int (nomark _)) (pe_slice sl_S (pe_op op_mulS (pv 4) (pv 3)) po_none (po_some (pv 3))) (pv 4))))), ?_⟩
  refine s_start [some _, some _, some _, some _, none] rfl ?_
  walk_at "go"
  refine ⟨g, n, d, ls, fn, num, rfl, hp, by omega, hdp, hd, tab, l0, by omega, fun l H1 m1 l1 p1 k1 => ?_⟩
  walk_at "go"
  refine ⟨g, 4, _, rfl, by omega, by omega, p1, by omega, fun z H2 z0 z1 p2 k2 => ?_⟩
  walk_at "go"
  refine if_dec (fun c => ?_) (fun c => ?_)
  · walk_at "go"
    have z5 : l.length * ((size : Nat) : Int).toNat ≤ 1000000 := by
      have : ((size : Nat) : Int).toNat = size := rfl
      rw [this]
      exact Nat.le_trans (Nat.mul_le_mul (show l.length ≤ 1000 by omega) (show size ≤ 1000 by omega)) (by decide)
    refine v_mulS (by omega) (by omega) z5 ?_
    have z6 : (List.replicate ((size : Nat) : Int).toNat l).flatten.length ≤ 1000000 := by
      rw [len_rep, Nat.mul_comm]
      exact z5
    walk_at "go"
    refine v_slTo z6 (by omega) ?_
    refine k _ H2 (fun c hc => m1 c (mem_rep (List.mem_of_mem_take hc))) ?_ (p2.mono (by omega)) (k1.trans k2)
    rw [List.length_take]
    omega
  · walk_at "go"
    exact k _ H2 m1 (by omega) (p2.mono (by omega)) (k1.trans k2)
end
/-! ### vectors -/
section
variable {H : Hp} {Q : VK} {K : PySem.W.Frag} {p q : Addr} {ls : List Nat} {u v : Nat → Int}
end
end
section
open PySem PySem.Spec L2
structure VecsAt (H : Hp) (D : Addr) (ls : List Nat) (us : List (Nat → Int)) : Prop where
  ex : ∃ As : List Addr, H D = some (.lst (As.map V.ref)) ∧ Paired (fun a u => H a = some (.tup (vecV ls u))) As us
theorem paired_imp {α β : Type} {r r' : α → β → Prop} (h : ∀ a b, r a b → r' a b) : ∀ {as : List α} {bs : List β}, Paired r as bs → Paired r' as bs
  | _, _, .nil => .nil
  | _, _, .cons a t => .cons (h _ _ a) (paired_imp h t)
theorem paired_len {α β : Type} {r : α → β → Prop} : ∀ {as : List α} {bs : List β}, Paired r as bs → as.length = bs.length
  | _, _, .nil => rfl
  | _, _, .cons _ t => by rw [List.length_cons, List.length_cons, paired_len t]
theorem VecsAt.same {H H' : Hp} {D : Addr} {ls : List Nat} {us : List (Nat → Int)} (h : VecsAt H D ls us) (s : Same H H') : VecsAt H' D ls us := by
  obtain ⟨As, e, p⟩ := h.ex
  exact ⟨As, s _ _ e, paired_imp (fun _ _ z => s _ _ z) p⟩
theorem MarksAt.lst {H H' : Hp} {m q : Addr} {ls : List Nat} {M : Nat → Nat → Int} {l : List V} (h : MarksAt H m ls M) (e0 : H q = some (.lst l)) (k : Keep q H H') : MarksAt H' m ls M := by
  obtain ⟨A, a, b⟩ := h.ex
  exact ⟨A, k _ _ a (ne_of a e0 (by intro z; cases z)), fun c hc => k _ _ (b c hc) (ne_of (b c hc) e0 (by intro z; cases z))⟩
/-! ### a vector among vectors -/
section
variable {H : Hp} {Q : VK} {K : PySem.W.Frag} {p D : Addr} {ls : List Nat} {v : Nat → Int} {us : List (Nat → Int)}
end
/-! ### beyond, touches -/
section
variable {P : Program} {w : World} {K : PySem.W.Frag} {mg : Str → Option Value} {base : Heap} {C R O W : Addr}
end
/-! ### of a drawn floor -/
section
variable {K : PySem.W.Frag} {H : Hp} {Q : VK} {C R O W r x y : Addr} {a' b' : Addr} {ls : List Nat} {fn : Nat → List Nat} {a b : List Nat} {k : Nat} {E : XK} {m : List Nat}
end
end
section
open PySem PySem.Spec L2
def alongOf (ks : List Nat) (ps : List (List Nat)) (m : List Nat) (k : Nat) (n : List Nat) : List Nat := (splitA (crossOf ks ps) (crossOf ks ps k) (wayOf ks ps m n)).1
def crossQ (ks : List Nat) (ps : List (List Nat)) (m : List Nat) (k : Nat) (n : List Nat) (j : Nat) : Prop := j ∈ crossOf ks ps k ∧ startOf ks ps (joinOf ks ps m (alongOf ks ps m k n)) j = n
instance (ks : List Nat) (ps : List (List Nat)) (m : List Nat) (k : Nat) (n : List Nat) (j : Nat) : Decidable (crossQ ks ps m k n j) := inferInstanceAs (Decidable (_ ∧ _))
structure Walls2 (C R W : Addr) (H : Hp) (a r x : Addr) (k : Nat) (m : List Nat) (b r' y : Addr) (j : Nat) (n : List Nat) (ks : List Nat) (ps : List (List Nat)) : Prop where
  w1 : WallAt W R H a r x k m
  w2 : WallAt W R H b r' y j n
  p1 : PlanAt C H x ks ps
  p2 : PlanAt C H y ks ps
  ok : PsOk ps
  m1 : ∀ c ∈ m, c ∈ ks
  m2 : ∀ c ∈ n, c ∈ ks
  k1 : k ∈ ks
  k2 : j ∈ ks
  lk : ks.length ≤ 1000
  l1 : m.length ≤ 2000
  l2 : n.length ≤ 2000
theorem Walls2.same {C R W : Addr} {H H' : Hp} {a r x : Addr} {k : Nat} {m : List Nat} {b r' y : Addr} {j : Nat} {n : List Nat} {ks : List Nat} {ps : List (List Nat)} (h : Walls2 C R W H a r x k m b r' y j n ks ps) (s : Same H H') : Walls2 C R W H' a r x k m b r' y j n ks ps :=
  ⟨h.w1.same s, h.w2.same s, h.p1.same s, h.p2.same s, h.ok, h.m1, h.m2, h.k1, h.k2, h.lk, h.l1, h.l2⟩
section
variable {P : Program} {w : World} {K : PySem.W.Frag} {mg : Str → Option Value} {base : Heap} {C R O W : Addr}
end
end
section
open PySem PySem.Spec L2
section
variable {P : Program} {w : World} {K : PySem.W.Frag} {mg : Str → Option Value} {base : Heap} {C R O W : Addr}
end
end
section
open PySem PySem.Spec L2
section
variable {P : Program} {w : World} {K : PySem.W.Frag} {mg : Str → Option Value} {base : Heap} {C R O W : Addr}
end
/-! ### of a drawn floor -/
section
variable {K : PySem.W.Frag} {H : Hp} {Q : VK} {C R O W r x r' y : Addr} {a' b' : Addr} {ls : List Nat} {fn : Nat → List Nat} {m n : List Nat} {k j : Nat} {E : XK}
end
end
section
open PySem PySem.Spec L2
structure TxtO (K : PySem.W.Frag) (mg : Str → Option Value) : Prop where
  sorted : mg "sorted" = none
  len : mg "len" = none
  str : mg "str" = none
def spInOrder : Sp := fun vs H Q _ => ∃ (a : Addr) (ls : List (List Nat)), vs = [.ref a] ∧ H a = some (.lst (ls.map fun l => V.str (tx l))) ∧ (∀ l ∈ ls, l.length ≤ 1000000) ∧ ls.length ≤ 1000000 ∧
  ∀ (ls' : List (List Nat)) p H', H p = none → Same H H' → H' p = some (.lst (ls'.map fun l => V.str (tx l))) → ls'.Perm ls → ls'.Pairwise shortLe → Q (.ref p) H'
theorem walk_txs {K : PySem.W.Frag} {a : Addr} {ws : List (List Nat)} : Walk (Itl K a) ws.length (fun H => SqL K H a (ws.map fun l => V.str (tx l))) (fun k H x H' => H' = H ∧ x = V.str (tx (ws.getD k []))) := by
  have w := walk_list (K := K) (a := a) (xs := ws.map fun l => V.str (tx l))
  rw [List.length_map] at w
  refine w.mono (fun _ z => z) fun i H x H' hi _ y => ?_
  obtain ⟨rfl, e⟩ := y
  refine ⟨rfl, ?_⟩
  rw [List.getElem?_map, List.getElem?_eq_getElem hi] at e
  injection e with e
  rw [List.getD_eq_getElem?_getD, List.getElem?_eq_getElem hi]
  exact e.symm
theorem range_txs (ls : List (List Nat)) : ((List.range ls.length).filter fun _ => true).map (fun k => V.str (tx (ls.getD k []))) = ls.map fun l => V.str (tx l) := by
  rw [List.filter_eq_self.mpr fun _ _ => rfl]
  apply List.ext_getElem
  · simp
  · intro i h1 h2
    simp only [List.getElem_map, List.getElem_range]
    have h3 : i < ls.length := by simpa using h2
    rw [List.getD_eq_getElem?_getD, List.getElem?_eq_getElem h3]
    rfl
section
variable {P : Program} {w : World} {K : PySem.W.Frag} {mg : Str → Option Value} {base : Heap} {C R O W : Addr}
abbrev stin_order : Stmt := (top 19)
abbrev Nin_order : List Str := ["names", "name"]
theorem scin_order : FnScope Nin_order ["names"] (defScope stin_order) := ⟨rfl, rfl, rfl, by decide +kernel, rfl, by decide +kernel, by decide +kernel⟩

theorem ok_in_order (F : FnAt K mg "in_order" stin_order) (T : TxtO K mg) : Def P w K mg base CX0 1 "in_order" ["names"] spInOrder := by
  refine F.ok scin_order (fun _ _ _ _ _ _ us hl => match us, hl with | [_], _ => rfl) (fun vs H Q E h => ?_) (fun f cdv A outer s H vs Q E hr h => ?_)
  · obtain ⟨a, ls, rfl, _⟩ := h
    rfl
  obtain ⟨a, ls, rfl, ha, hz, hl, q⟩ := h
  have hu := hu_of hr
  have nd := scin_order.nd
  refine ⟨_, (pss_one (ps_ret (pe_sortL (K := K) rfl (by rfl) T.sorted (by rfl) T.len (pa_cons (pe_callB (cr_sortedTK (K := K) rfl) (by rfl) T.sorted (by decide +kernel) (pa_cons (pe_lc (own := [("name", 1)]) (g := gName 1) (by rfl) nd (pi_listK (K := K) rfl (pv 0)) (blkOk_by (own := [("name", 1)]) (N := Nin_order) (sc := defScope stin_order) (by decide +kernel)) (fun _ _ _ _ _ => (pg_name (i := 1) nd rfl (Or.inl rfl))) (fun _ _ _ _ _ => pts_nil) (fun _ _ _ _ _ => (pe_callTy c_strS (by rfl) T.str (by decide +kernel) (pa_cons (pv 1) pa_nil)))) pa_nil)) pa_nil)))), ?_⟩
  refine s_start [some _, none] rfl ?_
  walk_at "go"
  refine e_sortL ?_
  walk_at "go"
  refine lc_gen (n := ls.length) (it := fun k => V.str (tx (ls.getD k []))) (b := fun _ => true) (f := fun k => V.str (tx (ls.getD k []))) walk_txs (fun H' s' => SqL.of (s' _ _ ha)) hl (fun k hk H1 s1 R r => ?_) (fun k hk _ H1 s1 R r => ?_) (fun D H1 hD s1 e1 => ?_)
  · exact r H1 (Same.refl _)
  · walk_at "go"
    refine v_strS ?_
    exact r H1 (Same.refl _)
  rw [range_txs] at e1
  walk_at "go"
  refine ⟨D, ls, rfl, SqL.of e1, fun m p hm1 hm2 hp => ?_⟩
  walk_at "go"
  have s2 : Same H1 (upd H1 p (.lst (m.map fun l => V.str (tx l)))) := Same.new hp
  refine ⟨p, m, rfl, SqL.of upd_same, fun l hl => hz l (hm1.mem_iff.mp hl), fun n p2 hn1 hn2 hn3 hp2 => ?_⟩
  obtain ⟨r1, r2⟩ := sorted_twice hm1 hm2 hn1 hn2 hn3
  exact q n p2 _ (L2.Same.free (s1.trans s2) hp2) ((s1.trans s2).trans (Same.new hp2)) upd_same r1 r2
end
/-! ### the walls between two rooms -/
structure WallsAt (W R : Addr) (H : Hp) (p x : Addr) (keys : List (List Nat)) : Prop where
  ex : ∃ As : List Addr, H p = some (.lst (As.map V.ref)) ∧ Paired (fun a key => ∃ r m k, key = m ++ [k] ∧ WallAt W R H a r x k m) As keys
theorem WallsAt.same {W R : Addr} {H H' : Hp} {p x : Addr} {keys : List (List Nat)} (h : WallsAt W R H p x keys) (s : Same H H') : WallsAt W R H' p x keys := by
  obtain ⟨As, e, pr⟩ := h.ex
  exact ⟨As, s _ _ e, paired_imp (fun a key ⟨r, m, k, e, w⟩ => ⟨r, m, k, e, w.same s⟩) pr⟩
section
variable {P : Program} {w : World} {K : PySem.W.Frag} {mg : Str → Option Value} {base : Heap} {C R O W : Addr}
end
end
local macro_rules | `(tactic| walk_at "ro") => `(tactic| first | assumption | ((apply RoomAt.go (by assumption)); walk_at "ro"))
local macro_rules | `(tactic| walk_at "pl") => `(tactic| first | assumption | ((apply PlanAt.go (by assumption)); walk_at "pl"))
local macro_rules | `(tactic| walk_at "st2") => `(tactic| first
  | (walk_at "st")
  | ((with_reducible refine v_rnameG ?_); refine ⟨_, _, _, (by walk_at "ro"), (by assumption), (by assumption), ?_⟩)
  | ((with_reducible refine v_rplanG ?_); refine ⟨_, _, _, (by walk_at "ro"), (by assumption), (by assumption), ?_⟩)
  | ((with_reducible refine v_rlenG ?_); refine ⟨_, _, (by walk_at "ro"), (by omega), ?_⟩)
  | ((with_reducible refine v_reqG ?_); refine ⟨_, _, _, _, _, (by walk_at "ro"), (by walk_at "ro"), (by walk_at "pl"), (by assumption), (by omega), (by omega), ?_⟩)
  | ((with_reducible refine v_rneG ?_); refine ⟨_, _, _, _, _, (by walk_at "ro"), (by walk_at "ro"), (by walk_at "pl"), (by assumption), (by omega), (by omega), ?_⟩)
  | ((with_reducible refine v_reqTG ?_); refine ⟨_, _, (by walk_at "ro"), ?_⟩)
  | ((with_reducible refine v_peqG ?_); refine ⟨_, _, (by walk_at "pl"), (by assumption), ?_⟩)
  | (with_reducible refine if_nI rfl ?_)
  | (with_reducible refine if_I rfl ?_)
  | ((with_reducible refine v_mdRG ?_); refine ⟨_, _, (by walk_at "ro"), (by decide +kernel), ?_⟩)
  | (with_reducible refine s_asgL ?_) | (with_reducible refine e_MN ?_)
  | (with_reducible refine e_CN ?_) | (refine ⟨rfl, rfl, ?_⟩))
local macro_rules | `(tactic| walk_at "go2") => `(tactic| repeat walk_at "st2")
section
open PySem PySem.Spec L2
/-- two rooms of one floor, their plans perhaps made apart -/
structure Two (C R : Addr) (H : Hp) (ra x : Addr) (a : List Nat) (rb y : Addr) (b : List Nat) (ls : List Nat) (fn : Nat → List Nat) : Prop where
  r1 : RoomAt R H ra x a
  r2 : RoomAt R H rb y b
  p1 : PlanAt C H x (ascOf ls) (tabPairs ls fn)
  p2 : PlanAt C H y (ascOf ls) (tabPairs ls fn)
  fl : Fl ls fn
  na : NF fn a
  nb : NF fn b
  ma : ∀ c ∈ a, c ∈ ls
  mb : ∀ c ∈ b, c ∈ ls
  la : a.length ≤ 200
  lb : b.length ≤ 200
theorem Two.same {C R : Addr} {H H' : Hp} {ra x : Addr} {a : List Nat} {rb y : Addr} {b : List Nat} {ls : List Nat} {fn : Nat → List Nat} (h : Two C R H ra x a rb y b ls fn) (s : Same H H') : Two C R H' ra x a rb y b ls fn :=
  ⟨h.r1.same s, h.r2.same s, h.p1.same s, h.p2.same s, h.fl, h.na, h.nb, h.ma, h.mb, h.la, h.lb⟩
theorem Two.swap {C R : Addr} {H : Hp} {ra x : Addr} {a : List Nat} {rb y : Addr} {b : List Nat} {ls : List Nat} {fn : Nat → List Nat} (h : Two C R H ra x a rb y b ls fn) : Two C R H rb y b ra x a ls fn :=
  ⟨h.r2, h.r1, h.p2, h.p1, h.fl, h.nb, h.na, h.mb, h.ma, h.lb, h.la⟩
theorem Two.ps {C R : Addr} {H : Hp} {ra x : Addr} {a : List Nat} {rb y : Addr} {b : List Nat} {ls : List Nat} {fn : Nat → List Nat} (h : Two C R H ra x a rb y b ls fn) : PsOk (tabPairs ls fn) := pairsOf_small _
section
variable {P : Program} {w : World} {K : PySem.W.Frag} {mg : Str → Option Value} {base : Heap} {C R O W NB : Addr}
end
end
section
open PySem PySem.Spec L2
/-! ### lists of vectors -/
section
variable {K : PySem.W.Frag} {H : Hp} {ls : List Nat} {us : List (Nat → Int)} {As : List Addr} {D0 : Addr} {σ : St} {i : Nat} {tt : TT} {te : TE} {P : Addr → Hp → Prop}
theorem VecsAt.pen {D : Addr} {g : Pen} {n : Nat} {H' : Hp} (h : VecsAt H D ls us) (p : PenAt g H n) (kp : Keep g.p H H') : VecsAt H' D ls us := by
  obtain ⟨As, e, pr⟩ := h.ex
  obtain ⟨_, _, h1, _⟩ := p.ex
  exact ⟨As, kp _ _ e (ne_of e h1 (by intro z; cases z)), paired_imp (fun a u z => kp _ _ z (ne_of z h1 (by intro z; cases z))) pr⟩
theorem VecsAt.keep {D p : Addr} {l : List V} {H' : Hp} (h : VecsAt H p ls us) (n : p ≠ D) (e0 : H D = some (.lst l)) (k : Keep D H H') : VecsAt H' p ls us := by
  obtain ⟨As, e, pr⟩ := h.ex
  exact ⟨As, k _ _ e n, paired_imp (fun a u z => k _ _ z (ne_of z e0 (by intro z; cases z))) pr⟩
end
end
section
open PySem PySem.Spec L2
theorem Gate.len {f : Nat → List Nat} {ls r N x : List Nat} {S : List (List Nat)} (ok : CrOk f) (h : Gate f ls r S N) (hx : x ∈ S) : N.length ≤ 2 * r.length + x.length := by
  have b := h.bt x hx
  unfold Btw at b
  have w := way_le f r x
  have e := way_goes ok r N
  have e2 : nameOf f N = N := (is_NF ok).mpr h.nf
  have l : (nameOf f (r ++ wayC f r N)).length ≤ (r ++ wayC f r N).length := name_len f _
  rw [e, e2, List.length_append] at l
  omega
/-- rooms of one floor in a list or a tuple -/
structure RoomsQ (K : PySem.W.Frag) (C R : Addr) (H : Hp) (p : Addr) (ls : List Nat) (fn : Nat → List Nat) (S : List (List Nat)) : Prop where
  ex : ∃ rs : List (Addr × Addr), SeqO K H p (rs.map fun a => V.ref a.1) ∧ Paired (fun a s => RoomAt R H a.1 a.2 s ∧ PlanAt C H a.2 (ascOf ls) (tabPairs ls fn)) rs S
theorem RoomsQ.same {K : PySem.W.Frag} {C R : Addr} {H H' : Hp} {p : Addr} {ls : List Nat} {fn : Nat → List Nat} {S : List (List Nat)} (h : RoomsQ K C R H p ls fn S) (s : Same H H') : RoomsQ K C R H' p ls fn S := by
  obtain ⟨rs, e, pr⟩ := h.ex
  exact ⟨rs, e.same s, paired_imp (fun a b z => ⟨z.1.same s, z.2.same s⟩) pr⟩
section
variable {K : PySem.W.Frag} {H : Hp} {Q : VK} {p : Addr} {xs : List V} {v : V}
end
section
variable {P : Program} {w : World} {K : PySem.W.Frag} {mg : Str → Option Value} {base : Heap} {C R O : Addr}
end
end
section
open PySem PySem.Spec L2
/-- a wall of the floor stands at a -/
def WallQ (C R W : Addr) (H : Hp) (ls : List Nat) (fn : Nat → List Nat) (a : Addr) (key : List Nat × Nat) : Prop := ∃ r x, WallAt W R H a r x key.2 key.1 ∧ PlanAt C H x (ascOf ls) (tabPairs ls fn)
theorem WallQ.same {C R W : Addr} {H H' : Hp} {ls : List Nat} {fn : Nat → List Nat} {a : Addr} {key : List Nat × Nat} (h : WallQ C R W H ls fn a key) (s : Same H H') : WallQ C R W H' ls fn a key := by
  obtain ⟨r, x, w, p⟩ := h
  exact ⟨r, x, w.same s, p.same s⟩
/-- walls of one floor in a list or a tuple; behind them perhaps one of another plan -/
structure WallsQ (K : PySem.W.Frag) (C R W : Addr) (H : Hp) (p : Addr) (ls : List Nat) (fn : Nat → List Nat) (keys : List (List Nat × Nat)) (as : List Addr) (al : Bool) : Prop where
  sq : ∃ bs : List Addr, SeqO K H p ((as ++ bs).map V.ref) ∧ (al = false → bs = []) ∧ (al = true → ∃ b r x k m ks ps, bs = [b] ∧ WallAt W R H b r x k m ∧ PlanAt C H x ks ps ∧ PsOk ps ∧ ¬ (ascOf ls = ks ∧ tabPairs ls fn = ps))
  pr : Paired (WallQ C R W H ls fn) as keys
theorem WallsQ.same {K : PySem.W.Frag} {C R W : Addr} {H H' : Hp} {p : Addr} {ls : List Nat} {fn : Nat → List Nat} {keys : List (List Nat × Nat)} {as : List Addr} {al : Bool} (h : WallsQ K C R W H p ls fn keys as al) (s : Same H H') : WallsQ K C R W H' p ls fn keys as al := by
  obtain ⟨⟨bs, e, z1, z2⟩, pr⟩ := h
  refine ⟨⟨bs, e.same s, z1, fun q => ?_⟩, paired_imp (fun a b z => z.same s) pr⟩
  obtain ⟨b, r, x, k, m, ks, ps, e1, w, pl, ok, ne⟩ := z2 q
  exact ⟨b, r, x, k, m, ks, ps, e1, w.same s, pl.same s, ok, ne⟩
structure TxtCo (P : Program) (K : PySem.W.Frag) (mg : Str → Option Value) (C R O W B NC NW : Addr) (st1 : Stmt) : Prop extends TxtW K mg C R O W where
  bk : TxtB K mg C R O B
  NoWalls : ExcF K mg "NoWalls" NW
theorem way_any16 {ls : List Nat} {fn : Nat → List Nat} {a b : List Nat} (fl : Fl ls fn) (ha : ∀ c ∈ a, c ∈ ls) (hb : ∀ c ∈ b, c ∈ ls) : wayOf (ascOf ls) (tabPairs ls fn) a b = wayC fn a b := by
  have m1 : ∀ c ∈ a.reverse, c ∈ ls := fun c hc => ha c (List.mem_reverse.mp hc)
  unfold wayOf backOf
  rw [joinOf_tab fl.tab (name := []) (by simp) m1, joinOf_tab fl.tab (memN m1) hb, ← joinC_app]
  rfl
section
variable {P : Program} {w : World} {K : PySem.W.Frag} {mg : Str → Option Value} {base : Heap} {C R O W B NC NW : Addr} {st1 : Stmt}
end
end
section
open PySem PySem.Spec L2
def allX (fn : Nat → List Nat) (u v : List Nat) : Prop := ∀ p ∈ u, ∀ q ∈ v, p ∈ fn q
instance (fn : Nat → List Nat) (u v : List Nat) : Decidable (allX fn u v) := inferInstanceAs (Decidable (∀ p ∈ u, ∀ q ∈ v, p ∈ fn q))
structure TxtQ (K : PySem.W.Frag) (mg : Str → Option Value) (C R O W : Addr) : Prop extends TxtW K mg C R O W where
  Room_sf : PySem.W.selfFirst K R = true
section
variable {P : Program} {w : World} {K : PySem.W.Frag} {mg : Str → Option Value} {base : Heap} {C R O W NB : Addr}
end
end
section
open PySem PySem.Spec L2
structure TxtN (K : PySem.W.Frag) (mg : Str → Option Value) (C R O B : Addr) : Prop extends TxtB K mg C R O B where
  Room_sf : PySem.W.selfFirst K R = true
theorem paired_at25 {α β : Type} {r : α → β → Prop} : ∀ {as : List α} {bs : List β}, as.length = bs.length → (∀ (u : Nat) (a : α) (b : β), as[u]? = some a → bs[u]? = some b → r a b) → Paired r as bs
  | [], [], _, _ => .nil
  | [], _ :: _, h, _ => by cases h
  | _ :: _, [], h, _ => by cases h
  | a :: as, b :: bs, h, k => .cons (k 0 a b rfl rfl) (paired_at25 (by simpa using h) fun u x y h1 h2 => k (u + 1) x y h1 h2)
theorem refs25 : ∀ {vs : List V} {S : Nat → Addr → Prop}, (∀ j v, vs[j]? = some v → ∃ p, v = .ref p ∧ S j p) → ∃ ps : List Addr, vs = ps.map V.ref ∧ ∀ j p, ps[j]? = some p → S j p
  | [], _, _ => ⟨[], rfl, fun j p z => by simp at z⟩
  | v :: vs, S, h => by
    obtain ⟨p, rfl, s0⟩ := h 0 v rfl
    obtain ⟨ps, rfl, s1⟩ := refs25 (vs := vs) (S := fun j => S (j + 1)) fun j v z => h (j + 1) v z
    refine ⟨p :: ps, rfl, fun j q z => ?_⟩
    cases j with
    | zero =>
      cases z
      exact s0
    | succ j => exact s1 j q z
theorem all_cross25 {ls : List Nat} {fn : Nat → List Nat} (fl : Fl ls fn) {K : List Nat} (mK : ∀ k ∈ K, k ∈ ls) : allCross (ascOf ls) (tabPairs ls fn) K K = true ↔ Cliq fn K := by
  unfold allCross
  rw [List.all_eq_true]
  constructor
  · intro h a ha b hb ne
    have z := h b hb
    rw [List.all_eq_true] at z
    have y := of_decide_eq_true (z a ha)
    exact (cross_tab fl.tab (mK b hb) (mK a ha)).mp (y.resolve_left fun e => ne e.symm)
  · intro h a ha
    rw [List.all_eq_true]
    intro b hb
    refine decide_eq_true ?_
    by_cases e : a = b
    · exact .inl e
    · exact .inr ((cross_tab fl.tab (mK a ha) (mK b hb)).mpr (h b hb a ha fun z => e z.symm))
theorem many25 {ls : List Nat} {fn : Nat → List Nat} (fl : Fl ls fn) {K : List Nat} (mK : ∀ k ∈ K, k ∈ ls) (cl : Cliq fn K) : manyOf (ascOf ls) (tabPairs ls fn) K = .int (2 ^ K.length) := if_pos ((all_cross25 fl mK).mpr cl)
theorem many_not25 {ls : List Nat} {fn : Nat → List Nat} (fl : Fl ls fn) {K : List Nat} (mK : ∀ k ∈ K, k ∈ ls) (cl : ¬ Cliq fn K) : manyOf (ascOf ls) (tabPairs ls fn) K = .non := if_neg fun z => cl ((all_cross25 fl mK).mp z)
theorem paired_id25 {R : Addr → List Nat → Prop} {g : List Nat → List Nat} : ∀ {ps : List Addr} {ns : List (List Nat)}, Paired (fun p n => R p (g n)) ps ns → (∀ m ∈ ns, g m = m) → Paired R ps ns
  | _, _, .nil, _ => .nil
  | _, _, .cons h t, hm => .cons (by have := hm _ (.head _); rwa [this] at h) (paired_id25 t fun m hm' => hm m (.tail _ hm'))
theorem range_map25 (g : List Nat → List Nat) (ls : List (List Nat)) : ((List.range ls.length).filter fun _ => true).map (fun k => V.str (tx (g (ls.getD k [])))) = (ls.map g).map fun l => V.str (tx l) := by
  rw [List.filter_eq_self.mpr fun _ _ => rfl]
  apply List.ext_getElem
  · simp
  · intro i h1 h2
    simp only [List.getElem_map, List.getElem_range]
    have h3 : i < ls.length := by simpa using h2
    rw [List.getD_eq_getElem?_getD, List.getElem?_eq_getElem h3]
    rfl
def names25 (fn : Nat → List Nat) (n K : List Nat) : List (List Nat) := (subsL K).map fun S => nameOf fn (n ++ S)
theorem names_snoc25 {fn : Nat → List Nat} (ok : CrOk fn) (n K : List Nat) (k : Nat) : names25 fn n (K ++ [k]) = names25 fn n K ++ (names25 fn n K).map fun m => stepOf (fn k) m k := by
  unfold names25
  rw [subs_snoc, List.map_append, List.map_map, List.map_map]
  congr 1
  refine List.map_congr_left fun S _ => ?_
  show nameOf fn (n ++ (S ++ [k])) = stepOf (fn k) (nameOf fn (n ++ S)) k
  rw [← List.append_assoc]
  unfold nameOf joinC
  rw [List.foldl_append]
  rfl
theorem names_len25 (fn : Nat → List Nat) (n K : List Nat) : (names25 fn n K).length = 2 ^ K.length := by
  unfold names25
  rw [List.length_map, subs_len]
theorem subs_short : ∀ (K S : List Nat), S ∈ subsL K → S.length ≤ K.length := by
  refine snocRec (fun S hS => ?_) fun K k ih S hS => ?_
  · have : S = [] := by simpa [subsL] using hS
    subst this
    exact Nat.le_refl _
  · rw [subs_snoc] at hS
    rw [List.length_append, List.length_singleton]
    rcases List.mem_append.mp hS with z | z
    · have := ih S z
      omega
    · obtain ⟨S0, z0, rfl⟩ := List.mem_map.mp z
      have := ih S0 z0
      rw [List.length_append, List.length_singleton]
      omega
theorem names_mem25 {ls : List Nat} {fn : Nat → List Nat} {n K : List Nat} (mn : ∀ y ∈ n, y ∈ ls) (mK : ∀ y ∈ K, y ∈ ls) : ∀ m ∈ names25 fn n K, (∀ y ∈ m, y ∈ ls) ∧ m.length ≤ n.length + K.length := by
  intro m hm
  obtain ⟨S, hS, rfl⟩ := List.mem_map.mp hm
  have l := name_len fn (n ++ S)
  have := subs_short K S hS
  rw [List.length_append] at l
  exact ⟨fun y hy => (List.mem_append.mp (name_mem hy)).elim (mn y) fun z => mK y (subs_mem K S hS y z), by omega⟩
theorem getD_memL25 {l : List (List Nat)} {j : Nat} (h : j < l.length) : l.getD j [] ∈ l := by
  rw [List.getD_eq_getElem?_getD, List.getElem?_eq_getElem h]
  exact List.getElem_mem h
/-- a block on a drawn floor -/
structure BlkF (C R B : Addr) (H : Hp) (a r x : Addr) (ls : List Nat) (fn : Nat → List Nat) (n K : List Nat) : Prop where
  blk : BlockAt B R H a r x K n (manyOf (ascOf ls) (tabPairs ls fn) K)
  pl : PlanAt C H x (ascOf ls) (tabPairs ls fn)
  nf : NF fn n
  mn : ∀ y ∈ n, y ∈ ls
  mK : ∀ k ∈ K, k ∈ ls
  as : K = ls.filter fun k => decide (k ∈ K)
  ln : n.length ≤ 900
theorem BlkF.same {C R B : Addr} {H H' : Hp} {a r x : Addr} {ls : List Nat} {fn : Nat → List Nat} {n K : List Nat} (h : BlkF C R B H a r x ls fn n K) (s : Same H H') : BlkF C R B H' a r x ls fn n K := ⟨h.blk.same s, h.pl.same s, h.nf, h.mn, h.mK, h.as, h.ln⟩
theorem BlkF.nd {C R B : Addr} {H : Hp} {a r x : Addr} {ls : List Nat} {fn : Nat → List Nat} {n K : List Nat} (h : BlkF C R B H a r x ls fn n K) (fl : Fl ls fn) : K.Nodup := by
  rw [h.as]
  exact fl.tab.nd.sublist List.filter_sublist
theorem BlkF.lk {C R B : Addr} {H : Hp} {a r x : Addr} {ls : List Nat} {fn : Nat → List Nat} {n K : List Nat} (h : BlkF C R B H a r x ls fn n K) (fl : Fl ls fn) : K.length ≤ 8 := by
  rw [h.as]
  exact Nat.le_trans (List.length_filter_le _ _) fl.tab.len
theorem BlkF.kin {C R B : Addr} {H : Hp} {a r x : Addr} {ls : List Nat} {fn : Nat → List Nat} {n K : List Nat} (h : BlkF C R B H a r x ls fn n K) (fl : Fl ls fn) : kindsIn (ascOf ls) K = K := by
  unfold kindsIn
  rw [asc_self fl]
  exact h.as.symm
theorem asc_len25 {ls : List Nat} {fn : Nat → List Nat} (fl : Fl ls fn) : (ascOf ls).length ≤ 8 := by
  rw [asc_self fl]
  exact fl.tab.len
theorem base_tab25 {ls : List Nat} {fn : Nat → List Nat} (fl : Fl ls fn) {K n : List Nat} (mn : ∀ y ∈ n, y ∈ ls) (nf : NF fn n) : joinOf (ascOf ls) (tabPairs ls fn) [] (baseOf (ascOf ls) (tabPairs ls fn) n K) = baseC fn K n := by
  have e : baseOf (ascOf ls) (tabPairs ls fn) n K = baseC fn K n := by
    unfold baseOf baseC
    rw [splitA_congr (g := fn) (free' := K) (fun c hc => Iff.rfl) fun k hk c hc => ?_]
    exact cross_tab fl.tab (mn k (List.mem_reverse.mp hk)) (mn c (List.mem_reverse.mp hc))
  rw [e, joinOf_tab fl.tab (name := []) (by simp) fun y hy => mn y (base_mem y hy)]
  exact base_name fl.ok nf
theorem split_tab25 {ls : List Nat} {fn : Nat → List Nat} (fl : Fl ls fn) {K w : List Nat} (mw : ∀ y ∈ w, y ∈ ls) : splitA (crossOf (ascOf ls) (tabPairs ls fn)) K w = splitA fn K w :=
  splitA_congr (g := fn) (free' := K) (fun c hc => Iff.rfl) fun k hk c hc => cross_tab fl.tab (mw k hk) (mw c hc)
/-- Block(room, kinds) on a drawn floor -/
theorem sp_block {C R B : Addr} {H : Hp} {Q : VK} {E : XK} {r x : Addr} {ls : List Nat} {fn : Nat → List Nat} {n K : List Nat} (fl : Fl ls fn) (ro : RoomAt R H r x n) (pl : PlanAt C H x (ascOf ls) (tabPairs ls fn)) (nf : NF fn n) (mn : ∀ y ∈ n, y ∈ ls) (ln : n.length ≤ 900) (mK : ∀ k ∈ K, k ∈ ls) (nK : K.Nodup)
    (q : ∀ a r' H', H a = none → Same H H' → BlkF C R B H' a r' x ls fn (baseC fn (ls.filter fun k => decide (k ∈ K)) n) (ls.filter fun k => decide (k ∈ K)) → Q (.ref a) H') : spBlock C R B [.ref r, .str (tx K)] H Q E := by
  have al := asc_len25 fl
  have lk : K.length ≤ 8 := Nat.le_trans (List.Nodup.length_le_of_subset nK fun k hk => mK k hk) fl.tab.len
  refine ⟨r, x, _, _, n, K, rfl, ro, pl, inAsc fl.tab mn, inAsc fl.tab mK, nK, by omega, by omega, by omega, fun a r' H' ha s b => q a r' H' ha s ?_⟩
  have ek : kindsIn (ascOf ls) K = ls.filter fun k => decide (k ∈ K) := by unfold kindsIn; rw [asc_self fl]
  rw [ek, base_tab25 fl mn nf] at b
  obtain ⟨_, _, _, _, el⟩ := base_spec fl.ok (ls.filter fun k => decide (k ∈ K)) n
  refine ⟨b, pl.same s, base_NF nf, fun y hy => mn y (base_mem y hy), fun k hk => (List.mem_filter.mp hk).1, List.filter_congr fun k hk => ?_, by omega⟩
  rw [decide_eq_decide, List.mem_filter, decide_eq_true_iff]
  exact ⟨fun z => ⟨hk, z⟩, fun z => z.2⟩
theorem filt_self25 {C R B : Addr} {H : Hp} {a r x : Addr} {ls : List Nat} {fn : Nat → List Nat} {n K : List Nat} (h : BlkF C R B H a r x ls fn n K) : (ls.filter fun k => decide (k ∈ K)) = K := h.as.symm
def spNearestB (C R B O : Addr) : Sp := fun vs H Q E => ∃ (a r x s y : Addr) (ls : List Nat) (fn : Nat → List Nat) (n K m : List Nat) (e : Bool), vs = [.ref a, .ref s] ∧ BlkF C R B H a r x ls fn n K ∧ Fl ls fn ∧ RoomAt R H s y m ∧ Plans2 C H x y e ∧
  (e = true → (∀ c ∈ m, c ∈ ls) ∧ m.length ≤ 900 ∧ (wayC fn n m).length ≤ 900 ∧ ∀ r' H', H r' = none → Same H H' → RoomAt R H' r' x (nameOf fn (n ++ (splitA fn K (wayC fn n m)).1)) → Q (.ref r') H') ∧ (e = false → E (.ref O) none H)
def spInBlock (C R B : Addr) : Sp := fun vs H Q _ => ∃ (a r x s y : Addr) (ls : List Nat) (fn : Nat → List Nat) (n K m : List Nat) (e : Bool), vs = [.ref a, .ref s] ∧ BlkF C R B H a r x ls fn n K ∧ Fl ls fn ∧ RoomAt R H s y m ∧ Plans2 C H y x e ∧
  (e = true → PlanAt C H y (ascOf ls) (tabPairs ls fn) ∧ NF fn m ∧ (∀ c ∈ m, c ∈ ls) ∧ m.length ≤ 900) ∧ ∀ H', Same H H' → Q (.bl (e && decide (baseC fn K m = n))) H'
def spRoomsOf (C R : Addr) : Sp := fun vs H Q _ => ∃ (x q : Addr) (ls : List Nat) (fn : Nat → List Nat) (ns : List (List Nat)), vs = [.ref x, .ref q] ∧ PlanAt C H x (ascOf ls) (tabPairs ls fn) ∧ Fl ls fn ∧ H q = some (.lst (ns.map fun l => V.str (tx l))) ∧ (∀ l ∈ ns, (∀ y ∈ l, y ∈ ls) ∧ l.length ≤ 1000) ∧ ns.length ≤ 1000 ∧
  ∀ (l : Addr) (ns' : List (List Nat)) (ps : List Addr) H', H l = none → Same H H' → ns'.Perm ns → ns'.Pairwise shortLe → H' l = some (.lst (ps.map V.ref)) → Paired (fun p n => RoomAt R H' p x (nameOf fn n)) ps ns' → Q (.ref l) H'
def spListed (C R B : Addr) : Sp := fun vs H Q _ => ∃ (a r x : Addr) (ls : List Nat) (fn : Nat → List Nat) (n K : List Nat), vs = [.ref a] ∧ BlkF C R B H a r x ls fn n K ∧ Fl ls fn ∧ Cliq fn K ∧
  ∀ (l : Addr) (ns : List (List Nat)) (ps : List Addr) H', H l = none → Same H H' → ns.Perm ((subsL K).map fun S => nameOf fn (n ++ S)) → ns.Pairwise shortLe → H' l = some (.lst (ps.map V.ref)) → Paired (fun p n => RoomAt R H' p x n) ps ns → Q (.ref l) H'
section
variable {P : Program} {w : World} {K : PySem.W.Frag} {mg : Str → Option Value} {base : Heap} {C R O B : Addr}
abbrev stBlock_nearest : Stmt := (inClass (top 35) 5)
abbrev NBlock_nearest : List Str := ["self", "room", "begun", "rest"]
theorem scBlock_nearest : FnScope NBlock_nearest ["self", "room"] (defScope stBlock_nearest) := ⟨rfl, rfl, rfl, by decide +kernel, rfl, by decide +kernel, by decide +kernel⟩

theorem ok_Block_nearest (F : MAt K B "nearest" "Block.nearest" stBlock_nearest) (T : TxtN K mg C R O B) (D_need_same : Def P w K mg base (L2.CX P w) 3 "need_same" ["plan", "other"] (spNeedSame C O)) (D_way_from : Def P w K mg base CX0 4 "way_from" ["plan", "name", "goal"] (spWayFrom C)) (D_split_ahead : Def P w K mg base CX0 2 "split_ahead" ["plan", "way", "kinds"] (spSplit C)) (M_Room_add : MDef P w K mg base CX0 5 R "__add__" ["self", "way"] (spRoomAdd C R)) :
    MDef P w K mg base (L2.CX P w) 6 B "nearest" ["self", "room"] (spNearestB C R B O) := by
  refine F.okX scBlock_nearest (fun _ _ _ _ _ _ us hl => match us, hl with | [_, _], _ => rfl) (fun vs H Q E h => ?_) (fun f cdv A outer s H vs Q E hr h => ?_)
  · obtain ⟨a, r, x, s, y, ls, fn, n, K, m, e, rfl, _⟩ := h
    rfl
  obtain ⟨a, r, x, s', y, ls, fn, n, Kk, m, e, rfl, hb, fl, ro2, pp, q1, q2⟩ := h
  have hu := hu_of hr
  have nd := scBlock_nearest.nd
  replace D_need_same := D_need_same.mono (show 3 ≤ 5 by decide)
  replace D_way_from := D_way_from.mono (show 4 ≤ 5 by decide)
  replace D_split_ahead := D_split_ahead.mono (show 2 ≤ 5 by decide)
  refine ⟨_, (pss_cons (ps_expr (pe_cd D_need_same hr (passes_call (takes_of rfl rfl rfl rfl) (fun _ _ _ _ h => h)) (pa_cons (pe_flK (K := K) rfl (pv 0) rfl) (pa_cons (pe_flK (K := K) rfl (pv 1) rfl) pa_nil))))
      (pss_cons (ps_asg (pe_cd D_split_ahead hr pass0 (pa_cons (pe_flK (K := K) rfl (pv 0) rfl) (pa_cons (pe_cd D_way_from hr pass0 (pa_cons (pe_flK (K := K) rfl (pv 0) rfl) (pa_cons (pe_flK (K := K) rfl (pe_flK (K := K) rfl (pv 0) rfl) rfl) (pa_cons (pe_flK (K := K) rfl (pv 1) rfl) pa_nil)))) (pa_cons (pe_flK (K := K) rfl (pv 0) rfl) pa_nil)))) (pg_tup rfl (pgs_cons (pg_name (i := 2) nd rfl (Or.inl rfl)) (pgs_cons (pg_name (i := 3) nd rfl (Or.inl rfl)) pgs_nil))))
      (pss_one (ps_ret (pe_op (op_addM M_Room_add T.Room_sf hr pass0) (pe_flK (K := K) rfl (pv 0) rfl) (pv 2)))))), ?_⟩
  refine s_start [some _, some _, none, none] rfl ?_
  obtain ⟨⟨dx, e1⟩, ro1⟩ := hb.blk
  obtain ⟨dr, f1⟩ := ro1.ex
  obtain ⟨ds, f2⟩ := ro2.ex
  walk_at "go"
  refine v_fld e1 T.Block.cl T.nBp blockF_p ?_
  walk_at "go"
  refine v_fld f2 T.Room.cl T.nPl roomF_p ?_
  walk_at "go"
  refine ⟨x, y, e, rfl, pp, fun he => ?_, fun he => q2 he⟩
  obtain ⟨mm, lm, lw, q⟩ := q1 he
  have ln := hb.ln
  have lk := hb.lk fl
  walk_at "go"
  refine v_fld e1 T.Block.cl T.nBp blockF_p ?_
  walk_at "go"
  refine v_fld e1 T.Block.cl T.nBp blockF_p ?_
  walk_at "go"
  refine v_fld e1 T.Block.cl T.nBr blockF_r ?_
  walk_at "go"
  refine v_fld f1 T.Room.cl T.nNm roomF_n ?_
  walk_at "go"
  refine v_fld f2 T.Room.cl T.nNm roomF_n ?_
  walk_at "go"
  refine ⟨x, _, _, n, m, rfl, hb.pl, inAsc fl.tab hb.mn, inAsc fl.tab mm, by omega, by omega, ?_⟩
  rw [way_any16 fl hb.mn mm]
  have mw := way_in25 (f := fn) hb.mn mm
  walk_at "go"
  refine v_fld e1 T.Block.cl T.nBk blockF_k ?_
  walk_at "go"
  refine ⟨x, _, _, _, Kk, rfl, hb.pl, inAsc fl.tab mw, by omega, by omega, fun p H1 hp s1 e2 => ?_⟩
  rw [split_tab25 fl mw] at e2
  refine v_gTup2 rfl e2 ?_
  walk_at "go"
  refine v_fld (s1 _ _ e1) T.Block.cl T.nBr blockF_r ?_
  walk_at "go"
  have rn : RoomAt R H1 r x (nameOf fn n) := by
    rw [show nameOf fn n = n from (is_NF fl.ok).mpr hb.nf]
    exact ro1.same s1
  have sl := splitA_len fn (wayC fn n m) Kk
  refine v_add fl rn (hb.pl.same s1) hb.mn (fun c hc => hb.mK c (splitA_in _ _ _ c hc)) (by omega) (by omega) fun r' H2 hr2 s2 ro => ?_
  exact q r' H2 (L2.Same.free s1 hr2) (s1.trans s2) ro
abbrev stBlock_contains : Stmt := (inClass (top 35) 1)
abbrev NBlock_contains : List Str := ["self", "value"]
theorem scBlock_contains : FnScope NBlock_contains ["self", "value"] (defScope stBlock_contains) := ⟨rfl, rfl, rfl, by decide +kernel, rfl, by decide +kernel, by decide +kernel⟩

theorem ok_Block_contains (F : MAt K B "__contains__" "Block.__contains__" stBlock_contains) (T : TxtN K mg C R O B) (M_Plan_eq : MDef P w K mg base CX0 1 C "__eq__" ["self", "other"] (spPlanEq C)) (C_Block : CDef P w K mg base CX0 5 "Block" B (spBlock C R B)) (M_Room_eq : MDef P w K mg base CX0 2 R "__eq__" ["self", "other"] (spRoomEq C R)) :
    MDef P w K mg base CX0 7 B "__contains__" ["self", "value"] (spInBlock C R B) := by
  refine F.ok scBlock_contains (fun _ _ _ _ _ _ us hl => match us, hl with | [_, _], _ => rfl) (fun vs H Q E h => ?_) (fun f cdv A outer s H vs Q E hr h => ?_)
  · obtain ⟨a, r, x, s, y, ls, fn, n, K, m, e, rfl, _⟩ := h
    rfl
  obtain ⟨a, r, x, s', y, ls, fn, n, Kk, m, e, rfl, hb, fl, ro2, pp, q1, q2⟩ := h
  have hu := hu_of hr
  have nd := scBlock_contains.nd
  replace M_Plan_eq := M_Plan_eq.mono (show 1 ≤ 6 by decide)
  replace M_Room_eq := M_Room_eq.mono (show 2 ≤ 6 by decide)
  refine ⟨_, (pss_one (ps_ret (pe_and (pe_callB (c_isiK (K := K) rfl) (by rfl) T.isinstance (by decide +kernel) (pa_cons (pv 1) (pa_cons (pe_globC T.Room.at) pa_nil))) (pe_and (pe_cmpR (op_cmpM (op := .Eq) (fun _ _ => rfl) M_Plan_eq hr pass0) (pe_flK (K := K) rfl (pv 1) rfl) (pe_flK (K := K) rfl (pv 0) rfl) (nomark _)) (pe_one (pe_cmpR (op_cmpM (op := .Eq) (fun _ _ => rfl) M_Room_eq hr pass0) (pe_flK (K := K) rfl (pe_mk C_Block hr pass0 (pa_cons (pv 1) (pa_cons (pe_flK (K := K) rfl (pv 0) rfl) pa_nil))) rfl) (pe_flK (K := K) rfl (pv 0) rfl) (nomark _))))))), ?_⟩
  refine s_start [some _, some _] rfl ?_
  obtain ⟨⟨dx, e1⟩, ro1⟩ := hb.blk
  obtain ⟨dr, f1⟩ := ro1.ex
  obtain ⟨ds, f2⟩ := ro2.ex
  obtain ⟨ks, ks', ps, ps', pa, pb, oa, ob, he⟩ := pp
  obtain ⟨dpa, ta, da, ga, _⟩ := pa.ex
  obtain ⟨dpb, tb, db, gb, _⟩ := pb.ex
  have ln := hb.ln
  walk_at "go"
  refine v_isiC T.Room f2 ?_
  walk_at "go"
  refine v_fld f2 T.Room.cl T.nPl roomF_p ?_
  walk_at "go"
  refine v_fld e1 T.Block.cl T.nBp blockF_p ?_
  walk_at "go"
  refine v_M2 ga gb ⟨y, x, ks, ks', ps, ps', rfl, pa, pb, oa, ob, ?_⟩
  rw [← he]
  walk_at "go"
  refine if_bool (fun c1 => ?_) (fun c1 => ?_)
  · rw [c1, Bool.true_and] at q2
    obtain ⟨py, nm, mm, lm⟩ := q1 c1
    walk_at "go"
    refine v_fld e1 T.Block.cl T.nBk blockF_k ?_
    walk_at "go"
    refine sp_block fl ro2 py nm mm lm hb.mK (hb.nd fl) fun b r' H1 hb1 s1 hb' => ?_
    rw [filt_self25 hb] at hb'
    obtain ⟨⟨dx', e2⟩, ro3⟩ := hb'.blk
    obtain ⟨dr3, f3⟩ := ro3.ex
    walk_at "go"
    refine v_fld e2 T.Block.cl T.nBr blockF_r ?_
    walk_at "go"
    refine v_fld (s1 _ _ e1) T.Block.cl T.nBr blockF_r ?_
    walk_at "go"
    refine v_M2 f3 (s1 _ _ f1) ⟨r', y, _, r, x, n, true, rfl, ⟨ro3, ro1.same s1, ⟨ks, ks', ps, ps', pa.same s1, pb.same s1, oa, ob, by rw [← he, c1]⟩, by have := hb'.ln; omega, by omega⟩, ?_⟩
    rw [Bool.true_and]
    exact q2 H1 s1
  · rw [c1, Bool.false_and] at q2
    exact q2 H (Same.refl _)
abbrev strooms_of : Stmt := (top 30)
abbrev Nrooms_of : List Str := ["plan", "names", "name"]
theorem scrooms_of : FnScope Nrooms_of ["plan", "names"] (defScope strooms_of) := ⟨rfl, rfl, rfl, by decide +kernel, rfl, by decide +kernel, by decide +kernel⟩

theorem ok_rooms_of (F : FnAt K mg "rooms_of" strooms_of) (D_in_order : Def P w K mg base CX0 1 "in_order" ["names"] spInOrder) (C_Room : CDef P w K mg base CX0 3 "Room" R (spRoom C R)) : Def P w K mg base CX0 5 "rooms_of" ["plan", "names"] (spRoomsOf C R) := by
  refine F.ok scrooms_of (fun _ _ _ _ _ _ us hl => match us, hl with | [_, _], _ => rfl) (fun vs H Q E h => ?_) (fun f cdv A outer s H vs Q E hr h => ?_)
  · obtain ⟨x, q, ls, fn, ns, rfl, _⟩ := h
    rfl
  obtain ⟨x, q, ls, fn, ns, rfl, pl, fl, eq, hm, ln, k⟩ := h
  have hu := hu_of hr
  have nd := scrooms_of.nd
  replace D_in_order := D_in_order.mono (show 1 ≤ 4 by decide)
  refine ⟨_, (pss_one (ps_ret (pe_lc (own := [("name", 2)]) (g := gName 2) (by rfl) nd (pi_listK (K := K) rfl (pe_cd D_in_order hr pass0 (pa_cons (pv 1) pa_nil))) (blkOk_by (own := [("name", 2)]) (N := Nrooms_of) (sc := defScope strooms_of) (by decide +kernel)) (fun _ _ _ _ _ => (pg_name (i := 2) nd rfl (Or.inl rfl))) (fun _ _ _ _ _ => pts_nil) (fun _ _ _ _ _ => (pe_mk C_Room hr pass0 (pa_cons (pv 0) (pa_cons (pv 2) pa_nil))))))), ?_⟩
  refine s_start [some _, some _, none] rfl ?_
  walk_at "go"
  refine ⟨q, ns, rfl, eq, fun l hl => by have := (hm l hl).2; omega, by omega, fun ns' p H1 hp s1 e1 pm pw => ?_⟩
  walk_at "go"
  refine lc_mapA (fun k v H' => ∃ p', v = .ref p' ∧ RoomAt R H' p' x (nameOf fn (ns'.getD k []))) walk_txs (fun H' s' => SqL.of (s' _ _ e1)) (by rw [pm.length_eq]; omega) ?_ ?_ ?_ ?_ ?_
  · rintro j v H2 H3 ⟨p', rfl, e⟩ s
    exact ⟨p', rfl, e.same s⟩
  · rintro j v H2 H3 D' l' ⟨p', rfl, e⟩ e0 kp
    exact ⟨p', rfl, e.lst e0 kp⟩
  · intro j hj H2 s2 R' r
    walk_at "go"
    exact r H2 (Same.refl _)
  · intro j hj H2 s2 R' r
    walk_at "go"
    obtain ⟨h1, h2⟩ := hm _ (pm.mem_iff.mp (getD_memL25 hj))
    refine sp_room fl (pl.same (s1.trans s2)) h1 (by omega) fun p' H3 hp' s3 ro => ?_
    exact r _ H3 s3 ⟨p', rfl, ro⟩
  intro l H2 vs hl s2 e2 l2 rel2
  obtain ⟨ps, rfl, relp⟩ := refs25 rel2
  walk_at "go"
  refine k l ns' ps H2 (L2.Same.free s1 hl) (s1.trans s2) pm pw e2 (paired_at25 (by simpa using l2) fun u a b h1 h2 => ?_)
  have z := relp u a h1
  rwa [show ns'.getD u [] = b by rw [List.getD_eq_getElem?_getD, h2]; rfl] at z
abbrev stBlock_listed : Stmt := (inClass (top 35) 6)
abbrev NBlock_listed : List Str := ["self", "names", "kind", "name"]
theorem scBlock_listed : FnScope NBlock_listed ["self"] (defScope stBlock_listed) := ⟨rfl, rfl, rfl, by decide +kernel, rfl, by decide +kernel, by decide +kernel⟩

theorem ok_Block_listed (F : MAt K B "listed" "Block.listed" stBlock_listed) (T : TxtN K mg C R O B) (D_rooms_of : Def P w K mg base CX0 5 "rooms_of" ["plan", "names"] (spRoomsOf C R)) (D_stepped : Def P w K mg base CX0 1 "stepped" ["plan", "name", "kind"] (spStepped C)) :
    MDef P w K mg base CX0 6 B "listed" ["self"] (spListed C R B) := by
  refine F.ok scBlock_listed (fun _ _ _ _ _ _ us hl => match us, hl with | [_], _ => rfl) (fun vs H Q E h => ?_) (fun f cdv A outer s H vs Q E hr h => ?_)
  · obtain ⟨a, r, x, ls, fn, n, K, rfl, _⟩ := h
    rfl
  obtain ⟨a, r, x, ls, fn, n, Kk, rfl, hb, fl, cl, q⟩ := h
  have hu := hu_of hr
  have nd := scBlock_listed.nd
  replace D_stepped := D_stepped.mono (show 1 ≤ 5 by decide)
  refine ⟨_, (pss_cons (ps_if (pt_cmpR op_isN1 (pe_flK (K := K) rfl (pv 0) rfl) pe_non (nomark _))
      (pss_one ps_never)
      pss_nil)
      (pss_cons (ps_set (i := 1) nd rfl (Or.inl rfl) (pe_lst (pa_cons (pe_flK (K := K) rfl (pe_flK (K := K) rfl (pv 0) rfl) rfl) pa_nil)))
      (pss_cons (ps_for PassesOwn.never rfl (pi_str (pe_flK (K := K) rfl (pv 0) rfl)) (pg_name (i := 2) nd rfl (Or.inr rfl))
      (pss_one (ps_set (i := 1) nd rfl (Or.inl rfl) (pe_op op_cat1 (pv 1) (pe_lc (own := [("name", 3)]) (g := gName 3) (by rfl) nd (pi_listK (K := K) rfl (pv 1)) (blkOk_by (own := [("name", 3)]) (N := NBlock_listed) (sc := defScope stBlock_listed) (by decide +kernel)) (fun _ _ _ _ _ => (pg_name (i := 3) nd rfl (Or.inl rfl))) (fun _ _ _ _ _ => pts_nil) (fun _ _ _ _ _ => (pe_cd D_stepped hr pass0 (pa_cons (pe_flK (K := K) rfl (pv 0) rfl) (pa_cons (pv 3) (pa_cons (pv 2) pa_nil))))))))))
      (pss_one (ps_ret (pe_cd D_rooms_of hr pass0 (pa_cons (pe_flK (K := K) rfl (pv 0) rfl) (pa_cons (pv 1) pa_nil)))))))), ?_⟩
  refine s_start [some _, none, none, none] rfl ?_
  obtain ⟨⟨dx, e1⟩, ro1⟩ := hb.blk
  obtain ⟨dr, f1⟩ := ro1.ex
  have ln := hb.ln
  have lk := hb.lk fl
  walk_at "go"
  rw [many25 fl hb.mK cl] at e1
  refine v_fld e1 T.Block.cl T.nBm blockF_m ?_
  walk_at "go"
  refine ⟨rfl, false, congrArg V.bl (decide_eq_false fun z => nomatch z), ?_⟩
  walk_at "go"
  refine v_fld e1 T.Block.cl T.nBr blockF_r ?_
  walk_at "go"
  refine v_fld f1 T.Room.cl T.nNm roomF_n ?_
  walk_at "go"
  intro l0 H1 hl0 s1 g1
  have n0 : nameOf fn n = n := (is_NF fl.ok).mpr hb.nf
  walk_at "go"
  refine v_fld (s1 _ _ e1) T.Block.cl T.nBk blockF_k ?_
  refine ⟨tx Kk, rfl, ?_⟩
  refine for_it (walk_tx Kk) (fun i σ H' => ∃ l z1 z2, σ = [some (.ref a), some (.ref l), z1, z2] ∧ Same H H' ∧ H' l = some (.lst ((names25 fn n (Kk.take i)).map fun m => V.str (tx m)))) ⟨l0, none, none, rfl, s1, by
    rw [g1, List.take_zero]
    show _ = some (HO.lst [V.str (tx (nameOf fn (n ++ [])))])
    rw [List.append_nil, n0]⟩ (fun _ _ _ _ _ => trivial) ?_ ?_
  · rintro i v σ H2 H3 hi ⟨l, z1, z2, rfl, s2, g2⟩ ⟨rfl, rfl⟩
    have hk : Kk.getD i 0 ∈ Kk := getD_in hi
    have len : (names25 fn n (Kk.take i)).length ≤ 256 := by
      rw [names_len25, List.length_take]
      exact Nat.pow_le_pow_right (by decide : 2 > 0) (show min i Kk.length ≤ 8 by omega)
    have et : Kk.take (i + 1) = Kk.take i ++ [Kk.getD i 0] := by
      rw [List.take_succ, List.getD_eq_getElem?_getD, List.getElem?_eq_getElem hi]
      rfl
    have mm := names_mem25 (fn := fn) hb.mn (K := Kk.take i) fun y hy => hb.mK y (List.mem_of_mem_take hy)
    rw [List.length_take] at mm
    walk_at "go"
    refine lc_gen (n := (names25 fn n (Kk.take i)).length) (it := fun k => V.str (tx ((names25 fn n (Kk.take i)).getD k []))) (b := fun _ => true) (f := fun k => V.str (tx (stepOf (fn (Kk.getD i 0)) ((names25 fn n (Kk.take i)).getD k []) (Kk.getD i 0)))) walk_txs (fun H' s' => SqL.of (s' _ _ g2)) (by omega) (fun k hk H1 s1 R r => ?_) (fun k hk2 _ H1 s4 R r => ?_) (fun D H1 hD s4 g4 => ?_)
    · exact r H1 (Same.refl _)
    · walk_at "go"
      refine v_fld (s4 _ _ (s2 _ _ e1)) T.Block.cl T.nBp blockF_p ?_
      walk_at "go"
      obtain ⟨m1, m2⟩ := mm _ (getD_memL25 hk2)
      refine ⟨x, _, _, _, _, rfl, (hb.pl.same s2).same s4, inAsc (a := [Kk.getD i 0]) fl.tab (by simpa using hb.mK _ hk) _ (by simp), by omega, ?_⟩
      rw [stepOf_tab fl.tab (hb.mK _ hk) m1]
      exact r H1 (Same.refl _)
    rw [range_map25 (fun m => stepOf (fn (Kk.getD i 0)) m (Kk.getD i 0))] at g4
    refine v_cat (s4 _ _ g2) g4 (by simp only [List.length_map]; omega) fun l2 H4 hl2 s5 g5 => ?_
    refine ⟨l2, _, _, rfl, (s2.trans s4).trans s5, ?_⟩
    rw [g5, et, names_snoc25 fl.ok, List.map_append]
  · rintro σ H2 ⟨l, z1, z2, rfl, s2, g2⟩
    rw [List.take_length] at g2
    have mm := names_mem25 (fn := fn) hb.mn hb.mK
    have len : (names25 fn n Kk).length ≤ 256 := by
      rw [names_len25]
      exact Nat.pow_le_pow_right (by decide : 2 > 0) lk
    walk_at "go"
    refine v_fld (s2 _ _ e1) T.Block.cl T.nBp blockF_p ?_
    walk_at "go"
    refine ⟨x, l, ls, fn, names25 fn n Kk, rfl, hb.pl.same s2, fl, g2, fun m hm => ⟨(mm m hm).1, by have := (mm m hm).2; omega⟩, by omega, fun l2 ns' ps H3 hl2 s3 pm pw g3 pr => ?_⟩
    refine q l2 ns' ps H3 (L2.Same.free s2 hl2) (s2.trans s3) pm pw g3 ?_
    have nm : ∀ m ∈ ns', nameOf fn m = m := fun m hm => by
      obtain ⟨S, hS, rfl⟩ := List.mem_map.mp (pm.mem_iff.mp hm)
      exact name_name fl.ok _
    exact paired_id25 pr nm
end
end
section
open PySem PySem.Spec L2
theorem strsV_inj {a b : List (List Nat)} (h : strsV a = strsV b) : a = b := by
  induction a generalizing b with
  | nil =>
    cases b with
    | nil => rfl
    | cons y b => cases h
  | cons x a ih =>
    cases b with
    | nil => cases h
    | cons y b =>
      have h1 := List.cons.inj (show V.str (tx x) :: strsV a = V.str (tx y) :: strsV b from h)
      have e : tx x = tx y := by injection h1.1
      rw [tx_inj.mp e, ih h1.2]
theorem PlanAt.uniq {C : Addr} {H : Hp} {x : Addr} {ks ks' : List Nat} {ps ps' : List (List Nat)} (h : PlanAt C H x ks ps) (h' : PlanAt C H x ks' ps') : ks = ks' ∧ ps = ps' := by
  obtain ⟨dx, t, d, a1, a2, _⟩ := h.ex
  obtain ⟨dx', t', d', b1, b2, _⟩ := h'.ex
  rw [a1] at b1
  injection b1 with b1
  injection b1 with _ _ b1
  have e1 : some (V.str (tx ks)) = some (V.str (tx ks')) := by rw [← planF_k (ks := ks) (t := t) (d := d), b1, planF_k]
  have e2 : some (V.ref t) = some (V.ref t') := by rw [← planF_p (ks := ks) (t := t) (d := d), b1, planF_p]
  injection e1 with e1
  injection e1 with e1
  injection e2 with e2
  injection e2 with e2
  subst e2
  rw [a2] at b2
  injection b2 with b2
  injection b2 with b2
  exact ⟨tx_inj.mp e1, strsV_inj b2⟩
theorem Plans2.self {C : Addr} {H : Hp} {x : Addr} {e : Bool} (h : Plans2 C H x x e) : e = true := by
  obtain ⟨ks, ks', ps, ps', pa, pb, _, _, he⟩ := h
  rw [he]
  exact decide_eq_true (pa.uniq pb)
theorem RoomAt.uniq {R : Addr} {H : Hp} {r x y : Addr} {m n : List Nat} (h : RoomAt R H r x m) (h' : RoomAt R H r y n) : x = y ∧ m = n := by
  obtain ⟨dx, a1⟩ := h.ex
  obtain ⟨dy, b1⟩ := h'.ex
  rw [a1] at b1
  injection b1 with b1
  injection b1 with _ _ b1
  have e1 : some (V.ref x) = some (V.ref y) := by rw [← roomF_p (x := x) (name := m), b1, roomF_p]
  have e2 : some (V.str (tx m)) = some (V.str (tx n)) := by rw [← roomF_n (x := x) (name := m), b1, roomF_n]
  injection e1 with e1
  injection e1 with e1
  injection e2 with e2
  injection e2 with e2
  exact ⟨e1, tx_inj.mp e2⟩
theorem BlockAt.uniq {B R : Addr} {H : Hp} {a r x r' x' : Addr} {k k' m m' : List Nat} {v v' : V} (h : BlockAt B R H a r x k m v) (h' : BlockAt B R H a r' x' k' m' v') : r = r' ∧ k = k' ∧ m = m' := by
  obtain ⟨⟨dx, a1⟩, ro⟩ := h
  obtain ⟨⟨dy, b1⟩, ro'⟩ := h'
  rw [a1] at b1
  injection b1 with b1
  injection b1 with _ _ b1
  have e1 : some (V.ref r) = some (V.ref r') := by rw [← blockF_r (x := x) (r := r) (kinds := k) (v := v), b1, blockF_r]
  have e2 : some (V.str (tx k)) = some (V.str (tx k')) := by rw [← blockF_k (x := x) (r := r) (kinds := k) (v := v), b1, blockF_k]
  injection e1 with e1
  injection e1 with e1
  injection e2 with e2
  injection e2 with e2
  subst e1
  exact ⟨rfl, tx_inj.mp e2, (ro.uniq ro').2⟩
/-- two blocks compared -/
def BEq (C R B : Addr) (a b : Addr) (H : Hp) (e : Bool) : Prop := ∃ (r x : Addr) (k m : List Nat) (v : V) (r' y : Addr) (k' n : List Nat) (v' : V) (e0 : Bool), BlockAt B R H a r x k m v ∧ BlockAt B R H b r' y k' n v' ∧ Rooms2 C R H r x m r' y n e0 ∧ e = ((e0 && decide (m = n)) && decide (k = k'))
theorem BEq.same {C R B : Addr} {a b : Addr} {H H' : Hp} {e : Bool} (h : BEq C R B a b H e) (s : Same H H') : BEq C R B a b H' e := by
  obtain ⟨r, x, k, m, v, r', y, k', n, v', e0, h1, h2, h3, h4⟩ := h
  exact ⟨r, x, k, m, v, r', y, k', n, v', e0, h1.same s, h2.same s, h3.same s, h4⟩
theorem BEq.self {C R B : Addr} {a : Addr} {H : Hp} {e : Bool} (h : BEq C R B a a H e) : e = true := by
  obtain ⟨r, x, k, m, v, r', y, k', n, v', e0, h1, h2, h3, h4⟩ := h
  obtain ⟨rfl, rfl, rfl⟩ := h1.uniq h2
  obtain ⟨rfl, _⟩ := h3.one.uniq h3.two
  rw [h4, h3.pl.self]
  simp
def briF (way kinds : List Nat) (o p : Addr) : List (Str × V) := putF "other" (.ref p) (putF "one" (.ref o) (putF "kinds" (.str (tx kinds)) (putF "way" (.str (tx way)) [])))
structure BriAt (G : Addr) (H : Hp) (g : Addr) (way kinds : List Nat) (o p : Addr) : Prop where
  ex : ∃ dx, H g = some (.ins G dx (briF way kinds o p))
theorem BriAt.same {G : Addr} {H H' : Hp} {g : Addr} {way kinds : List Nat} {o p : Addr} (h : BriAt G H g way kinds o p) (s : Same H H') : BriAt G H' g way kinds o p := by
  obtain ⟨dx, e⟩ := h.ex
  exact ⟨dx, s _ _ e⟩
structure TxtBr (K : PySem.W.Frag) (mg : Str → Option Value) (C R O B G : Addr) : Prop extends TxtN K mg C R O B where
  Bridge : ClsF K mg "Bridge" G
  nGw : NoAttr K G "way"
  nGk : NoAttr K G "kinds"
  nG1 : NoAttr K G "one"
  nG2 : NoAttr K G "other"
theorem blockF_no {x r : Addr} {kinds : List Nat} {v : V} {m : Str} (h1 : ¬ m = "plan") (h2 : ¬ m = "kinds") (h3 : ¬ m = "room") (h4 : ¬ m = "many") : (blockF x kinds r v).lookup m = none := by
  unfold blockF
  rw [lookup_putF, if_neg h4, lookup_putF, if_neg h3, lookup_putF, if_neg h2, lookup_putF, if_neg h1]
  rfl
section
variable {P : Program} {w : World} {K : PySem.W.Frag} {mg : Str → Option Value} {base : Heap} {C R O B G : Addr}
end
theorem plans_of25 {C : Addr} {H : Hp} {x y : Addr} {ls : List Nat} {fn : Nat → List Nat} (h1 : PlanAt C H x (ascOf ls) (tabPairs ls fn)) (h2 : PlanAt C H y (ascOf ls) (tabPairs ls fn)) : Plans2 C H x y true := ⟨_, _, _, _, h1, h2, pairsOf_small _, pairsOf_small _, (decide_eq_true ⟨rfl, rfl⟩).symm⟩
section
variable {P : Program} {w : World} {K : PySem.W.Frag} {mg : Str → Option Value} {base : Heap} {C R O B G : Addr}
end
end
section
open PySem PySem.Spec L2
structure Txt23 (K : PySem.W.Frag) (mg : Str → Option Value) (C R O B EL : Addr) : Prop extends TxtN K mg C R O B where
  Endless : ExcF K mg "Endless" EL
  Block_sf : PySem.W.selfFirst K B = true
def bothK (ls K L : List Nat) : List Nat := ls.filter fun k => decide (k ∈ K.filter fun c => decide (c ∈ L))
def spBlockLe (C R B O : Addr) : Sp := fun vs H Q E => ∃ (a r x b r' y : Addr) (k m k' m' : List Nat) (v v' : V) (e : Bool), vs = [.ref a, .ref b] ∧ BlockAt B R H a r x k m v ∧ BlockAt B R H b r' y k' m' v' ∧ Plans2 C H x y e ∧ (e = false → E (.ref O) none H) ∧
  (e = true → ∃ (ls : List Nat) (fn : Nat → List Nat), Fl ls fn ∧ BlkF C R B H a r x ls fn m k ∧ BlkF C R B H b r' y ls fn m' k' ∧ ∀ H', Same H H' → Q (.bl (k.all (fun c => decide (c ∈ k')) && decide (baseC fn k' m = m'))) H')
def spBlockAnd (C R B O : Addr) : Sp := fun vs H Q E => ∃ (a r x b r' y : Addr) (k m k' m' : List Nat) (v v' : V) (e : Bool), vs = [.ref a, .ref b] ∧ BlockAt B R H a r x k m v ∧ BlockAt B R H b r' y k' m' v' ∧ Plans2 C H x y e ∧ (e = false → E (.ref O) none H) ∧
  (e = true → ∃ (ls : List Nat) (fn : Nat → List Nat) (s : List Nat), Fl ls fn ∧ BlkF C R B H a r x ls fn m k ∧ BlkF C R B H b r' y ls fn m' k' ∧ m.length ≤ 300 ∧ m'.length ≤ 300 ∧ s = nameOf fn (m' ++ (splitA fn k' (wayC fn m' m)).1) ∧
    (baseC fn k s ≠ m → ∀ H', Same H H' → Q .non H') ∧
    (baseC fn k s = m → ∀ a' r2 H', H a' = none → Same H H' → BlkF C R B H' a' r2 y ls fn (baseC fn (bothK ls k k') s) (bothK ls k k') → Q (.ref a') H'))
def spListedE (C R B X : Addr) : Sp := fun vs H _ E => ∃ (a r x : Addr) (ls : List Nat) (fn : Nat → List Nat) (n K : List Nat), vs = [.ref a] ∧ BlkF C R B H a r x ls fn n K ∧ Fl ls fn ∧ ¬ Cliq fn K ∧ E (.ref X) none H
section
variable {P : Program} {w : World} {K : PySem.W.Frag} {mg : Str → Option Value} {base : Heap} {C R O B EL : Addr}
abbrev stBlock_le : Stmt := (inClass (top 35) 3)
abbrev NBlock_le : List Str := ["self", "other", "kind"]
theorem scBlock_le : FnScope NBlock_le ["self", "other"] (defScope stBlock_le) := ⟨rfl, rfl, rfl, by decide +kernel, rfl, by decide +kernel, by decide +kernel⟩

theorem ok_Block_le (F : MAt K B "__le__" "Block.__le__" stBlock_le) (T : Txt23 K mg C R O B EL) (D_need_same : Def P w K mg base (L2.CX P w) 3 "need_same" ["plan", "other"] (spNeedSame C O)) (M_Block_in : MDef P w K mg base CX0 7 B "__contains__" ["self", "value"] (spInBlock C R B)) : MDef P w K mg base (L2.CX P w) 9 B "__le__" ["self", "other"] (spBlockLe C R B O) := by
  refine F.okX scBlock_le (fun _ _ _ _ _ _ us hl => match us, hl with | [_, _], _ => rfl) (fun vs H Q E h => ?_) (fun f cdv A outer s H vs Q E hr h => ?_)
  · obtain ⟨a, r, x, b, r', y, k, m, k', m', v, v', e, rfl, _⟩ := h
    rfl
  obtain ⟨a, r, x, b, r', y, k, m, k', m', v, v', e, rfl, b1, b2, pp, q1, q2⟩ := h
  have hu := hu_of hr
  have nd := scBlock_le.nd
  replace D_need_same := D_need_same.mono (show 3 ≤ 8 by decide)
  replace M_Block_in := M_Block_in.mono (show 7 ≤ 8 by decide)
  refine ⟨_, (pss_cons (ps_expr (pe_cd D_need_same hr (passes_call (takes_of rfl rfl rfl rfl) (fun _ _ _ _ h => h)) (pa_cons (pe_flK (K := K) rfl (pv 0) rfl) (pa_cons (pe_flK (K := K) rfl (pv 1) rfl) pa_nil))))
      (pss_one (ps_ret (pe_and (pe_callB (c_allK (K := K) rfl rfl) (by rfl) T.all (by decide +kernel) (pa_cons (pe_lc (own := [("kind", 2)]) (g := gName 2) (by rfl) nd (pi_str (pe_flK (K := K) rfl (pv 0) rfl)) (blkOk_by (own := [("kind", 2)]) (N := NBlock_le) (sc := defScope stBlock_le) (by decide +kernel)) (fun _ _ _ _ _ => (pg_name (i := 2) nd rfl (Or.inl rfl))) (fun _ _ _ _ _ => pts_nil) (fun _ _ _ _ _ => (pe_cmpR op_inS (pv 2) (pe_flK (K := K) rfl (pv 1) rfl) (by rfl)))) pa_nil)) (pe_one (pe_cmpR (op_inM M_Block_in hr pass0) (pe_flK (K := K) rfl (pv 0) rfl) (pv 1) (by rfl))))))), ?_⟩
  refine s_start [some _, some _, none] rfl ?_
  obtain ⟨⟨dx, g1⟩, ro1⟩ := b1
  obtain ⟨⟨dy, g2⟩, ro2⟩ := b2
  walk_at "go"
  refine v_fld g1 T.Block.cl T.nBp blockF_p ?_
  walk_at "go"
  refine v_fld g2 T.Block.cl T.nBp blockF_p ?_
  walk_at "go"
  refine ⟨x, y, e, rfl, pp, fun he => ?_, fun he => q1 he⟩
  obtain ⟨ls, fn, fl, hb, hb2, q⟩ := q2 he
  subst he
  have lk := hb.lk fl
  walk_at "go"
  refine v_fld g1 T.Block.cl T.nBk blockF_k ?_
  walk_at "go"
  refine v_lcS (l := k) (b := fun _ => true) (f := fun c => V.bl (decide (c ∈ k'))) (by omega) (fun c _ H1 s1 R r => ?_) (fun c _ _ H1 s1 R r => ?_) (fun D H1 hD s1 e1 => ?_)
  · exact r H1 (Same.refl _)
  · walk_at "go"
    refine v_fld (s1 _ _ g2) T.Block.cl T.nBk blockF_k ?_
    walk_at "go"
    exact r H1 (Same.refl _)
  have e6 : H1 D = some (.lst ((k.map fun c => decide (c ∈ k')).map V.bl)) := by
    rw [e1, filter_yes, List.map_map]
    rfl
  walk_at "go"
  refine v_all e6 ?_
  rw [List.all_map]
  refine ⟨_, rfl, ?_⟩
  refine if_bool (fun c1 => ?_) (fun c1 => ?_)
  · rw [show (k.all fun c => decide (c ∈ k')) = true from c1] at q
    walk_at "go"
    refine v_fld (s1 _ _ g1) T.Block.cl T.nBr blockF_r ?_
    walk_at "go"
    refine v_MIn (n := false) (s1 _ _ g2) ⟨b, r', y, r, x, ls, fn, m', k', m, true, rfl, hb2.same s1, fl, ro1.same s1, plans_of25 (hb.pl.same s1) (hb2.pl.same s1), fun _ => ⟨hb.pl.same s1, hb.nf, hb.mn, hb.ln⟩, fun H2 s2 => ⟨_, rfl, ?_⟩⟩
    rw [Bool.true_and, Bool.bne_false]
    rw [Bool.true_and] at q
    exact q H2 (s1.trans s2)
  · rw [show (k.all fun c => decide (c ∈ k')) = false from c1] at q
    exact q H1 s1
abbrev stBlock_and : Stmt := (inClass (top 35) 4)
abbrev NBlock_and : List Str := ["self", "other", "room", "kind"]
theorem scBlock_and : FnScope NBlock_and ["self", "other"] (defScope stBlock_and) := ⟨rfl, rfl, rfl, by decide +kernel, rfl, by decide +kernel, by decide +kernel⟩

theorem ok_Block_and (F : MAt K B "__and__" "Block.__and__" stBlock_and) (T : Txt23 K mg C R O B EL) (D_need_same : Def P w K mg base (L2.CX P w) 3 "need_same" ["plan", "other"] (spNeedSame C O)) (M_Block_in : MDef P w K mg base CX0 7 B "__contains__" ["self", "value"] (spInBlock C R B)) (M_Block_nearest : MDef P w K mg base (L2.CX P w) 6 B "nearest" ["self", "room"] (spNearestB C R B O)) (C_Block : CDef P w K mg base CX0 5 "Block" B (spBlock C R B)) : MDef P w K mg base (L2.CX P w) 9 B "__and__" ["self", "other"] (spBlockAnd C R B O) := by
  refine F.okX scBlock_and (fun _ _ _ _ _ _ us hl => match us, hl with | [_, _], _ => rfl) (fun vs H Q E h => ?_) (fun f cdv A outer s H vs Q E hr h => ?_)
  · obtain ⟨a, r, x, b, r', y, k, m, k', m', v, v', e, rfl, _⟩ := h
    rfl
  obtain ⟨a, r, x, b, r', y, k, m, k', m', v, v', e, rfl, b1, b2, pp, q1, q2⟩ := h
  have hu := hu_of hr
  have nd := scBlock_and.nd
  replace D_need_same := D_need_same.mono (show 3 ≤ 8 by decide)
  replace M_Block_in := M_Block_in.mono (show 7 ≤ 8 by decide)
  replace M_Block_nearest := M_Block_nearest.mono (show 6 ≤ 8 by decide)
  replace C_Block := C_Block.mono (show 5 ≤ 7 by decide)
  refine ⟨_, (pss_cons (ps_expr (pe_cd D_need_same hr (passes_call (takes_of rfl rfl rfl rfl) (fun _ _ _ _ h => h)) (pa_cons (pe_flK (K := K) rfl (pv 0) rfl) (pa_cons (pe_flK (K := K) rfl (pv 1) rfl) pa_nil))))
      (pss_cons (ps_set (i := 2) nd rfl (Or.inl rfl) (pe_md M_Block_nearest T.Block.cl hr (passes_call (takes_of rfl rfl rfl rfl) (fun _ _ _ _ h => h)) (pv 1) (pa_cons (pe_flK (K := K) rfl (pv 0) rfl) pa_nil)))
      (pss_cons (ps_if (pt_cmpR (op_notInM M_Block_in hr pass0) (pv 2) (pv 0) (by rfl))
      (pss_one (ps_ret pe_non))
      pss_nil)
      (pss_one (ps_ret (pe_mk C_Block hr pass0 (pa_cons (pv 2) (pa_cons (pe_joinK (K := K) rfl (pe_tx [] (by decide +kernel)) (pe_lc (own := [("kind", 3)]) (g := gName 3) (by rfl) nd (pi_str (pe_flK (K := K) rfl (pv 0) rfl)) (blkOk_by (own := [("kind", 3)]) (N := NBlock_and) (sc := defScope stBlock_and) (by decide +kernel)) (fun _ _ _ _ _ => (pg_name (i := 3) nd rfl (Or.inl rfl))) (fun _ _ _ _ _ => (pts_one (pt_cmpR op_inS (pv 3) (pe_flK (K := K) rfl (pv 1) rfl) (by rfl)))) (fun _ _ _ _ _ => (pv 3)))) pa_nil)))))))), ?_⟩
  refine s_start [some _, some _, none, none] rfl ?_
  obtain ⟨⟨dx, g1⟩, ro1⟩ := b1
  obtain ⟨⟨dy, g2⟩, ro2⟩ := b2
  walk_at "go"
  refine v_fld g1 T.Block.cl T.nBp blockF_p ?_
  walk_at "go"
  refine v_fld g2 T.Block.cl T.nBp blockF_p ?_
  walk_at "go"
  refine ⟨x, y, e, rfl, pp, fun he => ?_, fun he => q1 he⟩
  obtain ⟨ls, fn, s', fl, hb, hb2, lm, lm', es, q3, q4⟩ := q2 he
  subst he
  have lk := hb.lk fl
  have nbn : ∀ {x r : Addr} {kinds : List Nat} {v : V}, (blockF x kinds r v).lookup ("nearest" : Str) = none := fun {_ _ _ _} => blockF_no (by decide +kernel) (by decide +kernel) (by decide +kernel) (by decide +kernel)
  walk_at "go"
  refine v_md g2 nbn ?_
  walk_at "go"
  refine v_fld g1 T.Block.cl T.nBr blockF_r ?_
  walk_at "go"
  have lw : (wayC fn m' m).length ≤ 600 := by
    have := name_len fn (m'.reverse ++ m)
    rw [List.length_append, List.length_reverse] at this
    show (nameOf fn (m'.reverse ++ m)).length ≤ 600
    omega
  refine ⟨b, r', y, r, x, ls, fn, m', k', m, true, rfl, hb2, fl, ro1, plans_of25 hb2.pl hb.pl, fun _ => ⟨hb.mn, hb.ln, by omega, fun r1 H1 hr1 s1 ro3 => ?_⟩, (fun z => nomatch z)⟩
  rw [← es] at ro3
  have ls' : s'.length ≤ 900 := by
    have a1 := name_len fn (m' ++ (splitA fn k' (wayC fn m' m)).1)
    have a2 := splitA_len fn (wayC fn m' m) k'
    rw [← es, List.length_append] at a1
    omega
  have ms' : ∀ c ∈ s', c ∈ ls := fun c hc => by
    rw [es] at hc
    exact (List.mem_append.mp (name_mem hc)).elim (hb2.mn c) fun z => hb2.mK c (splitA_in _ _ _ c z)
  have ns' : NF fn s' := by rw [es]; exact name_NF fl.ok _
  clear es
  walk_at "go"
  refine v_MIn (n := true) (s1 _ _ g1) ⟨a, r, x, r1, y, ls, fn, m, k, s', true, rfl, hb.same s1, fl, ro3, plans_of25 (hb2.pl.same s1) (hb.pl.same s1), fun _ => ⟨hb2.pl.same s1, ns', ms', ls'⟩, fun H2 s2 => ⟨_, rfl, ?_⟩⟩
  have s12 := s1.trans s2
  walk_at "go"
  rw [Bool.true_and, show ∀ z : Bool, (z != true) = !z by decide]
  by_cases c1 : baseC fn k s' = m
  · rw [decide_eq_true c1]
    walk_at "go"
    refine v_fld (s12 _ _ g1) T.Block.cl T.nBk blockF_k ?_
    walk_at "go"
    refine v_lcS (l := k) (b := fun c => decide (c ∈ k')) (f := fun c => V.str (tx [c])) (by omega) (fun c _ H3 s3 R r => ?_) (fun c _ _ H3 s3 R r => ?_) (fun D H3 hD s3 e3 => ?_)
    · walk_at "go"
      refine v_fld (s3 _ _ (s12 _ _ g2)) T.Block.cl T.nBk blockF_k ?_
      walk_at "go"
      exact r H3 (Same.refl _)
    · walk_at "go"
      exact r H3 (Same.refl _)
    walk_at "go"
    rw [strs_ones] at e3
    have lf : (k.filter fun c => decide (c ∈ k')).length ≤ 8 := Nat.le_trans (List.length_filter_le _ _) lk
    refine v_join e3 (by rw [flat_ones]; omega) ?_
    rw [flat_ones]
    walk_at "go"
    refine sp_block fl ((ro3.same s2).same s3) (hb2.pl.same (s12.trans s3)) ns' ms' ls' (fun c hc => hb.mK c (List.mem_filter.mp hc).1) ((hb.nd fl).sublist List.filter_sublist) fun a' r2 H4 ha' s4 hb4 => ?_
    exact q4 c1 a' r2 H4 (L2.Same.free (s12.trans s3) ha') ((s12.trans s3).trans s4) hb4
  · rw [decide_eq_false c1]
    walk_at "go"
    exact q3 c1 H2 s12
abbrev stBlock_listedE : Stmt := (inClass (top 35) 6)
abbrev NBlock_listedE : List Str := ["self", "names", "kind", "name"]
theorem scBlock_listedE : FnScope NBlock_listedE ["self"] (defScope stBlock_listedE) := ⟨rfl, rfl, rfl, by decide +kernel, rfl, by decide +kernel, by decide +kernel⟩

theorem ok_Block_listedE (F : MAt K B "listed" "Block.listed" stBlock_listedE) (T : Txt23 K mg C R O B EL) (D_rooms_of : Def P w K mg base CX0 5 "rooms_of" ["plan", "names"] (spRoomsOf C R)) (D_stepped : Def P w K mg base CX0 1 "stepped" ["plan", "name", "kind"] (spStepped C)) :
    MDef P w K mg base (L2.CX P w) 6 B "listed" ["self"] (spListedE C R B EL) := by
  refine F.okX scBlock_listedE (fun _ _ _ _ _ _ us hl => match us, hl with | [_], _ => rfl) (fun vs H Q E h => ?_) (fun f cdv A outer s H vs Q E hr h => ?_)
  · obtain ⟨a, r, x, ls, fn, n, K, rfl, _⟩ := h
    rfl
  obtain ⟨a, r, x, ls, fn, n, Kk, rfl, hb, fl, cl, q⟩ := h
  have hu := hu_of hr
  have nd := scBlock_listedE.nd
  replace D_stepped := D_stepped.mono (show 1 ≤ 5 by decide)
  refine ⟨_, (pss_cons (ps_if (pt_cmpR op_isN1 (pe_flK (K := K) rfl (pv 0) rfl) pe_non (nomark _))
      (pss_one (ps_raise rfl (takes_of rfl rfl rfl rfl) (pmk_own0 T.Endless)))
      pss_nil)
      (pss_cons (ps_set (i := 1) nd rfl (Or.inl rfl) (pe_lst (pa_cons (pe_flK (K := K) rfl (pe_flK (K := K) rfl (pv 0) rfl) rfl) pa_nil)))
      (pss_cons (ps_for PassesOwn.leaving rfl (pi_str (pe_flK (K := K) rfl (pv 0) rfl)) (pg_name (i := 2) nd rfl (Or.inr rfl))
      (pss_one (ps_set (i := 1) nd rfl (Or.inl rfl) (pe_op op_cat1 (pv 1) (pe_lc (own := [("name", 3)]) (g := gName 3) (by rfl) nd (pi_listK (K := K) rfl (pv 1)) (blkOk_by (own := [("name", 3)]) (N := NBlock_listedE) (sc := defScope stBlock_listedE) (by decide +kernel)) (fun _ _ _ _ _ => (pg_name (i := 3) nd rfl (Or.inl rfl))) (fun _ _ _ _ _ => pts_nil) (fun _ _ _ _ _ => (pe_cd D_stepped hr pass0 (pa_cons (pe_flK (K := K) rfl (pv 0) rfl) (pa_cons (pv 3) (pa_cons (pv 2) pa_nil))))))))))
      (pss_one (ps_ret (pe_cd D_rooms_of hr pass0 (pa_cons (pe_flK (K := K) rfl (pv 0) rfl) (pa_cons (pv 1) pa_nil)))))))), ?_⟩
  refine s_start [some _, none, none, none] rfl ?_
  obtain ⟨⟨dx, e1⟩, ro1⟩ := hb.blk
  walk_at "go"
  rw [many_not25 fl hb.mK cl] at e1
  refine v_fld e1 T.Block.cl T.nBm blockF_m ?_
  walk_at "go"
  refine ⟨rfl, true, congrArg V.bl (decide_eq_true rfl), ?_⟩
  walk_at "go"
  exact q
end
end
section
open PySem PySem.Spec L2
inductive WayO where
  | good (way : List Nat)
  | bad (i : Nat)
  | long (n : Nat)
/-- what is let out of a wrong way -/
structure OutW (IW TL : Addr) (E : XK) (H : Hp) (o : WayO) : Prop where
  bad : ∀ i, o = .bad i → ∀ H' d, Same H H' → H' d = some (.xd [("index", .int (i : Nat))]) → E (.ref IW) (some d) H'
  long : ∀ n, o = .long n → ∀ H' d, Same H H' → H' d = some (.xd [("length", .int (n : Nat))]) → E (.ref TL) (some d) H'
theorem OutW.same {IW TL : Addr} {E : XK} {H H1 : Hp} {o : WayO} (h : OutW IW TL E H o) (s : Same H H1) : OutW IW TL E H1 o := ⟨fun i e H' d s' => h.bad i e H' d (s.trans s'), fun i e H' d s' => h.long i e H' d (s.trans s')⟩
/-- no kind -/
def NoKind (K : PySem.W.Frag) (H : Hp) (ks : List Nat) (v : V) : Prop := NoTx K H v ∨ ∃ l : List Nat, v = .str (tx l) ∧ (∀ k ∈ ks, l ≠ [k]) ∧ l.length ≤ 100000
def spIsKindE (K : PySem.W.Frag) (C : Addr) : Sp := fun vs H Q _ => ∃ (x : Addr) (ks : List Nat) (ps : List (List Nat)) (v : V), vs = [.ref x, v] ∧ PlanAt C H x ks ps ∧ ((∃ k ∈ ks, v = .str (tx [k]) ∧ Q (.bl true) H) ∨ (NoKind K H ks v ∧ Q (.bl false) H))
section
variable {P : Program} {w : World} {K : PySem.W.Frag} {mg : Str → Option Value} {base : Heap} {C R O IW IK TL : Addr}
abbrev stis_kindE : Stmt := (top 25)
abbrev Nis_kindE : List Str := ["plan", "value"]
theorem scis_kindE : FnScope Nis_kindE ["plan", "value"] (defScope stis_kindE) := ⟨rfl, rfl, rfl, by decide +kernel, rfl, by decide +kernel, by decide +kernel⟩

theorem ok_is_kindE (F : FnAt K mg "is_kind" stis_kindE) (T : TxtP K mg C) : Def P w K mg base CX0 1 "is_kind" ["plan", "value"] (spIsKindE K C) := by
  refine F.ok scis_kindE (fun _ _ _ _ _ _ us hl => match us, hl with | [_, _], _ => rfl) (fun vs H Q E h => ?_) (fun f cdv A outer s H vs Q E hr h => ?_)
  · obtain ⟨x, ks, ps, v, rfl, _⟩ := h
    rfl
  obtain ⟨x, ks, ps, v, rfl, h1, h2⟩ := h
  have hu := hu_of hr
  have nd := scis_kindE.nd
  refine ⟨_, (pss_one (ps_ret (pe_and (pe_callB (c_isiK (K := K) rfl) (by rfl) T.isinstance (by decide +kernel) (pa_cons (pv 1) (pa_cons (pe_bltn (v := .ty "str") (u := .type "str") (by rfl) T.str (by decide +kernel) rfl) pa_nil))) (pe_and (pe_cmpR op_eq (pe_callB c_lenS (by rfl) T.len PySem.boot_len (pa_cons (pv 1) pa_nil)) pe_int (nomark _)) (pe_one (pe_cmpR op_inS (pv 1) (pe_flK (K := K) rfl (pv 0) rfl) (by rfl))))))), ?_⟩
  refine s_start [some _, some _] rfl ?_
  obtain ⟨dx, t, d, a1, a2, a3⟩ := h1.ex
  rcases h2 with ⟨k, hk, rfl, q⟩ | ⟨nt | ⟨l, rfl, hl, ll⟩, q⟩
  · have l1 : [k].length ≤ 1000000 := by simp
    walk_at "go"
    refine if_dec (fun c => ?_) (fun c => (c (by rfl)).elim)
    walk_at "go"
    refine v_fld a1 T.Plan.cl T.nK planF_k ?_
    walk_at "go"
    rw [decide_eq_true hk]
    exact q
  · walk_at "go"
    refine v_isiN nt ?_
    walk_at "go"
    exact q
  · have l1 : l.length ≤ 1000000 := by omega
    walk_at "go"
    refine if_dec (fun c => ?_) (fun c => ?_)
    · obtain ⟨k, rfl⟩ : ∃ k, l = [k] := by
        match l, c with
        | [k], _ => exact ⟨k, rfl⟩
        | [], c => exact absurd c (by decide)
        | a :: b :: r, c => exact absurd (V.int.inj c) (by simp only [List.length_cons]; omega)
      walk_at "go"
      refine v_fld a1 T.Plan.cl T.nK planF_k ?_
      walk_at "go"
      rw [decide_eq_false fun z => hl k z rfl]
      exact q
    · walk_at "go"
      exact q
end
end
section
open PySem PySem.Spec L2
/-- kinds that make no block, and what is let out of them -/
def BadK (K : PySem.W.Frag) (IK SK : Addr) (ks : List Nat) (v : V) (E : XK) (H : Hp) : Prop :=
  ((∀ H', LamX.ExtN H H' → NoTx K H' v) ∧ ∀ H' d, Same H H' → H' d = some (.xd [("value", v)]) → E (.ref IK) (some d) H') ∨
  ∃ p c q, v = .str (tx (p ++ c :: q)) ∧ p.Nodup ∧ (∀ z ∈ p, z ∈ ks) ∧ (p ++ c :: q).length ≤ 1000 ∧ ks.length ≤ 1000 ∧
    ((¬ c ∈ ks ∧ ∀ H' d, Same H H' → H' d = some (.xd [("value", .str (tx [c]))]) → E (.ref IK) (some d) H') ∨
     (c ∈ ks ∧ c ∈ p ∧ ∀ H' d, Same H H' → H' d = some (.xd [("kind", .str (tx [c]))]) → E (.ref SK) (some d) H'))
theorem BadK.same {K : PySem.W.Frag} {IK SK : Addr} {ks : List Nat} {v : V} {E : XK} {H H1 : Hp} (h : BadK K IK SK ks v E H) (s : Same H H1) : BadK K IK SK ks v E H1 := by
  rcases h with ⟨nt, q⟩ | ⟨p, c, r, e, h1, h2, h3, h4, h5⟩
  · exact .inl ⟨fun H' x => nt H' ((ext_of s).trans x), fun H' d s' => q H' d (s.trans s')⟩
  · refine .inr ⟨p, c, r, e, h1, h2, h3, h4, ?_⟩
    rcases h5 with ⟨a, b⟩ | ⟨a, a2, b⟩
    · exact .inl ⟨a, fun H' d s' => b H' d (s.trans s')⟩
    · exact .inr ⟨a, a2, fun H' d s' => b H' d (s.trans s')⟩
def spNeedKindsE (K : PySem.W.Frag) (C IK SK : Addr) : Sp := fun vs H _ E => ∃ (x : Addr) (ks : List Nat) (ps : List (List Nat)) (v : V), vs = [.ref x, v] ∧ PlanAt C H x ks ps ∧ BadK K IK SK ks v E H
def spBlock0E (K : PySem.W.Frag) (C R B IK SK : Addr) : Sp := fun vs H _ E => ∃ (a dx r x : Addr) (ks : List Nat) (ps : List (List Nat)) (name : List Nat) (v : V) (H0 : Hp), vs = [.ref a, .ref r, v] ∧ H a = some (.ins B dx []) ∧ H0 a = none ∧ Same H0 H ∧ RoomAt R H0 r x name ∧ PlanAt C H0 x ks ps ∧ BadK K IK SK ks v E H0
def spBlockE (K : PySem.W.Frag) (C R B IK SK : Addr) : Sp := fun vs H _ E => ∃ (r x : Addr) (ks : List Nat) (ps : List (List Nat)) (name : List Nat) (v : V), vs = [.ref r, v] ∧ RoomAt R H r x name ∧ PlanAt C H x ks ps ∧ BadK K IK SK ks v E H
theorem conv_blockE (K : PySem.W.Frag) (C R B IK SK : Addr) : Conv B (spBlock0E K C R B IK SK) (spBlockE K C R B IK SK) := by
  rintro vs H Q E ⟨r, x, ks, ps, name, v, rfl, hr, hp, hb⟩ a dx hx hdx hne
  refine ⟨a, dx, r, x, ks, ps, name, v, H, rfl, upd_same, hx, fun b o h => ?_, hr, hp, hb⟩
  rw [upd_ne (ne_of_none h hx), upd_ne (ne_of_none h hdx)]
  exact h
/-- no room -/
def NoRm (K : PySem.W.Frag) (R : Addr) (H : Hp) (v : V) : Prop := ∃ t, TyX K H v t ∧ PySem.W.kitOne K t (.ref R) = some false
theorem v_isiNR {K : PySem.W.Frag} {R : Addr} {H : Hp} {Q : VK} {v : V} (h : NoRm K R H v) (q : Q (.bl false) H) : rIsi K [v, .ref R] H Q := by
  obtain ⟨t, h1, h2⟩ := h
  exact ⟨v, .ref R, t, .ref R, false, rfl, .own R, h1, h2, q⟩
def spInNo (K : PySem.W.Frag) (R : Addr) : Sp := fun vs H Q _ => ∃ (a : Addr) (v : V), vs = [.ref a, v] ∧ NoRm K R H v ∧ Q (.bl false) H
section
variable {P : Program} {w : World} {K : PySem.W.Frag} {mg : Str → Option Value} {base : Heap} {C R O B EL IK SK : Addr} {x qual : Str} {ps N : List Str} {sp sp0 : Sp} {st : Stmt} {k : Nat}
theorem MAt.make0X {C : Addr} (F : MAt K C "__init__" qual st) (cf : ClsF K mg x C) (S : FnScope N ps (defScope st))
    (hb : ∀ (kV doc pm : Value) (an : Option Addr) (cdv ct : Value) (us : List Value), us.length = ps.length → bindArgs (PySem.W.fnOf "__init__" qual (defArgs st) (defBody st) (defScope st) .none kV doc pm an cdv ct) ⟨us, []⟩ = pure (ps.zip us))
    (len : ∀ vs H Q E, sp0 vs H Q E → vs.length = ps.length) (cv : Conv C sp0 sp)
    (hbody : ∀ (f : Addr) (cdv : Value) (A : Around) (outer : List Env) (s : Shared) (H : Hp) (vs : List V) (Q : VK) (E : XK), Room k (A.deeper (PyProof.Rows.envOfC qual (defScope st) s.heap.objs.size f cdv)) → sp0 vs H Q E →
      ∃ t, PSs (cxOf (L2.CX P w) P w K mg base N qual (defScope st) f cdv A outer s H E) (defBody st) t ∧ t { nx := fun _ H' => Q .non H', rt := Q } (start N vs) H) : CMk0 P w K mg base (L2.CX P w) (k + 1) x C sp ps qual st := by
  obtain ⟨f, fd, h1, h2, F⟩ := F.ex
  exact ⟨f, fd, sp0, cf.at, ⟨cf.mks, h1, h2, cf.kp⟩, F.binds hb, F.okX S len fun cdv A outer s H vs Q E hr h => hbody f cdv A outer s H vs Q E hr h, cv, F⟩
abbrev stneed_kindsE : Stmt := (top 33)
abbrev Nneed_kindsE : List Str := ["plan", "kinds", "index", "letter", "kind"]
theorem scneed_kindsE : FnScope Nneed_kindsE ["plan", "kinds"] (defScope stneed_kindsE) := ⟨rfl, rfl, rfl, by decide +kernel, rfl, by decide +kernel, by decide +kernel⟩

theorem ok_need_kindsE (F : FnAt K mg "need_kinds" stneed_kindsE) (T : TxtR K mg C R O) (D_is_kind : Def P w K mg base CX0 1 "is_kind" ["plan", "value"] (spIsKindE K C)) (X_InvalidKind : XDef P w K mg base 1 "InvalidKind" IK 1 (fun ws => [("value", ws.getD 0 .non)])) (X_SameKind : XDef P w K mg base 1 "SameKind" SK 1 (fun ws => [("kind", ws.getD 0 .non)])) : Def P w K mg base (L2.CX P w) 3 "need_kinds" ["plan", "kinds"] (spNeedKindsE K C IK SK) := by
  refine F.okX scneed_kindsE (fun _ _ _ _ _ _ us hl => match us, hl with | [_, _], _ => rfl) (fun vs H Q E h => ?_) (fun f cdv A outer s H vs Q E hr h => ?_)
  · obtain ⟨x, ks, ps, v, rfl, _⟩ := h
    rfl
  obtain ⟨x, ks, ps, v, rfl, h1, hv⟩ := h
  have hu := hu_of hr
  have nd := scneed_kindsE.nd
  replace D_is_kind := D_is_kind.mono (show 1 ≤ 2 by decide)
  refine ⟨_, (pss_cons (ps_if (pt_not (pt_val (pe_callB (c_isiK (K := K) rfl) (by rfl) T.isinstance (by decide +kernel) (pa_cons (pv 1) (pa_cons (pe_bltn (v := .ty "str") (u := .type "str") (by rfl) T.str (by decide +kernel) rfl) pa_nil)))))
      (pss_one (ps_raise rfl (takes_of rfl rfl rfl rfl) (pmk_E X_InvalidKind hr (pa_cons (pv 1) pa_nil))))
      pss_nil)
      (pss_cons (ps_for PassesOwn.leaving rfl (pi_enumS (by rfl) T.enumerate (pa_cons (pv 1) pa_nil)) (pg_tup rfl (pgs_cons (pg_name (i := 2) nd rfl (Or.inl rfl)) (pgs_cons (pg_name (i := 3) nd rfl (Or.inl rfl)) pgs_nil)))
      (pss_cons (ps_if (pt_not (pt_val (pe_cd D_is_kind hr pass0 (pa_cons (pv 0) (pa_cons (pv 3) pa_nil)))))
        (pss_one (ps_raise rfl (takes_of rfl rfl rfl rfl) (pmk_E X_InvalidKind hr (pa_cons (pv 3) pa_nil))))
        pss_nil)
        (pss_one (ps_if (pt_cmpR op_inS (pv 3) (pe_slice sl_S (pv 1) po_none (po_some (pv 2))) (by rfl))
        (pss_one (ps_raise rfl (takes_of rfl rfl rfl rfl) (pmk_E X_SameKind hr (pa_cons (pv 3) pa_nil))))
        pss_nil))))
      (pss_one (ps_ret (pe_joinK (K := K) rfl (pe_tx [] (by decide +kernel)) (pe_lc (own := [("kind", 4)]) (g := gName 4) (by rfl) nd (pi_str (pe_flK (K := K) rfl (pv 0) rfl)) (blkOk_by (own := [("kind", 4)]) (N := Nneed_kindsE) (sc := defScope stneed_kindsE) (by decide +kernel)) (fun _ _ _ _ _ => (pg_name (i := 4) nd rfl (Or.inl rfl))) (fun _ _ _ _ _ => (pts_one (pt_cmpR op_inS (pv 4) (pv 1) (by rfl)))) (fun _ _ _ _ _ => (pv 4)))))))), ?_⟩
  refine s_start [some _, some _, none, none, none] rfl ?_
  rcases hv with ⟨nt, q⟩ | ⟨p, c, r, rfl, pn, pk, lp, lk, hv⟩
  · walk_at "go"
    refine v_isiN (nt H (LamX.ExtN.refl _)) ?_
    walk_at "go"
    refine (e_mkE ?_ : tMkO IK (spE IK 1 (fun ws => [("value", ws.getD 0 .non)])) [] (tCons (tVar 1) tNil) _ H fun cls d H' => E cls d H')
    walk_at "go"
    refine v_mkE (n := 1) (ws := [v]) rfl (by decide) fun d hd => ?_
    exact q _ d (Same.new hd) upd_same
  walk_at "go"
  have lpp : p.length < (p ++ c :: r).length := by simp
  refine for_it (walk_enumS (p ++ c :: r)) (fun i σ H' => i ≤ p.length ∧ ∃ y z, σ = [some (.ref x), some (.str (tx (p ++ c :: r))), y, z, none] ∧ Same H H') ⟨Nat.zero_le _, _, _, rfl, Same.refl _⟩ (fun _ _ _ _ _ => trivial) ?_ ?_
  · rintro i v σ H2 H3 hi ⟨hin, y, z, rfl, s2⟩ ⟨t, c', rfl, ht, rfl, hc⟩
    have s3 : Same H (upd H2 t (.tup [.int (i : Nat), .str (tx [c'])])) := s2.trans (Same.new ht)
    refine v_gTup2 rfl upd_same ?_
    walk_at "go"
    have tk : (p ++ c :: r).take ((i : Nat) : Int).toNat = p.take i := by
      rw [Int.toNat_natCast, List.take_append_of_le_length hin]
    rcases Nat.lt_or_ge i p.length with hip | hip
    · rw [List.getElem?_append_left hip] at hc
      have hcp := List.mem_of_getElem? hc
      refine ⟨x, ks, ps, _, rfl, h1.same s3, .inl ⟨c', pk c' hcp, rfl, ?_⟩⟩
      walk_at "go"
      refine v_slTo (by omega) (by omega) ?_
      walk_at "go"
      rw [tk]
      have n1 : c' ∉ p.take i := fun z => by
        obtain ⟨j, hj, e⟩ := List.getElem_of_mem z
        rw [List.length_take] at hj
        rw [List.getElem_take] at e
        have e2 := (List.getElem?_eq_some_iff.mp hc).2
        have e3 := (List.getElem_inj pn).mp (e.trans e2.symm)
        omega
      refine if_dec (fun z => (n1 z).elim) (fun _ => ?_)
      walk_at "go"
      exact ⟨hip, _, _, rfl, s3⟩
    · have e : i = p.length := by omega
      subst e
      rw [List.getElem?_append_right (Nat.le_refl _), Nat.sub_self] at hc
      cases hc
      rcases hv with ⟨nk, q⟩ | ⟨ck, cp, q⟩
      · refine ⟨x, ks, ps, _, rfl, h1.same s3, .inr ⟨.inr ⟨[c], rfl, fun k hk z => nk (by injection z with z _; rwa [z]), by simp⟩, ?_⟩⟩
        walk_at "go"
        refine (e_mkE ?_ : tMkO IK (spE IK 1 (fun ws => [("value", ws.getD 0 .non)])) [] (tCons (tVar 3) tNil) _ _ fun cls d H' => E cls d H')
        walk_at "go"
        refine v_mkE (n := 1) (ws := [.str (tx [c])]) rfl (by decide) fun d hd => ?_
        exact q _ d (s3.trans (Same.new hd)) upd_same
      · refine ⟨x, ks, ps, _, rfl, h1.same s3, .inl ⟨c, ck, rfl, ?_⟩⟩
        walk_at "go"
        refine v_slTo (by omega) (by omega) ?_
        walk_at "go"
        rw [tk, List.take_length]
        refine if_dec (fun _ => ?_) (fun z => (z cp).elim)
        refine (e_mkE ?_ : tMkO SK (spE SK 1 (fun ws => [("kind", ws.getD 0 .non)])) [] (tCons (tVar 3) tNil) _ _ fun cls d H' => E cls d H')
        walk_at "go"
        refine v_mkE (n := 1) (ws := [.str (tx [c])]) rfl (by decide) fun d hd => ?_
        exact q _ d (s3.trans (Same.new hd)) upd_same
  · rintro σ H2 ⟨hin, _⟩
    exact absurd hin (by omega)
abbrev stBlock_initE : Stmt := (inClass (top 35) 0)
abbrev NBlock_initE : List Str := ["self", "room", "kinds"]
theorem scBlock_initE : FnScope NBlock_initE ["self", "room", "kinds"] (defScope stBlock_initE) := ⟨rfl, rfl, rfl, by decide +kernel, rfl, by decide +kernel, by decide +kernel⟩

theorem ok_BlockE (F : MAt K B "__init__" "Block.__init__" stBlock_initE) (T : TxtB K mg C R O B) (D_need_kinds : Def P w K mg base (L2.CX P w) 3 "need_kinds" ["plan", "kinds"] (spNeedKindsE K C IK SK)) (D_all_cross : Def P w K mg base CX0 1 "all_cross" ["plan", "kinds", "others"] (spAllCross C)) (D_without_end : Def P w K mg base CX0 3 "without_end" ["plan", "way", "kinds"] (spNoEnd C)) (C_Room : CDef P w K mg base CX0 3 "Room" R (spRoom C R)) :
    CMk0 P w K mg base (L2.CX P w) 5 "Block" B (spBlockE K C R B IK SK) ["self", "room", "kinds"] "Block.__init__" stBlock_initE := by
  refine F.make0X (sp0 := spBlock0E K C R B IK SK) T.Block scBlock_initE (fun _ _ _ _ _ _ us hl => match us, hl with | [_, _, _], _ => rfl) (fun vs H Q E h => ?_) (conv_blockE K C R B IK SK) (fun f cdv A outer s H vs Q E hr h => ?_)
  · obtain ⟨a, dx, r, x, ks, ps, name, v, H0, rfl, _⟩ := h
    rfl
  obtain ⟨a, dx, r, x, ks, ps, name, v, H0, rfl, hx, h0a, s0, hr', hp, hv⟩ := h
  have hu := hu_of hr
  have nd := scBlock_initE.nd
  replace D_need_kinds := D_need_kinds.mono (show 3 ≤ 4 by decide)
  replace D_all_cross := D_all_cross.mono (show 1 ≤ 4 by decide)
  replace D_without_end := D_without_end.mono (show 3 ≤ 4 by decide)
  refine ⟨_, (pss_cons (ps_flK (K := K) rfl (pv 0) (pe_flK (K := K) rfl (pv 1) rfl) rfl)
      (pss_cons (ps_flK (K := K) rfl (pv 0) (pe_cd D_need_kinds hr (passes_call (takes_of rfl rfl rfl rfl) (fun _ _ _ _ h => h)) (pa_cons (pe_flK (K := K) rfl (pv 1) rfl) (pa_cons (pv 2) pa_nil))) rfl)
      (pss_cons (ps_flK (K := K) rfl (pv 0) (pe_mk C_Room hr pass0 (pa_cons (pe_flK (K := K) rfl (pv 1) rfl) (pa_cons (pe_cd D_without_end hr pass0 (pa_cons (pe_flK (K := K) rfl (pv 1) rfl) (pa_cons (pe_flK (K := K) rfl (pv 1) rfl) (pa_cons (pe_flK (K := K) rfl (pv 0) rfl) pa_nil)))) pa_nil))) rfl)
      (pss_one (ps_flK (K := K) rfl (pv 0) (pe_ifExp (pt_val (pe_cd D_all_cross hr pass0 (pa_cons (pe_flK (K := K) rfl (pv 1) rfl) (pa_cons (pe_flK (K := K) rfl (pv 0) rfl) (pa_cons (pe_flK (K := K) rfl (pv 0) rfl) pa_nil))))) (pe_op op_shl pe_int (pe_callB c_lenS (by rfl) T.len PySem.boot_len (pa_cons (pe_flK (K := K) rfl (pv 0) rfl) pa_nil))) pe_non) rfl))))), ?_⟩
  refine s_start [some _, some _, some _] rfl ?_
  obtain ⟨dr, er⟩ := hr'.ex
  have nra : r ≠ a := ne_of_none er h0a
  walk_at "go"
  refine v_fld (s0 _ _ er) T.Room.cl T.nPl roomF_p ?_
  walk_at "go"
  refine v_sfld hx T.Block.cl T.nBp (by decide) fun H1 s1 e1 => ?_
  have s01 : Same H0 H1 := fun b u hb => s1 _ _ (s0 _ _ hb) (ne_of_none hb h0a)
  walk_at "go"
  refine v_fld (s01 _ _ er) T.Room.cl T.nPl roomF_p ?_
  walk_at "go"
  exact ⟨x, ks, ps, v, rfl, hp.same s01, hv.same s01⟩
abbrev stBlock_containsN : Stmt := (inClass (top 35) 1)
abbrev NBlock_containsN : List Str := ["self", "value"]
theorem scBlock_containsN : FnScope NBlock_containsN ["self", "value"] (defScope stBlock_containsN) := ⟨rfl, rfl, rfl, by decide +kernel, rfl, by decide +kernel, by decide +kernel⟩

theorem ok_Block_containsN (F : MAt K B "__contains__" "Block.__contains__" stBlock_containsN) (T : TxtN K mg C R O B) (M_Plan_eq : MDef P w K mg base CX0 1 C "__eq__" ["self", "other"] (spPlanEq C)) (C_Block : CDef P w K mg base CX0 5 "Block" B (spBlock C R B)) (M_Room_eq : MDef P w K mg base CX0 2 R "__eq__" ["self", "other"] (spRoomEq C R)) :
    MDef P w K mg base CX0 7 B "__contains__" ["self", "value"] (spInNo K R) := by
  refine F.ok scBlock_containsN (fun _ _ _ _ _ _ us hl => match us, hl with | [_, _], _ => rfl) (fun vs H Q E h => ?_) (fun f cdv A outer s H vs Q E hr h => ?_)
  · obtain ⟨a, v, rfl, _⟩ := h
    rfl
  obtain ⟨a, v, rfl, hn, q⟩ := h
  have hu := hu_of hr
  have nd := scBlock_containsN.nd
  replace M_Plan_eq := M_Plan_eq.mono (show 1 ≤ 6 by decide)
  replace M_Room_eq := M_Room_eq.mono (show 2 ≤ 6 by decide)
  refine ⟨_, (pss_one (ps_ret (pe_and (pe_callB (c_isiK (K := K) rfl) (by rfl) T.isinstance (by decide +kernel) (pa_cons (pv 1) (pa_cons (pe_globC T.Room.at) pa_nil))) (pe_and (pe_cmpR (op_cmpM (op := .Eq) (fun _ _ => rfl) M_Plan_eq hr pass0) (pe_flK (K := K) rfl (pv 1) rfl) (pe_flK (K := K) rfl (pv 0) rfl) (nomark _)) (pe_one (pe_cmpR (op_cmpM (op := .Eq) (fun _ _ => rfl) M_Room_eq hr pass0) (pe_flK (K := K) rfl (pe_mk C_Block hr pass0 (pa_cons (pv 1) (pa_cons (pe_flK (K := K) rfl (pv 0) rfl) pa_nil))) rfl) (pe_flK (K := K) rfl (pv 0) rfl) (nomark _))))))), ?_⟩
  refine s_start [some _, some _] rfl ?_
  walk_at "go"
  refine v_isiNR hn ?_
  walk_at "go"
  exact q
end
end
section
open PySem PySem.Spec L2
structure TxtK23 (P : Program) (K : PySem.W.Frag) (mg : Str → Option Value) (C R O B EL IK SK G : Addr) (st2 st3 : Stmt) : Prop extends Txt23 K mg C R O B EL where
  eK : ExcE P K mg "InvalidKind" IK "InvalidKind.__init__" st2
  eS : ExcE P K mg "SameKind" SK "SameKind.__init__" st3
  IK_value : PySem.W.findIn K (.ref IK) "value" = some none
  SK_kind : PySem.W.findIn K (.ref SK) "kind" = some none
  FloorError : mg "FloorError" = some (.ref G)
  sK : PySem.W.kitOne K (.ref IK) (.ref G) = some true
  sS : PySem.W.kitOne K (.ref SK) (.ref G) = some true
  sE : PySem.W.kitOne K (.ref EL) (.ref G) = some true
  sO : PySem.W.kitOne K (.ref O) (.ref G) = some true
  kk : PySem.W.exmOne K (.ref IK) (.ref IK) = some true
  sk : PySem.W.exmOne K (.ref SK) (.ref IK) = some false
  ss : PySem.W.exmOne K (.ref SK) (.ref SK) = some true
  ek : PySem.W.exmOne K (.ref EL) (.ref IK) = some false
  es : PySem.W.exmOne K (.ref EL) (.ref SK) = some false
  ee : PySem.W.exmOne K (.ref EL) (.ref EL) = some true
  xk : PySem.W.exmOne K (.ref O) (.ref IK) = some false
  xs : PySem.W.exmOne K (.ref O) (.ref SK) = some false
  xe : PySem.W.exmOne K (.ref O) (.ref EL) = some false
  xx : PySem.W.exmOne K (.ref O) (.ref O) = some true
  sorted : mg "sorted" = none
  range : mg "range" = none
  min : mg "min" = none
  kC : PySem.W.kitOne K (.ref C) (.type "str") = some false
  kR : PySem.W.kitOne K (.ref R) (.type "str") = some false
  nS : PySem.W.kitOne K (.type "str") (.ref R) = some false
  nN : PySem.W.kitOne K (.type "NoneType") (.ref R) = some false
  nB : PySem.W.kitOne K (.ref B) (.ref R) = some false
/-- what is told of a refusal -/
def refOf (IK SK EL O : Addr) (Q : VK) (cls : Value) (d : Option Addr) (H : Hp) : Prop :=
  (cls = .ref IK ∧ ∃ dd v, d = some dd ∧ H dd = some (.xd [("value", v)]) ∧ ∀ t H', Same H H' → H' t = some (.tup [.str (tx [107, 105, 110, 100]), v, .bl true]) → Q (.ref t) H') ∨
  (cls = .ref SK ∧ ∃ dd v, d = some dd ∧ H dd = some (.xd [("kind", v)]) ∧ ∀ t H', Same H H' → H' t = some (.tup [.str (tx [115, 97, 109, 101]), v, .bl true]) → Q (.ref t) H') ∨
  (cls = .ref EL ∧ d = none ∧ ∀ t H', Same H H' → H' t = some (.tup [.str (tx [101, 110, 100, 108, 101, 115, 115]), .bl true]) → Q (.ref t) H') ∨
  (cls = .ref O ∧ d = none ∧ ∀ t H', Same H H' → H' t = some (.tup [.str (tx [112, 108, 97, 110]), .bl true]) → Q (.ref t) H')
def TTr (IK SK EL O : Addr) : (XK → Hp → VK → Prop) → Hp → VK → Prop := fun tl H Q => tl (refOf IK SK EL O Q) H fun v H' => Q .non H'
theorem two_of23 {α : Type} {l : List α} (h : l.length = 2) : ∃ a b, l = [a, b] := by
  match l, h with
  | [a, b], _ => exact ⟨a, b, rfl⟩
theorem e_xf23 {σ : L2.St} {H : Hp} {Q : VK} {a C : Addr} {cls : Value} {d : Option Addr} {f : Str} {te : TE} (q : te σ H fun x H1 => x = .ref a ∧ cls = .ref C ∧ ∃ (dd : Addr) (fs : List (Str × V)) (v : V), d = some dd ∧ H1 dd = some (.xd fs) ∧ fs.lookup f = some v ∧ Q v H1) : tXf a cls d C f te σ H Q := q
section
variable {X : Cx} {C R O B EL IK SK G : Addr} {st2 st3 : Stmt}
abbrev strefused : Stmt := (top 63)
abbrev Nrefused : List Str := ["_law_deed", "e"]
theorem screfused : FnScope Nrefused ["_law_deed"] (defScope strefused) := ⟨rfl, rfl, rfl, by decide +kernel, rfl, by decide +kernel, by decide +kernel⟩

theorem refused_gives (T : TxtK23 X.prog X.K X.mg C R O B EL IK SK G st2 st3) {g : Addr} {cdg : Value} {q : Str} :
    LamX.GivesTo X Nrefused "_law_refused" (defScope strefused) g cdg (defBody strefused) "_law_deed" q (TTr IK SK EL O) := by
  intro f c' s H Q tl act hc h
  have nd := screfused.nd
  refine ⟨_, pss_cons (ps_try_manyA (X := (cxOf CX0 X.prog X.w X.K X.mg X.base Nrefused "_law_refused" (defScope strefused) g cdg X.A X.stack s H E0).nox) (n := "e") (i := 1)
      (tb := fun W D σ H => ∃ Ech : XK, (∀ cls d σ' H', Ech cls d H' → W cls d σ' H') ∧ σ[0]? = some (some (.ref f)) ∧ H c' = some (LamX.CodeO c' q) ∧ tl Ech H (fun v H' => D.nx σ H'))
      rfl rfl nd rfl rfl LamX.takes0 (fun W pn xe tk _ => ?_)
      (.cons (c := .ref IK) ⟨rfl, by decide, .inl T.eK.at⟩ (fun a oe cls d pn hz hf => pss_given (q := cls = .ref IK) fun hq => pss_one (ps_ret (pe_tup (pa_cons (pe_tx [107, 105, 110, 100] (by decide +kernel)) (pa_cons (pe_xf T.eK.xf T.IK_value hz hf (pv 1)) (pa_cons (pe_callB (call_isEd T.eK.ec hq hz hf) (by rfl) T.isinstance (by decide +kernel) (pa_cons (pv 1) (pa_cons (pe_globC T.FloorError) pa_nil))) pa_nil))))))
      (.cons (c := .ref SK) ⟨rfl, by decide, .inl T.eS.at⟩ (fun a oe cls d pn hz hf => pss_given (q := cls = .ref SK) fun hq => pss_one (ps_ret (pe_tup (pa_cons (pe_tx [115, 97, 109, 101] (by decide +kernel)) (pa_cons (pe_xf T.eS.xf T.SK_kind hz hf (pv 1)) (pa_cons (pe_callB (call_isEd T.eS.ec hq hz hf) (by rfl) T.isinstance (by decide +kernel) (pa_cons (pv 1) (pa_cons (pe_globC T.FloorError) pa_nil))) pa_nil))))))
      (.cons (c := .ref EL) ⟨rfl, by decide, .inl T.Endless.at⟩ (fun a oe cls d pn hz hf => pss_given (q := cls = .ref EL ∧ d = none) fun hq => pss_one (ps_ret (pe_tup (pa_cons (pe_tx [101, 110, 100, 108, 101, 115, 115] (by decide +kernel)) (pa_cons (pe_callB (call_isE T.Endless.ec (by rw [← hq.1, ← hq.2]; exact hz) hf) (by rfl) T.isinstance (by decide +kernel) (pa_cons (pv 1) (pa_cons (pe_globC T.FloorError) pa_nil))) pa_nil)))))
      (.cons (c := .ref O) ⟨rfl, by decide, .inl T.OtherPlan.at⟩ (fun a oe cls d pn hz hf => pss_given (q := cls = .ref O ∧ d = none) fun hq => pss_one (ps_ret (pe_tup (pa_cons (pe_tx [112, 108, 97, 110] (by decide +kernel)) (pa_cons (pe_callB (call_isE T.OtherPlan.ec (by rw [← hq.1, ← hq.2]; exact hz) hf) (by rfl) T.isinstance (by decide +kernel) (pa_cons (pv 1) (pa_cons (pe_globC T.FloorError) pa_nil))) pa_nil))))) .nil))))) (pss_one (ps_ret pe_non)), ?_⟩
  · refine ⟨fun pins s' σ H' D I h' => ?_⟩
    obtain ⟨Ech, hW, h1, h2, h3⟩ := h'
    exact (pss_one (ps_expr (X := (cxOf CX0 X.prog X.w X.K X.mg X.base Nrefused "_law_refused" (defScope strefused) g cdg X.A X.stack s H E0).tr pn xe) (act W pn xe Ech _ _ tk hW))).run pins s' σ H' D I ⟨h1, h2, h3⟩
  · refine ⟨refOf IK SK EL O Q, fun cls d σ' H' ht => ?_, rfl, hc, ?_⟩
    · rcases ht with ⟨rfl, dd, v, rfl, ed, k1⟩ | ⟨rfl, dd, v, rfl, ed, k1⟩ | ⟨rfl, rfl, k1⟩ | ⟨rfl, rfl, k1⟩
      · refine ⟨true, T.kk, fun _ a ha hl => ⟨rfl, ?_⟩, fun z => nomatch z⟩
        obtain ⟨y0, y1, rfl⟩ := two_of23 hl
        walk_at "go"
        refine e_xf23 ?_
        walk_at "go"
        refine ⟨rfl, rfl, dd, _, v, rfl, ed, rfl, ?_⟩
        walk_at "go"
        refine ⟨dd, _, .ref G, .ref G, true, rfl, ed, rfl, fun u z => z, T.sK, ?_⟩
        walk_at "go"
        intro t H2 ht s2 e2
        exact k1 t H2 s2 e2
      · refine ⟨false, T.sk, (fun z => nomatch z), fun _ => ⟨true, T.ss, fun _ a ha hl => ⟨rfl, ?_⟩, fun z => nomatch z⟩⟩
        obtain ⟨y0, y1, rfl⟩ := two_of23 hl
        walk_at "go"
        refine e_xf23 ?_
        walk_at "go"
        refine ⟨rfl, rfl, dd, _, v, rfl, ed, rfl, ?_⟩
        walk_at "go"
        refine ⟨dd, _, .ref G, .ref G, true, rfl, ed, rfl, fun u z => z, T.sS, ?_⟩
        walk_at "go"
        intro t H2 ht s2 e2
        exact k1 t H2 s2 e2
      · refine ⟨false, T.ek, (fun z => nomatch z), fun _ => ⟨false, T.es, (fun z => nomatch z), fun _ => ⟨true, T.ee, fun _ a ha hl => ⟨⟨rfl, rfl⟩, ?_⟩, fun z => nomatch z⟩⟩⟩
        obtain ⟨y0, y1, rfl⟩ := two_of23 hl
        walk_at "go"
        refine ⟨.ref G, .ref G, true, rfl, fun u z => z, T.sE, ?_⟩
        walk_at "go"
        intro t H2 ht s2 e2
        exact k1 t H2 s2 e2
      · refine ⟨false, T.xk, (fun z => nomatch z), fun _ => ⟨false, T.xs, (fun z => nomatch z), fun _ => ⟨false, T.xe, (fun z => nomatch z), fun _ => ⟨true, T.xx, fun _ a ha hl => ⟨⟨rfl, rfl⟩, ?_⟩, fun z => nomatch z⟩⟩⟩⟩
        obtain ⟨y0, y1, rfl⟩ := two_of23 hl
        walk_at "go"
        refine ⟨.ref G, .ref G, true, rfl, fun u z => z, T.sO, ?_⟩
        walk_at "go"
        intro t H2 ht s2 e2
        exact k1 t H2 s2 e2
    · exact h
/-- _law_refused(lambda: body) -/
theorem pe_refused (F : FnAt X.K X.mg "_law_refused" strefused) (T : TxtK23 X.prog X.K X.mg C R O B EL IK SK G st2 st3) {Ts : List (Addr × Str)} {c Pt : Addr} {k : Nat} {t : XK → TE} {params : Arguments} {body : Expr} {scope : Scope} {p lpos pos : PySem.Pos}
    (TB : LamX.TabB X.base X.mg c Pt) (hmT : (Pt, X.env.qual ++ "<lambda>") ∈ Ts) (hu : ∀ p ∈ Ts, p.1 = Pt → p.2 = X.env.qual ++ "<lambda>") (hr : Room (k + 2) X.A) (L : LamX.LamS X.env.scope scope)
    (hbody : ∀ (A : Around) (outer : List Env) (s : Shared) (H : Hp) (E : XK) (f c' : Addr), Room k (A.deeper (LamX.lamEnv X scope s.heap.objs.size f c')) → PE (LamX.lamCx X A outer s H E scope f c') body (t E))
    (hg : Gl X "_law_refused" := by rfl) (hcode : X.env.code = .ref c := by rfl) (hdef : defaultsOf params X.env = ([], []) := by rfl)
    (hbind : ∀ (q : Str) (cl : List (Str × Addr)) (pm cv ctv : Value), bindArgs (PySem.W.kla_fn "<lambda>" q params body scope cl pm cv ctv) ⟨[], []⟩ = pure [] := by intro _ _ _ _ _; rfl) :
    PE X (.Call (.Name "_law_refused" p) [.Lambda params body scope lpos] [] pos) (LamX.tLam Ts (TTr IK SK EL O) t) := by
  obtain ⟨g, fd, hm, G⟩ := F.ex
  have hb : Binds X.K fd ["_law_deed"] [] := G.binds fun _ _ _ _ _ _ us hl => match us, hl with | [_], _ => rfl
  obtain ⟨oc, od, kV, doc, pm, an, cdv, ct, osl, rfl, lk, hcd⟩ := G.ex
  exact LamX.pe_lamcall hg hm G.kp lk hcd hb screfused rfl (Or.inl rfl) (refused_gives T) TB hcode hmT hu hr L hdef hbind hbody
end
end
section
open PySem PySem.Spec L2
section
variable {P : Program} {w : World} {K : PySem.W.Frag} {mg : Str → Option Value} {base : Heap}
end
end
section
open PySem PySem.Spec L2
end
section
open PySem PySem.Spec L2
theorem v_eqNil16 {K : PySem.W.Frag} {H : Hp} {Q : VK} {p q : Addr} {xs : List (List Nat)} (h1 : H p = some (.lst (xs.map fun l => V.str (tx l)))) (hx : ∀ l ∈ xs, ∀ c ∈ l, c < 1000) (h2 : H q = some (.lst [])) (k : Q (.bl xs.isEmpty) H) : rEqD K (.ref p) (.ref q) H Q := by
  have h1' : H p = some (.lst ((xs.map tx).map V.str)) := by
    rw [h1, List.map_map]
    rfl
  refine ⟨.list ((xs.map tx).map PyData.str), .list ((([] : List (List Nat)).map tx).map PyData.str), .lst (SqL.of h1') (dp_strs _), .lst (SqL.of h2) (dp_strs []), shaped_strs _ (ok_strs hx), shaped_strs _ (ok_strs fun _ z => nomatch z), ?_⟩
  have e : PyData.eqv (.list ((xs.map tx).map PyData.str)) (.list ((([] : List (List Nat)).map tx).map PyData.str)) = xs.isEmpty := by
    show PyData.eqvAll _ _ = _
    rw [eqvAll_strs]
    cases xs with
    | nil => rfl
    | cons a r => rfl
  rw [e]
  exact k
section
variable {P : Program} {w : World} {K : PySem.W.Frag} {mg : Str → Option Value} {base : Heap} {C R O W : Addr}
end
end
section
open PySem PySem.Spec L2
def spOnly : Sp := fun vs H Q _ => ∃ (d : Addr) (ls : List Nat) (fn : Nat → List Nat) (w A : List Nat), vs = [.ref d, .str (tx w), .str (tx A)] ∧ H d = some (.dK (tabKV ls fn)) ∧ Fl ls fn ∧ (∀ c ∈ w, c ∈ ls) ∧ w.length ≤ 9000 ∧ (∀ c ∈ nameOf fn w, c ∈ A) ∧ ∀ H', Same H H' → Q (.bl true) H'
def spSubset : Sp := fun vs H Q _ => ∃ (g : Pen) (n : Nat) (d : Addr) (ls : List Nat) (fn : Nat → List Nat), vs = [.ref g.p, .ref d] ∧ PenAt g H n ∧ n < 800000 ∧ d ≠ g.p ∧ H d = some (.dK (tabKV ls fn)) ∧ Tab ls fn ∧
  ∀ (A : List Nat) H', A.Nodup → (∀ a ∈ A, a ∈ ls) → PenAt g H' (n + 2 * ls.length) → Keep g.p H H' → Q (.str (tx A)) H'
theorem v_eqNN {K : PySem.W.Frag} {H : Hp} {Q : VK} {p q : Addr} (h1 : H p = some (.lst [])) (h2 : H q = some (.lst [])) (k : Q (.bl true) H) : rEqD K (.ref p) (.ref q) H Q := v_eqNil16 (xs := []) h1 (fun _ z => nomatch z) h2 k
theorem v_neNN {K : PySem.W.Frag} {H : Hp} {Q : VK} {p q : Addr} (h1 : H p = some (.lst [])) (h2 : H q = some (.lst [])) (k : Q (.bl false) H) : rNeD K (.ref p) (.ref q) H Q := v_neNilS (ns := []) h1 (fun _ z => nomatch z) h2 k
structure TxtL25 (K : PySem.W.Frag) (mg : Str → Option Value) (C R O B G : Addr) : Prop extends TxtBr K mg C R O B G where
  range : mg "range" = none
  min : mg "min" = none
  oo : PySem.W.subIn K (.ref O) (.ref O) = some true
section
variable {P : Program} {w : World} {K : PySem.W.Frag} {mg : Str → Option Value} {base : Heap} {C R O B G : Addr}
abbrev stonly : Stmt := (top 58)
abbrev Nonly : List Str := ["_law_table", "_law_walk_here", "_law_kinds_here", "_law_item"]
theorem sconly : FnScope Nonly ["_law_table", "_law_walk_here", "_law_kinds_here"] (defScope stonly) := ⟨rfl, rfl, rfl, by decide +kernel, rfl, by decide +kernel, by decide +kernel⟩

theorem ok_only (F : FnAt K mg "_law_only" stonly) (D_name : Def P w K mg base CX0 3 "_law_name" ["_law_table", "_law_walk_here"] spName) : Def P w K mg base CX0 4 "_law_only" ["_law_table", "_law_walk_here", "_law_kinds_here"] spOnly := by
  refine F.ok sconly (fun _ _ _ _ _ _ us hl => match us, hl with | [_, _, _], _ => rfl) (fun vs H Q E h => ?_) (fun f cdv A outer s H vs Q E hr h => ?_)
  · obtain ⟨d, ls, fn, w1, A1, rfl, _⟩ := h
    rfl
  obtain ⟨d, ls, fn, w1, A1, rfl, hd, fl, mw, lw, hk, q⟩ := h
  have hu := hu_of hr
  have nd := sconly.nd
  refine ⟨_, (pss_one (ps_ret (pe_cmpR (op_eqDK (K := K) rfl hr.units) (pe_lc (own := [("_law_item", 3)]) (g := gName 3) (by rfl) nd (pi_str (pe_cd D_name hr pass0 (pa_cons (pv 0) (pa_cons (pv 1) pa_nil)))) (blkOk_by (own := [("_law_item", 3)]) (N := Nonly) (sc := defScope stonly) (by decide +kernel)) (fun _ _ _ _ _ => (pg_name (i := 3) nd rfl (Or.inl rfl))) (fun _ _ _ _ _ => (pts_one (pt_cmpR op_notInS (pv 3) (pv 2) (by rfl)))) (fun _ _ _ _ _ => (pv 3))) (pe_lst pa_nil) (nomark _)))), ?_⟩
  refine s_start [some _, some _, some _, none] rfl ?_
  walk_at "go"
  refine sp_name fl hd mw (by omega) fun H1 s1 => ?_
  have ln := name_len fn w1
  walk_at "go"
  refine v_lcS (l := nameOf fn w1) (b := fun c => !decide (c ∈ A1)) (f := fun c => V.str (tx [c])) (by omega) (fun c _ H2 s2 R r => ?_) (fun c _ _ H2 s2 R r => ?_) (fun D H2 hD s2 e2 => ?_)
  · walk_at "go"
    exact r H2 (Same.refl _)
  · walk_at "go"
    exact r H2 (Same.refl _)
  have e0 : (nameOf fn w1).filter (fun c => !decide (c ∈ A1)) = [] := List.filter_eq_nil_iff.mpr fun c hc => by
    rw [decide_eq_true (hk c hc)]
    simp
  rw [e0] at e2
  walk_at "go"
  intro p H3 hp s3 e3
  exact v_eqNN (s3 _ _ e2) e3 (q H3 ((s1.trans s2).trans s3))
abbrev stsubset : Stmt := (top 59)
abbrev Nsubset : List Str := ["_law_pen_here", "_law_table", "_law_item"]
theorem scsubset : FnScope Nsubset ["_law_pen_here", "_law_table"] (defScope stsubset) := ⟨rfl, rfl, rfl, by decide +kernel, rfl, by decide +kernel, by decide +kernel⟩

theorem ok_subset (F : FnAt K mg "_law_subset" stsubset) (T : TxtR K mg C R O) (D_shuffled : Def P w K mg base CX0 2 "_law_shuffled" ["_law_pen_here", "_law_items"] spShuffled) (D_draw : Def P w K mg base CX0 1 "_law_draw" ["_law_pen_here", "_law_number"] spDraw) : Def P w K mg base CX0 3 "_law_subset" ["_law_pen_here", "_law_table"] spSubset := by
  refine F.ok scsubset (fun _ _ _ _ _ _ us hl => match us, hl with | [_, _], _ => rfl) (fun vs H Q E h => ?_) (fun f cdv A outer s H vs Q E hr h => ?_)
  · obtain ⟨g, n, d, ls, fn, rfl, _⟩ := h
    rfl
  obtain ⟨g, n, d, ls, fn, rfl, hp, hn, ndp, hd, tab, q⟩ := h
  have hu := hu_of hr
  have nd := scsubset.nd
  have tl := tab.len
  replace D_draw := D_draw.mono (show 1 ≤ 2 by decide)
  refine ⟨_, (pss_one (ps_ret (pe_joinK (K := K) rfl (pe_tx [] (by decide +kernel)) (pe_lc (own := [("_law_item", 2)]) (g := gName 2) (by rfl) nd (pi_listK (K := K) rfl (pe_cd D_shuffled hr pass0 (pa_cons (pv 0) (pa_cons (pe_callTy (call_list_dK rfl) (by rfl) T.list (by decide +kernel) (pa_cons (pv 1) pa_nil)) pa_nil)))) (blkOk_by (own := [("_law_item", 2)]) (N := Nsubset) (sc := defScope stsubset) (by decide +kernel)) (fun _ _ _ _ _ => (pg_name (i := 2) nd rfl (Or.inl rfl))) (fun _ _ _ _ _ => (pts_one (pt_cmpR op_eq (pe_cd D_draw hr pass0 (pa_cons (pv 0) (pa_cons pe_int pa_nil))) pe_int (nomark _)))) (fun _ _ _ _ _ => (pv 2)))))), ?_⟩
  refine s_start [some _, some _, none] rfl ?_
  walk_at "go"
  refine v_listD hd fun q0 H1 hq s1 e1 => ?_
  walk_at "go"
  have e1' : H1 q0 = some (.lst (ls.map fun c => V.str (tx [c]))) := by
    rw [e1]
    unfold tabKV
    rw [List.map_map]
    rfl
  have p1 := hp.same s1
  refine ⟨g, n, q0, ls, rfl, e1', by omega, fun c hc => ?_, p1, by omega, fun l ys H2 hl pm e2 p2 k2 => ?_⟩
  · have := LET_lt (tab.lt c hc)
    omega
  have nlp : l ≠ g.p := (p1.p_ne hl).symm
  have yn : ys.Nodup := pm.nodup_iff.mpr tab.nd
  have yl := pm.length_eq
  refine ⟨l, rfl, ⟨_, SqL.of e2⟩, ?_⟩
  intro D hD
  have nD := p2.p_ne hD
  have nC := p2.cl_ne hD
  refine lc_it (walk_listM (ls := ys) (f := fun c => V.str (tx [c]))) (fun k H' => Keep g.p H2 H' ∧ PenAt g H' (n + ls.length + k) ∧ ∃ S : List Nat, H' D = some (.lst (S.map fun c => V.str (tx [c]))) ∧ S.Sublist (ys.take k)) ⟨Keep.of (Same.new hD), p2.same (Same.new hD), [], upd_same, List.nil_sublist _⟩ (fun k H' _ p => SqL.of (p.1 _ _ e2 nlp)) (fun k x H3 H4 hk p y => ?_) (fun H' p => ?_)
  · obtain ⟨k3, p3, S, e3, sb⟩ := p
    obtain ⟨rfl, rfl⟩ := y
    have sl := sb.length_le
    rw [List.length_take] at sl
    have et : ys.take (k + 1) = ys.take k ++ [ys.getD k 0] := by
      rw [List.take_succ, List.getD_eq_getElem?_getD, List.getElem?_eq_getElem hk]
      rfl
    refine ⟨wipe1, ?_⟩
    walk_at "go"
    refine ⟨g, 2, _, rfl, by decide, by decide, p3, by omega, fun z H5 z0 z1 p5 k5 => ?_⟩
    have e5 := k5 _ _ e3 nD.symm
    walk_at "go"
    refine if_dec (fun c => ?_) (fun c => ?_)
    · walk_at "go"
      refine ⟨_, e5, szlt (by rw [List.length_map]; omega), fun b o hb nb => ?_, (p5.keep Keep.put nD nC).mono (by omega), S ++ [ys.getD k 0], by rw [upd_same, List.map_append]; rfl, by rw [et]; exact sb.append (List.Sublist.refl _)⟩
      rw [upd_ne (ne_of_none hb hD)]
      exact k5 _ _ (k3 _ _ hb nb) nb
    · exact ⟨k3.trans k5, p5.mono (by omega), S, e5, by rw [et]; exact sb.trans (List.sublist_append_left _ _)⟩
  · obtain ⟨k3, p3, S, e3, sb⟩ := p
    rw [List.take_of_length_le (Nat.le_refl _)] at sb
    have sl := sb.length_le
    have e4 : H' D = some (.lst (strsV (S.map fun c => [c]))) := by rw [e3, strs_ones]
    refine v_join e4 (by rw [flat_ones]; omega) ?_
    rw [flat_ones]
    refine q S H' (yn.sublist sb) (fun a ha => pm.subset (sb.subset ha)) (p3.mono (by omega)) fun b o hb nb => k3 _ _ (k2 _ _ (s1 _ _ hb) nb) nb
end
end
section
open PySem PySem.Spec L2
def bK (ls : List Nat) (fn : Nat → List Nat) (v K : List Nat) : List Nat := (backs ls fun c x => act fn v (unit x) c).filter fun c => decide (c ∈ K)
theorem bK_mem {ls : List Nat} {fn : Nat → List Nat} (ok : CrOk fn) {v K : List Nat} (mv : ∀ y ∈ v, y ∈ ls) {c : Nat} : c ∈ bK ls fn v K ↔ c ∈ ls ∧ c ∈ K ∧ desc fn c (nameOf fn v) := by
  unfold bK backs
  rw [List.mem_filter, List.mem_filter, decide_eq_true_iff, decide_eq_true_iff]
  have key : ∀ (hc : c ∈ ls), (∃ x ∈ ls, act fn v (unit x) c < 0) ↔ desc fn c (nameOf fn v) := fun hc => by
    rw [← mark_neg (ls := ls) ok (name_NF ok v).red (fun y hy => mv y (name_mem hy)) hc]
    constructor <;> rintro ⟨x, hx, z⟩ <;> refine ⟨x, hx, ?_⟩
    · show act fn (nameOf fn v) (unit x) c < 0
      rwa [name_act ok]
    · have z : act fn (nameOf fn v) (unit x) c < 0 := z
      rwa [name_act ok] at z
  exact ⟨fun z => ⟨z.1.1, z.2, (key z.1.1).mp z.1.2⟩, fun z => ⟨⟨z.1, (key z.1).mpr z.2.2⟩, z.2.1⟩⟩
theorem strip_len {fn : Nat → List Nat} (ok : CrOk fn) {v : List Nat} {c : Nat} (h : desc fn c (nameOf fn v)) : (nameOf fn (c :: v)).length + 1 ≤ (nameOf fn v).length := by
  obtain ⟨p, q, e, _⟩ := desc_split h
  have hm : c ∈ nameOf fn v := e ▸ List.mem_append_right _ (.head _)
  have z : nameOf fn (c :: v) = nameOf fn ((nameOf fn v).erase c) := name_eq ok fun g => by
    show thr fn c (act fn v g) = _
    rw [← name_act ok v, ← erase_act ok h]
    show thr fn c (thr fn c (act fn _ g)) = _
    rw [thr_thr ok]
  have l1 := name_len fn ((nameOf fn v).erase c)
  rw [z]
  rw [List.length_erase_of_mem hm] at l1
  have := List.length_pos_of_mem hm
  omega
def spStripped : Sp := fun vs H Q _ => ∃ (d : Addr) (ls : List Nat) (fn : Nat → List Nat) (w K : List Nat), vs = [.ref d, .str (tx w), .str (tx K)] ∧ H d = some (.dK (tabKV ls fn)) ∧ Fl ls fn ∧ (∀ c ∈ w, c ∈ ls) ∧ (∀ c ∈ K, c ∈ ls) ∧ w.length ≤ 4000 ∧
  ∀ b l t H', Strip fn K w b l → b.length + l.length ≤ w.length → Same H H' → H' t = some (.tup [.str (tx b), .str (tx l)]) → Q (.ref t) H'
/-- a block on a drawn floor, as the law asks of it -/
def spIsBlock (C R B : Addr) : Sp := fun vs H Q _ => ∃ (d a r x : Addr) (ls : List Nat) (fn : Nat → List Nat) (n K w K' : List Nat), vs = [.ref d, .ref a, .str (tx w), .str (tx K')] ∧ H d = some (.dK (tabKV ls fn)) ∧ Fl ls fn ∧ BlkF C R B H a r x ls fn n K ∧ (∀ c ∈ w, c ∈ ls) ∧ w.length ≤ 6000 ∧
  (∀ c ∈ ls, c ∈ K' ↔ c ∈ K) ∧ (∀ c ∈ nameOf fn (n.reverse ++ w), c ∈ K') ∧ (∀ c ∈ K, ¬ desc fn c n.reverse) ∧ ∀ H', Same H H' → Q (.bl true) H'
section
variable {P : Program} {w : World} {K : PySem.W.Frag} {mg : Str → Option Value} {base : Heap} {C R O B EL : Addr}
abbrev ststripped : Stmt := (top 61)
abbrev Nstripped : List Str := ["_law_table", "_law_walk_here", "_law_kinds_here", "_law_marks_here", "_law_begin_of", "_law_backs_here", "_law_item"]
theorem scstripped : FnScope Nstripped ["_law_table", "_law_walk_here", "_law_kinds_here"] (defScope ststripped) := ⟨rfl, rfl, rfl, by decide +kernel, rfl, by decide +kernel, by decide +kernel⟩

theorem ok_stripped (F : FnAt K mg "_law_stripped" ststripped) (D_marks : Def P w K mg base CX0 2 "_law_marks" ["_law_table", "_law_walk_here"] spMarks) (D_backs : Def P w K mg base CX0 1 "_law_backs" ["_law_marks_here"] spBacks) (D_through : Def P w K mg base CX0 1 "_law_through" ["_law_table", "_law_marks_here", "_law_door"] spThrough) (D_name : Def P w K mg base CX0 3 "_law_name" ["_law_table", "_law_walk_here"] spName) : Def P w K mg base CX0 4 "_law_stripped" ["_law_table", "_law_walk_here", "_law_kinds_here"] spStripped := by
  refine F.ok scstripped (fun _ _ _ _ _ _ us hl => match us, hl with | [_, _, _], _ => rfl) (fun vs H Q E h => ?_) (fun f cdv A outer s H vs Q E hr h => ?_)
  · obtain ⟨d, ls, fn, w1, K1, rfl, _⟩ := h
    rfl
  obtain ⟨d, ls, fn, w1, K1, rfl, hd, fl, mw, mK, lw, q⟩ := h
  have hu := hu_of hr
  have nd := scstripped.nd
  have tl := fl.tab.len
  have ok := fl.ok
  replace D_marks := D_marks.mono (show 2 ≤ 3 by decide)
  replace D_backs := D_backs.mono (show 1 ≤ 3 by decide)
  replace D_through := D_through.mono (show 1 ≤ 3 by decide)
  refine ⟨_, (pss_cons (ps_par (i := 3) (j := 4) (by rfl) nd rfl rfl (by decide) rfl rfl (pa_cons (pe_cd D_marks hr pass0 (pa_cons (pv 0) (pa_cons (pe_revS (pv 1)) pa_nil))) (pa_cons (pe_tx [] (by decide +kernel)) pa_nil)) (by rfl))
      (pss_cons (ps_setLc (i := 5) (own := [("_law_item", 6)]) (g := gName 6) (by rfl) nd rfl rfl (sw_true rfl rfl rfl (by decide +kernel)) (pi_listK (K := K) rfl (pe_cd D_backs hr pass0 (pa_cons (pv 3) pa_nil))) (blkOk_by (own := [("_law_item", 6)]) (N := Nstripped) (sc := defScope ststripped) (by decide +kernel)) (fun _ _ _ _ _ => (pg_name (i := 6) nd rfl (Or.inl rfl))) (fun _ _ _ _ _ => (pts_one (pt_cmpR op_inS (pv 6) (pv 2) (by rfl)))) (fun _ _ _ _ _ => (pv 6)))
      (pss_cutS (ps_while PassesOwn.never (pt_cmpR (op_neDK (K := K) rfl hr.units) (pv 5) (pe_lst pa_nil) (nomark _))
      (pss_cons (ps_par (i := 4) (j := 3) (by rfl) nd rfl rfl (by decide) rfl rfl (pa_cons (pe_op op_addS (pv 4) (pe_ix (ix_LK (K := K) rfl) (pv 5) pe_int (fun _ _ => rfl))) (pa_cons (pe_cd D_through hr pass0 (pa_cons (pv 0) (pa_cons (pv 3) (pa_cons (pe_ix (ix_LK (K := K) rfl) (pv 5) pe_int (fun _ _ => rfl)) pa_nil)))) pa_nil)) (by rfl))
        (pss_one (ps_setLc (i := 5) (own := [("_law_item", 6)]) (g := gName 6) (by rfl) nd rfl rfl (sw_true rfl rfl rfl (by decide +kernel)) (pi_listK (K := K) rfl (pe_cd D_backs hr pass0 (pa_cons (pv 3) pa_nil))) (blkOk_by (own := [("_law_item", 6)]) (N := Nstripped) (sc := defScope ststripped) (by decide +kernel)) (fun _ _ _ _ _ => (pg_name (i := 6) nd rfl (Or.inl rfl))) (fun _ _ _ _ _ => (pts_one (pt_cmpR op_inS (pv 6) (pv 2) (by rfl)))) (fun _ _ _ _ _ => (pv 6))))))
      (pss_one (ps_ret (pe_tup (pa_cons (pv 4) (pa_cons (pe_cd D_name hr pass0 (pa_cons (pv 0) (pa_cons (pe_op op_addS (pe_revS (pv 4)) (pv 1)) pa_nil))) pa_nil)))))))), ?_⟩
  refine s_start [some _, some _, some _, none, none, none, none] rfl ?_
  have bl : ∀ M, (backs ls M).length ≤ 8 := fun M => Nat.le_trans (List.length_filter_le _ _) tl
  walk_at "go"
  refine ⟨d, ls, fn, _, rfl, hd, fl.tab, fun c hc => mw c (List.mem_reverse.mp hc), fun m H1 m1 s1 => ?_⟩
  have m1 : MarksAt H1 m ls (fun c x => act fn w1 (unit x) c) := m1.congr fun c _ x _ => by rw [List.reverse_reverse]
  walk_at "go"
  refine ⟨m, ls, _, rfl, m1, tl, fun l H2 e2 s2 => ?_⟩
  walk_at "go"
  have b1 := bl fun c x => act fn w1 (unit x) c
  refine vals_some (ls := backs ls fun c x => act fn w1 (unit x) c) (it := fun c => V.str (tx [c])) (f := fun c => V.str (tx [c])) (b := fun c => decide (c ∈ K1)) (walk_listM (f := fun c => V.str (tx [c]))) (fun H' s' => SqL.of (s' _ _ e2)) (by omega) (fun c hc H3 s3 R r => ?_) (fun c hc _ H3 s3 R r => ?_) (fun D H3 hD s3 e3 => ?_)
  · walk_at "go"
    exact r H3 (Same.refl _)
  · walk_at "go"
    exact r H3 (Same.refl _)
  have e3 : H3 D = some (.lst ((bK ls fn w1 K1).map fun c => V.str (tx [c]))) := e3
  walk_at "go"
  refine s_cut (fun σ H' => ∃ b m l z, σ = [some (.ref d), some (.str (tx w1)), some (.str (tx K1)), some (.ref m), some (.str (tx b)), some (.ref l), z] ∧ Same H H' ∧ Strip fn K1 w1 b (nameOf fn (b.reverse ++ w1)) ∧ b.length + (nameOf fn (b.reverse ++ w1)).length ≤ w1.length) ?_ ?_
  · refine s_while (fun n σ H' => ∃ b m l z, n = (nameOf fn (b.reverse ++ w1)).length ∧ σ = [some (.ref d), some (.str (tx w1)), some (.str (tx K1)), some (.ref m), some (.str (tx b)), some (.ref l), z] ∧ Same H H' ∧ (∀ c ∈ b, c ∈ K1) ∧ b.length + (nameOf fn (b.reverse ++ w1)).length ≤ w1.length ∧ MarksAt H' m ls (fun c x => act fn (b.reverse ++ w1) (unit x) c) ∧ H' l = some (.lst ((bK ls fn (b.reverse ++ w1) K1).map fun c => V.str (tx [c])))) (nameOf fn w1).length ⟨[], m, D, none, rfl, rfl, (s1.trans s2).trans s3, (fun _ z => nomatch z), by have := name_len fn w1; show 0 + (nameOf fn w1).length ≤ _; omega, (m1.same s2).same s3, e3⟩ ?_
    rintro n σ H4 ⟨b, m, l, z, rfl, rfl, s4, hb, lb, m4, e4⟩
    have mv : ∀ y ∈ b.reverse ++ w1, y ∈ ls := fun y hy => (List.mem_append.mp hy).elim (fun z => mK y (hb y (List.mem_reverse.mp z))) (mw y)
    walk_at "go"
    intro p H5 hp s5 e5
    have e4' : H5 l = some (.lst (((bK ls fn (b.reverse ++ w1) K1).map fun c => tx [c]).map V.str)) := by
      rw [s5 _ _ e4, List.map_map]
      rfl
    refine v_neNilS e4' (fun x hx => ?_) e5 ?_
    · obtain ⟨y, hy, rfl⟩ := List.mem_map.mp hx
      refine ok_tx fun c hc => ?_
      rw [List.mem_singleton.mp hc]
      have := LET_lt (fl.tab.lt y ((bK_mem ok mv).mp hy).1)
      omega
    rw [List.isEmpty_map]
    walk_at "go"
    cases hB : bK ls fn (b.reverse ++ w1) K1 with
    | nil =>
      refine iteF ?_
      refine ⟨b, m, l, z, rfl, s4.trans s5, ⟨hb, rfl, fun t ht hd' => ?_⟩, lb⟩
      have := (bK_mem (ls := ls) (K := K1) ok mv (c := t)).mpr ⟨mK t ht, ht, hd'⟩
      rw [hB] at this
      cases this
    | cons c rr =>
      have hc := (bK_mem (ls := ls) (K := K1) ok mv (c := c)).mp (by rw [hB]; exact .head _)
      rw [hB] at e4
      refine iteT ?_
      have e45 := s5 _ _ e4
      have sl := strip_len ok hc.2.2
      have lu : b.length + [c].length ≤ 1000000 := by
        rw [List.length_singleton]
        omega
      refine v_turn ?_
      walk_at "go"
      refine v_ixL e45 (atI_nat (j := 0) rfl) ?_
      walk_at "go"
      refine v_ixL e45 (atI_nat (j := 0) rfl) ?_
      walk_at "go"
      refine ⟨d, m, ls, fn, _, c, rfl, s5 _ _ (s4 _ _ hd), fl.tab, hc.1, m4.same s5, fun m' H6 _ m6 s6 => ?_⟩
      have ev : (b ++ [c]).reverse ++ w1 = c :: (b.reverse ++ w1) := by simp
      have m6 : MarksAt H6 m' ls (fun e x => act fn ((b ++ [c]).reverse ++ w1) (unit x) e) := m6.congr fun e _ x _ => by
        rw [ev]
        rfl
      walk_at "go"
      refine ⟨m', ls, _, rfl, m6, tl, fun l' H7 e7 s7 => ?_⟩
      walk_at "go"
      have b7 := bl fun e x => act fn ((b ++ [c]).reverse ++ w1) (unit x) e
      refine vals_some (ls := backs ls fun e x => act fn ((b ++ [c]).reverse ++ w1) (unit x) e) (it := fun c => V.str (tx [c])) (f := fun c => V.str (tx [c])) (b := fun c => decide (c ∈ K1)) (walk_listM (f := fun c => V.str (tx [c]))) (fun H' s' => SqL.of (s' _ _ e7)) (by omega) (fun c hc H8 s8 R r => ?_) (fun c hc _ H8 s8 R r => ?_) (fun D H8 hD s8 e8 => ?_)
      · walk_at "go"
        exact r H8 (Same.refl _)
      · walk_at "go"
        exact r H8 (Same.refl _)
      refine ⟨_, ?_, b ++ [c], m', D, _, rfl, rfl, (((s4.trans s5).trans s6).trans s7).trans s8, fun y hy => ?_, ?_, (m6.same s7).same s8, e8⟩
      · rw [ev]
        omega
      · rcases List.mem_append.mp hy with z | z
        · exact hb y z
        · rw [List.mem_singleton.mp z]
          exact hc.2.1
      · rw [ev, List.length_append, List.length_singleton]
        omega
  rintro σ H3 ⟨b, m, l, z, rfl, s3, st, lb⟩
  have lbw : b.reverse.length + w1.length ≤ 1000000 := by rw [List.length_reverse]; omega
  walk_at "go"
  have mv : ∀ y ∈ b.reverse ++ w1, y ∈ ls := fun y hy => (List.mem_append.mp hy).elim (fun z => mK y (st.sb y (List.mem_reverse.mp z))) (mw y)
  refine sp_name fl (s3 _ _ hd) mv (by rw [List.length_append, List.length_reverse]; omega) fun H4 s4 => ?_
  walk_at "go"
  intro t H5 ht s5 e5
  exact q b _ t H5 st lb ((s3.trans s4).trans s5) e5
abbrev stis_block : Stmt := (top 62)
abbrev Nis_block : List Str := ["_law_table", "_law_told", "_law_walk_here", "_law_kinds_here", "_law_item"]
theorem scis_block : FnScope Nis_block ["_law_table", "_law_told", "_law_walk_here", "_law_kinds_here"] (defScope stis_block) := ⟨rfl, rfl, rfl, by decide +kernel, rfl, by decide +kernel, by decide +kernel⟩

theorem ok_is_block (F : FnAt K mg "_law_is_block" stis_block) (T : Txt23 K mg C R O B EL) (D_only : Def P w K mg base CX0 4 "_law_only" ["_law_table", "_law_walk_here", "_law_kinds_here"] spOnly) (D_marks : Def P w K mg base CX0 2 "_law_marks" ["_law_table", "_law_walk_here"] spMarks) (D_backs : Def P w K mg base CX0 1 "_law_backs" ["_law_marks_here"] spBacks) (M_Plan_eq : MDef P w K mg base CX0 1 C "__eq__" ["self", "other"] (spPlanEq C)) :
    Def P w K mg base CX0 5 "_law_is_block" ["_law_table", "_law_told", "_law_walk_here", "_law_kinds_here"] (spIsBlock C R B) := by
  refine F.ok scis_block (fun _ _ _ _ _ _ us hl => match us, hl with | [_, _, _, _], _ => rfl) (fun vs H Q E h => ?_) (fun f cdv A outer s H vs Q E hr h => ?_)
  · obtain ⟨d, a, r, x, ls, fn, n, K1, w1, K', rfl, _⟩ := h
    rfl
  obtain ⟨d, a, r, x, ls, fn, n, K1, w1, K2, rfl, hd, fl, hb, mw, lw, hK, ho, hno, q⟩ := h
  have hu := hu_of hr
  have nd := scis_block.nd
  replace D_marks := D_marks.mono (show 2 ≤ 4 by decide)
  replace D_backs := D_backs.mono (show 1 ≤ 4 by decide)
  replace M_Plan_eq := M_Plan_eq.mono (show 1 ≤ 4 by decide)
  refine ⟨_, (pss_cons (ps_if (PW.pt (pw_or (pt_cmpR op_ne (pe_flK (K := K) rfl (pv 1) rfl) (pe_joinK (K := K) rfl (pe_tx [] (by decide +kernel)) (pe_lock (pe_lc (own := [("_law_item", 4)]) (g := gName 4) (by rfl) nd (pi_keys (pv 0)) (blkOk_by (own := [("_law_item", 4)]) (N := Nis_block) (sc := defScope stis_block) (by decide +kernel)) (fun _ _ _ _ _ => (pg_name (i := 4) nd rfl (Or.inl rfl))) (fun _ _ _ _ _ => (pts_one (pt_cmpR op_inS (pv 4) (pv 3) (by rfl)))) (fun _ _ _ _ _ => (pv 4))))) (nomark _)) (pw_or1 (pt_not (pt_cmpR (op_cmpM (op := .Eq) (fun _ _ => rfl) M_Plan_eq hr pass0) (pe_flK (K := K) rfl (pv 1) rfl) (pe_flK (K := K) rfl (pe_flK (K := K) rfl (pv 1) rfl) rfl) (nomark _))))))
      (pss_one (ps_ret pe_bl))
      pss_nil)
      (pss_cons (ps_if (pt_cmpR (op_neDK (K := K) rfl hr.units) (pe_lc (own := [("_law_item", 4)]) (g := gName 4) (by rfl) nd (pi_listK (K := K) rfl (pe_cd D_backs hr pass0 (pa_cons (pe_cd D_marks hr pass0 (pa_cons (pv 0) (pa_cons (pe_flK (K := K) rfl (pe_flK (K := K) rfl (pv 1) rfl) rfl) pa_nil))) pa_nil))) (blkOk_by (own := [("_law_item", 4)]) (N := Nis_block) (sc := defScope stis_block) (by decide +kernel)) (fun _ _ _ _ _ => (pg_name (i := 4) nd rfl (Or.inl rfl))) (fun _ _ _ _ _ => (pts_one (pt_cmpR op_inS (pv 4) (pv 3) (by rfl)))) (fun _ _ _ _ _ => (pv 4))) (pe_lst pa_nil) (nomark _))
      (pss_one (ps_ret pe_bl))
      pss_nil)
      (pss_one (ps_ret (pe_cd D_only hr pass0 (pa_cons (pv 0) (pa_cons (pe_op op_addS (pe_revS (pe_flK (K := K) rfl (pe_flK (K := K) rfl (pv 1) rfl) rfl)) (pv 2)) (pa_cons (pv 3) pa_nil)))))))), ?_⟩
  refine s_start [some _, some _, some _, some _, none] rfl ?_
  have tl := fl.tab.len
  have ln := hb.ln
  obtain ⟨⟨dx, e1⟩, ro⟩ := hb.blk
  obtain ⟨dr, f1⟩ := ro.ex
  walk_at "go"
  refine v_fld e1 T.Block.cl T.nBk blockF_k ?_
  walk_at "go"
  refine v_lockLc (d := d) (ls := ls) (g := fun c => V.str (tx (fn c))) (b := fun c => decide (c ∈ K2)) (f := fun c => V.str (tx [c])) (by rw [hd]; unfold tabKV; rfl) (by omega) (fun H1 R r => ?_) (fun c hc H1 lk R r => ?_) (fun c hc _ H1 lk R r => ?_) (fun D H1 hD s1 e2 => ?_)
  · walk_at "go"
    exact r
  · walk_at "go"
    exact r H1 (Same.refl _)
  · walk_at "go"
    exact r H1 (Same.refl _)
  have eK : (ls.filter fun c => decide (c ∈ K2)) = K1 := by
    rw [hb.as]
    refine List.filter_congr fun c hc => ?_
    rw [decide_eq_decide]
    exact hK c hc
  have lK := hb.lk fl
  rw [eK, strs_ones] at e2
  walk_at "go"
  refine v_join e2 (by rw [flat_ones]; omega) ?_
  rw [flat_ones]
  walk_at "go"
  refine if_ndec (fun c => (c rfl).elim) (fun _ => ?_)
  walk_at "go"
  refine v_fld (s1 _ _ e1) T.Block.cl T.nBp blockF_p ?_
  walk_at "go"
  refine v_fld (s1 _ _ e1) T.Block.cl T.nBr blockF_r ?_
  walk_at "go"
  refine v_fld (s1 _ _ f1) T.Room.cl T.nPl roomF_p ?_
  have pl := hb.pl.same s1
  obtain ⟨dpa, ta, da, ga, _⟩ := pl.ex
  refine v_M2 ga ga ⟨x, x, _, _, _, _, rfl, pl, pl, pairsOf_small _, pairsOf_small _, ?_⟩
  rw [decide_eq_true ⟨rfl, rfl⟩]
  walk_at "go"
  refine v_fld (s1 _ _ e1) T.Block.cl T.nBr blockF_r ?_
  walk_at "go"
  refine v_fld (s1 _ _ f1) T.Room.cl T.nNm roomF_n ?_
  walk_at "go"
  refine ⟨d, ls, fn, n, rfl, s1 _ _ hd, fl.tab, hb.mn, fun m H2 mk s2 => ?_⟩
  walk_at "go"
  refine ⟨m, ls, _, rfl, mk, tl, fun l H3 e3 s3 => ?_⟩
  walk_at "go"
  have lb : (backs ls fun c x => act fn n.reverse (unit x) c).length ≤ 8 := Nat.le_trans (List.length_filter_le _ _) tl
  refine vals_some (ls := backs ls fun c x => act fn n.reverse (unit x) c) (it := fun c => V.str (tx [c])) (f := fun c => V.str (tx [c])) (b := fun c => decide (c ∈ K2)) (walk_listM (f := fun c => V.str (tx [c]))) (fun H' s' => SqL.of (s' _ _ e3)) (by omega) (fun c hc H4 s4 R r => ?_) (fun c hc _ H4 s4 R r => ?_) (fun D2 H4 hD2 s4 e4 => ?_)
  · walk_at "go"
    exact r H4 (Same.refl _)
  · walk_at "go"
    exact r H4 (Same.refl _)
  have e0 : (backs ls fun c x => act fn n.reverse (unit x) c).filter (fun c => decide (c ∈ K2)) = [] := List.filter_eq_nil_iff.mpr fun c hc => by
    unfold backs at hc
    rw [backs_desc fl.ok hb.mn] at hc
    obtain ⟨hc1, z⟩ := List.mem_filter.mp hc
    have z := of_decide_eq_true z
    rw [show nameOf fn n = n from (is_NF fl.ok).mpr hb.nf] at z
    rw [decide_eq_false fun y => hno c ((hK c hc1).mp y) z]
    exact Bool.false_ne_true
  rw [e0] at e4
  walk_at "go"
  intro p H5 hp s5 e5
  have s15 := (((s1.trans s2).trans s3).trans s4).trans s5
  refine v_neNN (s5 _ _ e4) e5 ?_
  walk_at "go"
  refine v_fld (s15 _ _ e1) T.Block.cl T.nBr blockF_r ?_
  walk_at "go"
  refine v_fld (s15 _ _ f1) T.Room.cl T.nNm roomF_n ?_
  have l1 : n.reverse.length + w1.length ≤ 1000000 := by rw [List.length_reverse]; omega
  walk_at "go"
  refine ⟨d, ls, fn, _, K2, rfl, s15 _ _ hd, fl, fun c hc => (List.mem_append.mp hc).elim (fun z => hb.mn c (List.mem_reverse.mp z)) (mw c), by rw [List.length_append, List.length_reverse]; omega, ho, fun H6 s6 => ?_⟩
  exact q H6 (s15.trans s6)
end
end
section
open PySem PySem.Spec L2
theorem Strip.sub {f : Nat → List Nat} {K K' w b l : List Nat} (s : Strip f K w b l) (h : ∀ c, c ∈ K ↔ c ∈ K') : Strip f K' w b l := ⟨fun c hc => (h c).mp (s.sb c hc), s.sl, fun t ht => s.no t ((h t).mpr ht)⟩
def kindsL (ls K' : List Nat) : List Nat := ls.filter fun k => decide (k ∈ K')
theorem kindsL_mem {ls K' : List Nat} (mK : ∀ c ∈ K', c ∈ ls) (c : Nat) : c ∈ K' ↔ c ∈ kindsL ls K' := by
  unfold kindsL
  rw [List.mem_filter, decide_eq_true_iff]
  exact ⟨fun z => ⟨mK c z, z⟩, fun z => z.2⟩
def spHolds (C R B : Addr) : Sp := fun vs H Q _ => ∃ (d x a r : Addr) (ls : List Nat) (fn : Nat → List Nat) (F K' W : List Nat), vs = [.ref d, .ref x, .ref a, .str (tx F), .str (tx K'), .str (tx W)] ∧ H d = some (.dK (tabKV ls fn)) ∧ Fl ls fn ∧ (∀ c ∈ F, c ∈ ls) ∧ (∀ c ∈ W, c ∈ ls) ∧ F.length ≤ 300 ∧ W.length ≤ 300 ∧ (∀ c ∈ K', c ∈ ls) ∧ K'.Nodup ∧ BlkF C R B H a r x ls fn (baseC fn (kindsL ls K') (nameOf fn F)) (kindsL ls K') ∧ ∀ H', Same H H' → Q (.bl true) H'
def spMet (C R B : Addr) : Sp := fun vs H Q _ => ∃ (d a b r r' x y : Addr) (ls : List Nat) (fn : Nat → List Nat) (F S K L : List Nat), vs = [.ref d, .ref a, .ref b, .str (tx F), .str (tx S)] ∧ H d = some (.dK (tabKV ls fn)) ∧ Fl ls fn ∧ (∀ c ∈ F, c ∈ ls) ∧ (∀ c ∈ S, c ∈ ls) ∧ F.length ≤ 300 ∧ S.length ≤ 300 ∧ BlkF C R B H a r x ls fn (baseC fn K (nameOf fn F)) K ∧ BlkF C R B H b r' y ls fn (baseC fn L (nameOf fn S)) L ∧ ∀ H', Same H H' → Q (.bl true) H'
section
variable {P : Program} {w : World} {K : PySem.W.Frag} {mg : Str → Option Value} {base : Heap} {C R O B EL : Addr}
abbrev stholds_right : Stmt := (top 66)
abbrev Nholds_right : List Str := ["_law_table", "_law_floor_here", "_law_told", "_law_first", "_law_mine", "_law_walk_here", "_law_here", "_law_begin_of", "_law_left"]
theorem scholds_right : FnScope Nholds_right ["_law_table", "_law_floor_here", "_law_told", "_law_first", "_law_mine", "_law_walk_here"] (defScope stholds_right) := ⟨rfl, rfl, rfl, by decide +kernel, rfl, by decide +kernel, by decide +kernel⟩

theorem ok_holds_right (F : FnAt K mg "_law_holds_right" stholds_right) (T : Txt23 K mg C R O B EL) (C_Room : CDef P w K mg base CX0 3 "Room" R (spRoom C R)) (D_stripped : Def P w K mg base CX0 4 "_law_stripped" ["_law_table", "_law_walk_here", "_law_kinds_here"] spStripped) (M_Block_in : MDef P w K mg base CX0 7 B "__contains__" ["self", "value"] (spInBlock C R B)) (C_Block : CDef P w K mg base CX0 5 "Block" B (spBlock C R B)) (M_Block_eq : MDef P w K mg base CX0 3 B "__eq__" ["self", "other"] (spBlockEq C R B)) (M_Block_nearest_0_room : MDefN P w K mg base CX0 6 B "nearest" (calmOf (spNearestB C R B O)) 0 ["room"] [.kw 0] []) (D_name : Def P w K mg base CX0 3 "_law_name" ["_law_table", "_law_walk_here"] spName) :
    Def P w K mg base CX0 9 "_law_holds_right" ["_law_table", "_law_floor_here", "_law_told", "_law_first", "_law_mine", "_law_walk_here"] (spHolds C R B) := by
  refine F.ok scholds_right (fun _ _ _ _ _ _ us hl => match us, hl with | [_, _, _, _, _, _], _ => rfl) (fun vs H Q E h => ?_) (fun f cdv A outer s H vs Q E hr h => ?_)
  · obtain ⟨d, x, a, r, ls, fn, F1, K1, W1, rfl, _⟩ := h
    rfl
  obtain ⟨d, x, a, r, ls, fn, F1, K1, W1, rfl, hd, fl, mF, mW, lF, lW, mK, nK, hb, q⟩ := h
  have hu := hu_of hr
  have nd := scholds_right.nd
  replace C_Room := C_Room.mono (show 3 ≤ 7 by decide)
  replace D_stripped := D_stripped.mono (show 4 ≤ 8 by decide)
  replace M_Block_in := M_Block_in.mono (show 7 ≤ 8 by decide)
  replace C_Block := C_Block.mono (show 5 ≤ 7 by decide)
  replace M_Block_eq := M_Block_eq.mono (show 3 ≤ 8 by decide)
  replace M_Block_nearest_0_room := M_Block_nearest_0_room.mono (show 6 ≤ 8 by decide)
  replace D_name := D_name.mono (show 3 ≤ 8 by decide)
  refine ⟨_, (pss_cons (ps_set (i := 6) nd rfl (Or.inl rfl) (pe_mk C_Room hr pass0 (pa_cons (pv 1) (pa_cons (pv 5) pa_nil))))
      (pss_cons (ps_asg (pe_cd D_stripped hr pass0 (pa_cons (pv 0) (pa_cons (pe_op op_addS (pe_revS (pv 3)) (pv 5)) (pa_cons (pv 4) pa_nil)))) (pg_tup rfl (pgs_cons (pg_name (i := 7) nd rfl (Or.inl rfl)) (pgs_cons (pg_name (i := 8) nd rfl (Or.inl rfl)) pgs_nil))))
      (pss_cons (ps_if (PW.pt (pw_or (pt_cmpR op_ne (pe_cmpR (op_inM M_Block_in hr pass0) (pv 6) (pv 2) (by rfl)) (pe_cmpR op_eq (pv 8) (pe_tx [] (by decide +kernel)) (nomark _)) (nomark _)) (pw_or1 (pt_cmpR op_ne (pe_cmpR (op_cmpM (op := .Eq) (fun _ _ => rfl) M_Block_eq hr pass0) (pe_mk C_Block hr pass0 (pa_cons (pv 6) (pa_cons (pv 4) pa_nil))) (pv 2) (nomark _)) (pe_cmpR op_eq (pv 8) (pe_tx [] (by decide +kernel)) (nomark _)) (nomark _)))))
      (pss_one (ps_ret pe_bl))
      pss_nil)
      (pss_one (ps_ret (pe_cmpR op_eq (pe_flK (K := K) rfl (pe_mdN0 M_Block_nearest_0_room T.Block.cl hr pass0 (pv 2) (pk_cons (pv 6) pk_nil)) rfl) (pe_cd D_name hr pass0 (pa_cons (pv 0) (pa_cons (pe_op op_addS (pv 3) (pv 7)) pa_nil))) (nomark _))))))), ?_⟩
  refine s_start [some _, some _, some _, some _, some _, some _, none, none, none] rfl ?_
  have ok := fl.ok
  have km := kindsL_mem mK
  obtain ⟨⟨dx, e1⟩, ro⟩ := hb.blk
  walk_at "go"
  refine sp_room fl hb.pl mW (by omega) fun r1 H1 hr1 s1 ro1 => ?_
  have l1 : F1.reverse.length + W1.length ≤ 1000000 := by rw [List.length_reverse]; omega
  walk_at "go"
  refine ⟨d, ls, fn, _, K1, rfl, s1 _ _ hd, fl, fun c hc => (List.mem_append.mp hc).elim (fun z => mF c (List.mem_reverse.mp z)) (mW c), mK, by rw [List.length_append, List.length_reverse]; omega, fun b l t H2 st lb s2 e2 => ?_⟩
  rw [List.length_append, List.length_reverse] at lb
  have st := st.sub km
  refine v_gTup2 rfl e2 ?_
  have s12 := s1.trans s2
  have hb2 := hb.same s12
  have ro2 := ro1.same s2
  have ln := name_len fn W1
  have mN : ∀ c ∈ nameOf fn W1, c ∈ ls := fun c hc => mW c (name_mem hc)
  obtain ⟨dr1, f1⟩ := ro2.ex
  have eq1 := strip_nil (ls := ls) ok (fun c hc => mK c ((km c).mpr hc)) mF mW st
  walk_at "go"
  refine v_MIn (n := false) (s12 _ _ e1) ⟨a, r, x, r1, x, ls, fn, _, _, nameOf fn W1, true, rfl, hb2, fl, ro2, plans_of25 hb2.pl hb2.pl, fun _ => ⟨hb2.pl, name_NF ok _, mN, by omega⟩, fun H3 s3 => ⟨_, rfl, ?_⟩⟩
  walk_at "go"
  rw [Bool.true_and, Bool.bne_false, dec_tx, decide_eq_decide.mpr eq1]
  refine if_ndec (fun c => (c rfl).elim) (fun _ => ?_)
  walk_at "go"
  have s13 := s12.trans s3
  have ro3 := ro2.same s3
  have hb3 := hb.same s13
  refine sp_block (n := nameOf fn W1) fl ro3 hb3.pl (name_NF ok W1) mN (by omega) mK nK fun a2 r2 H4 ha2 s4 hb4 => ?_
  have hb4 : BlkF C R B H4 a2 r2 x ls fn (baseC fn (kindsL ls K1) (nameOf fn W1)) (kindsL ls K1) := hb4
  have s14 := s13.trans s4
  obtain ⟨⟨dx4, e4⟩, ro4⟩ := hb4.blk
  obtain ⟨⟨dx5, e5⟩, ro5⟩ := (hb.same s14).blk
  have ln4 := hb4.ln
  have ln5 := hb.ln
  walk_at "go"
  refine v_M2 e4 e5 ⟨a2, r2, x, _, _, _, a, r, x, _, _, _, true, rfl, hb4.blk, (hb.same s14).blk, ⟨ro4, ro5, plans_of25 hb4.pl hb4.pl, by omega, by omega⟩, ?_⟩
  walk_at "go"
  rw [Bool.true_and, decide_eq_true (show kindsL ls K1 = kindsL ls K1 from rfl), Bool.and_true, dec_tx, decide_eq_decide.mpr eq1]
  refine if_ndec (fun c => (c rfl).elim) (fun _ => ?_)
  walk_at "go"
  refine e_MN ?_
  walk_at "go"
  refine ⟨a, _, _, rfl, e5, blockF_no (by decide +kernel) (by decide +kernel) (by decide +kernel) (by decide +kernel), ?_⟩
  walk_at "go"
  refine ⟨rfl, rfl, ?_⟩
  have lw : (wayC fn (baseC fn (kindsL ls K1) (nameOf fn F1)) (nameOf fn W1)).length ≤ 600 := by
    have a1 := name_len fn ((baseC fn (kindsL ls K1) (nameOf fn F1)).reverse ++ nameOf fn W1)
    have a2 := name_len fn F1
    obtain ⟨_, _, _, _, a3⟩ := base_spec ok (kindsL ls K1) (nameOf fn F1)
    rw [List.length_append, List.length_reverse] at a1
    show (nameOf fn ((baseC fn (kindsL ls K1) (nameOf fn F1)).reverse ++ nameOf fn W1)).length ≤ 600
    omega
  refine ⟨a, r, x, r1, x, ls, fn, _, _, nameOf fn W1, true, rfl, hb.same s14, fl, ro3.same s4, plans_of25 hb4.pl hb4.pl, fun _ => ⟨mN, by omega, by omega, fun r5 H5 hr5 s5 ro5' => ?_⟩, (fun z => nomatch z)⟩
  rw [near_strip (ls := ls) ok (fun c hc => mK c ((km c).mpr hc)) mF mW st] at ro5'
  obtain ⟨dr5, f5⟩ := ro5'.ex
  walk_at "go"
  refine v_fld f5 T.Room.cl T.nNm roomF_n ?_
  have l2 : F1.length + b.length ≤ 1000000 := by omega
  walk_at "go"
  refine sp_name fl ((s14.trans s5) _ _ hd) (fun c hc => (List.mem_append.mp hc).elim (mF c) fun z => mK c ((km c).mpr (st.sb c z))) (by rw [List.length_append]; omega) fun H6 s6 => ?_
  walk_at "go"
  have fin := q H6 ((s14.trans s5).trans s6)
  rw [dec_tx, decide_eq_true (show nameOf fn (F1 ++ b) = joinC fn [] (F1 ++ b) from rfl)]
  exact fin
abbrev stmet_right : Stmt := (top 67)
abbrev Nmet_right : List Str := ["_law_table", "_law_block", "_law_far_block", "_law_first", "_law_second", "_law_mine", "_law_yours", "_law_begin_of", "_law_left", "_law_both", "_law_told", "_law_is_met", "_law_item"]
theorem scmet_right : FnScope Nmet_right ["_law_table", "_law_block", "_law_far_block", "_law_first", "_law_second"] (defScope stmet_right) := ⟨rfl, rfl, rfl, by decide +kernel, rfl, by decide +kernel, by decide +kernel⟩

theorem ok_met_right (F : FnAt K mg "_law_met_right" stmet_right) (T : Txt23 K mg C R O B EL) (D_stripped : Def P w K mg base CX0 4 "_law_stripped" ["_law_table", "_law_walk_here", "_law_kinds_here"] spStripped) (M_Block_and : MDef P w K mg base CX0 9 B "__and__" ["self", "other"] (calmOf (spBlockAnd C R B O))) (M_Block_le : MDef P w K mg base CX0 9 B "__le__" ["self", "other"] (calmOf (spBlockLe C R B O))) (D_is_block : Def P w K mg base CX0 5 "_law_is_block" ["_law_table", "_law_told", "_law_walk_here", "_law_kinds_here"] (spIsBlock C R B)) :
    Def P w K mg base CX0 10 "_law_met_right" ["_law_table", "_law_block", "_law_far_block", "_law_first", "_law_second"] (spMet C R B) := by
  refine F.ok scmet_right (fun _ _ _ _ _ _ us hl => match us, hl with | [_, _, _, _, _], _ => rfl) (fun vs H Q E h => ?_) (fun f cdv A outer s H vs Q E hr h => ?_)
  · obtain ⟨d, a, b, r, r', x, y, ls, fn, F1, S1, K1, L1, rfl, _⟩ := h
    rfl
  obtain ⟨d, a, b, r, r', x, y, ls, fn, F1, S1, K1, L1, rfl, hd, fl, mF, mS, lF, lS, hb, hb2, q⟩ := h
  have hu := hu_of hr
  have nd := scmet_right.nd
  replace D_stripped := D_stripped.mono (show 4 ≤ 9 by decide)
  replace D_is_block := D_is_block.mono (show 5 ≤ 9 by decide)
  refine ⟨_, (pss_cons (ps_asg (pe_tup (pa_cons (pe_flK (K := K) rfl (pv 1) rfl) (pa_cons (pe_flK (K := K) rfl (pv 2) rfl) pa_nil))) (pg_tup rfl (pgs_cons (pg_name (i := 5) nd rfl (Or.inl rfl)) (pgs_cons (pg_name (i := 6) nd rfl (Or.inr rfl)) pgs_nil))))
      (pss_cons (ps_asg (pe_cd D_stripped hr pass0 (pa_cons (pv 0) (pa_cons (pe_op op_addS (pe_revS (pv 3)) (pv 4)) (pa_cons (pv 5) pa_nil)))) (pg_tup rfl (pgs_cons (pg_name (i := 7) nd rfl (Or.inl rfl)) (pgs_cons (pg_name (i := 8) nd rfl (Or.inl rfl)) pgs_nil))))
      (pss_cons (ps_set (i := 9) nd rfl (Or.inl rfl) (pe_joinK (K := K) rfl (pe_tx [] (by decide +kernel)) (pe_lc (own := [("_law_item", 12)]) (g := gName 12) (by rfl) nd (pi_str (pv 5)) (blkOk_by (own := [("_law_item", 12)]) (N := Nmet_right) (sc := defScope stmet_right) (by decide +kernel)) (fun _ _ _ _ _ => (pg_name (i := 12) nd rfl (Or.inl rfl))) (fun _ _ _ _ _ => (pts_one (pt_cmpR op_inS (pv 12) (pv 6) (by rfl)))) (fun _ _ _ _ _ => (pv 12)))))
      (pss_cons (ps_par (i := 10) (j := 11) (by rfl) nd rfl rfl (by decide) rfl rfl (pa_cons (pe_op (op_andM2 M_Block_and T.Block_sf hr pass0) (pv 1) (pv 2)) (pa_cons (pe_cmpR (op_eqDK (K := K) rfl hr.units) (pe_lc (own := [("_law_item", 12)]) (g := gName 12) (by rfl) nd (pi_str (pv 8)) (blkOk_by (own := [("_law_item", 12)]) (N := Nmet_right) (sc := defScope stmet_right) (by decide +kernel)) (fun _ _ _ _ _ => (pg_name (i := 12) nd rfl (Or.inl rfl))) (fun _ _ _ _ _ => (pts_one (pt_cmpR op_notInS (pv 12) (pv 6) (by rfl)))) (fun _ _ _ _ _ => (pv 12))) (pe_lst pa_nil) (nomark _)) pa_nil)) (by rfl))
      (pss_cons (ps_if (pt_cmpR op_ne (pe_cmpR (op_cmpM (op := .LtE) (fun _ _ => rfl) M_Block_le hr pass0) (pv 1) (pv 2) (nomark _)) (pe_and (pv 11) (pe_one (pe_cmpR op_eq (pv 9) (pv 5) (nomark _)))) (nomark _))
      (pss_one (ps_ret pe_bl))
      pss_nil)
      (pss_one (ps_ret (pe_ifExp (pt_val (pv 11)) (pe_cd D_is_block hr pass0 (pa_cons (pv 0) (pa_cons (pv 10) (pa_cons (pe_op op_addS (pv 3) (pv 7)) (pa_cons (pv 9) pa_nil))))) (pe_cmpR op_isN1 (pv 10) pe_non (nomark _)))))))))), ?_⟩
  refine s_start [some _, some _, some _, some _, some _, none, none, none, none, none, none, none, none] rfl ?_
  have ok := fl.ok
  obtain ⟨⟨dx, e1⟩, ro1⟩ := hb.blk
  obtain ⟨⟨dy, e2⟩, ro2⟩ := hb2.blk
  have lk := hb.lk fl
  have l1 : F1.reverse.length + S1.length ≤ 1000000 := by rw [List.length_reverse]; omega
  walk_at "go"
  refine v_fld e1 T.Block.cl T.nBk blockF_k ?_
  walk_at "go"
  refine v_fld e2 T.Block.cl T.nBk blockF_k ?_
  walk_at "go"
  intro tp H1 htp s1 g1
  refine v_gTup2 rfl g1 ?_
  walk_at "go"
  refine ⟨d, ls, fn, _, K1, rfl, s1 _ _ hd, fl, fun c hc => (List.mem_append.mp hc).elim (fun z => mF c (List.mem_reverse.mp z)) (mS c), hb.mK, by rw [List.length_append, List.length_reverse]; omega, fun b0 l t H2 st lb s2 g2 => ?_⟩
  rw [List.length_append, List.length_reverse] at lb
  refine v_gTup2 rfl g2 ?_
  have s12 := s1.trans s2
  walk_at "go"
  refine v_lcS (l := K1) (b := fun c => decide (c ∈ L1)) (f := fun c => V.str (tx [c])) (by omega) (fun c _ H3 s3 R r => ?_) (fun c _ _ H3 s3 R r => ?_) (fun D H3 hD s3 g3 => ?_)
  · walk_at "go"
    exact r H3 (Same.refl _)
  · walk_at "go"
    exact r H3 (Same.refl _)
  rw [strs_ones] at g3
  have lf : (K1.filter fun c => decide (c ∈ L1)).length ≤ 8 := Nat.le_trans (List.length_filter_le _ _) lk
  walk_at "go"
  refine v_join g3 (by rw [flat_ones]; omega) ?_
  rw [flat_ones]
  have s13 := s12.trans s3
  have hb3 := hb.same s13
  have hb23 := hb2.same s13
  have sal := met_iff (ls := ls) ok hb.mK hb2.mK mF mS st rfl
  obtain ⟨⟨y0, hy0, ay0⟩, miff⟩ := sal
  have lm := base_spec ok K1 (nameOf fn F1)
  have lm2 := base_spec ok L1 (nameOf fn S1)
  obtain ⟨_, _, _, _, lm⟩ := lm
  obtain ⟨_, _, _, _, lm2⟩ := lm2
  have ln1 := name_len fn F1
  have ln2 := name_len fn S1
  walk_at "go"
  have im : ((l.filter fun c => !decide (c ∈ L1)).map fun c => [c]).isEmpty = decide (∀ c ∈ l, c ∈ L1) := by
    rw [List.isEmpty_map, Bool.eq_iff_iff, List.isEmpty_iff, List.filter_eq_nil_iff, decide_eq_true_iff]
    refine forall_congr' fun c => forall_congr' fun _ => ?_
    simp
  have lefact : ((K1.all fun c => decide (c ∈ L1)) && decide (baseC fn L1 (baseC fn K1 (nameOf fn F1)) = baseC fn L1 (nameOf fn S1))) = (decide (∀ c ∈ l, c ∈ L1) && decide ((K1.filter fun c => decide (c ∈ L1)) = K1)) := by
    by_cases hall : ∀ c ∈ K1, c ∈ L1
    · have f1 : (K1.filter fun c => decide (c ∈ L1)) = K1 := List.filter_eq_self.mpr fun c hc => decide_eq_true (hall c hc)
      rw [decide_eq_true f1, Bool.and_true, List.all_eq_true.mpr fun c hc => decide_eq_true (hall c hc), Bool.true_and]
      exact decide_eq_decide.mpr (le_iff (ls := ls) ok hb.mK hb2.mK mF mS st hall)
    · have f1 : ¬ (K1.filter fun c => decide (c ∈ L1)) = K1 := fun z => hall fun c hc => of_decide_eq_true (List.filter_eq_self.mp z c hc)
      have f2 : (K1.all fun c => decide (c ∈ L1)) = false := by
        rw [Bool.eq_false_iff]
        exact fun z => hall fun c hc => of_decide_eq_true (List.all_eq_true.mp z c hc)
      rw [decide_eq_false f1, f2, Bool.and_false, Bool.false_and]
  have small : ∀ l' ∈ (l.filter fun c => !decide (c ∈ L1)).map (fun c => [c]), ∀ c ∈ l', c < 1000 := by
    intro l' hl' c hc
    obtain ⟨y1, hy1, rfl⟩ := List.mem_map.mp hl'
    rw [List.mem_singleton.mp hc]
    have := LET_lt (fl.tab.lt y1 (st.mem hb.mK (fun c hc => (List.mem_append.mp hc).elim (fun z => mF c (List.mem_reverse.mp z)) (mS c)) y1 (List.mem_filter.mp hy1).1))
    omega
  have l2 : F1.length + b0.length ≤ 1000000 := by omega
  refine v_MP (s13 _ _ e1) (s13 _ _ e2) ⟨a, r, x, b, r', y, K1, _, L1, _, _, _, true, rfl, hb3.blk, hb23.blk, plans_of25 hb3.pl hb23.pl, (fun z => nomatch z), fun _ => ⟨ls, fn, _, fl, hb3, hb23, by omega, by omega, rfl, fun ne H4 s4 => ?_, fun e4 a2 r2 H4 ha2 s4 hb4 => ?_⟩⟩
  · have hm : ¬ ∀ c ∈ l, c ∈ L1 := fun z => ne (miff.mpr z)
    rw [decide_eq_false hm] at im lefact
    walk_at "go"
    refine v_lcS (l := l) (b := fun c => !decide (c ∈ L1)) (f := fun c => V.str (tx [c])) (by omega) (fun c _ H5 s5 R r => ?_) (fun c _ _ H5 s5 R r => ?_) (fun D5 H5 hD5 s5 g5 => ?_)
    · walk_at "go"
      exact r H5 (Same.refl _)
    · walk_at "go"
      exact r H5 (Same.refl _)
    walk_at "go"
    intro p H6 hp s6 g6
    refine v_eqNil16 (xs := (l.filter fun c => !decide (c ∈ L1)).map fun c => [c]) (by rw [s6 _ _ g5, List.map_map]; rfl) small g6 ?_
    rw [im]
    have s36 := (s4.trans s5).trans s6
    have hb6 := hb3.same s36
    have hb26 := hb23.same s36
    walk_at "go"
    refine v_M2 ((s13.trans s36) _ _ e1) ((s13.trans s36) _ _ e2) ⟨a, r, x, b, r', y, K1, _, L1, _, _, _, true, rfl, hb6.blk, hb26.blk, plans_of25 hb6.pl hb26.pl, (fun z => nomatch z), fun _ => ⟨ls, fn, fl, hb6, hb26, fun H7 s7 => ?_⟩⟩
    rw [lefact]
    walk_at "go"
    refine if_ndec (fun c => (c (by rw [Bool.false_and])).elim) (fun _ => ?_)
    walk_at "go"
    refine ⟨rfl, ?_⟩
    rw [decide_eq_true rfl]
    exact q H7 ((s13.trans s36).trans s7)
  · have hm := miff.mp e4
    rw [decide_eq_true hm] at im lefact
    walk_at "go"
    refine v_lcS (l := l) (b := fun c => !decide (c ∈ L1)) (f := fun c => V.str (tx [c])) (by omega) (fun c _ H5 s5 R r => ?_) (fun c _ _ H5 s5 R r => ?_) (fun D5 H5 hD5 s5 g5 => ?_)
    · walk_at "go"
      exact r H5 (Same.refl _)
    · walk_at "go"
      exact r H5 (Same.refl _)
    walk_at "go"
    intro p H6 hp s6 g6
    refine v_eqNil16 (xs := (l.filter fun c => !decide (c ∈ L1)).map fun c => [c]) (by rw [s6 _ _ g5, List.map_map]; rfl) small g6 ?_
    rw [im]
    have s36 := (s4.trans s5).trans s6
    have hb6 := hb3.same s36
    have hb26 := hb23.same s36
    walk_at "go"
    refine v_M2 ((s13.trans s36) _ _ e1) ((s13.trans s36) _ _ e2) ⟨a, r, x, b, r', y, K1, _, L1, _, _, _, true, rfl, hb6.blk, hb26.blk, plans_of25 hb6.pl hb26.pl, (fun z => nomatch z), fun _ => ⟨ls, fn, fl, hb6, hb26, fun H7 s7 => ?_⟩⟩
    rw [lefact]
    walk_at "go"
    rw [dec_tx]
    refine if_ndec (fun c => (c (by rw [Bool.true_and])).elim) (fun _ => ?_)
    walk_at "go"
    have s07 := (s13.trans s36).trans s7
    obtain ⟨e0, he0, ae0⟩ := (in_iff (ls := ls) ok hb.mK mF (name_NF ok _) (fun c hc => (List.mem_append.mp (name_mem hc)).elim (fun z => base_in (K := L1) mS c z) fun z => hb2.mK c (splitA_in _ _ _ c z))).mp e4
    have bm : ∀ c, c ∈ bothK ls K1 L1 ↔ c ∈ K1 ∧ c ∈ L1 := fun c => by
      unfold bothK
      rw [List.mem_filter, decide_eq_true_iff, List.mem_filter, decide_eq_true_iff]
      exact ⟨fun z => z.2, fun z => ⟨hb.mK c z.1, z⟩⟩
    have bm2 : ∀ c, c ∈ K1.filter (fun c => decide (c ∈ L1)) ↔ c ∈ bothK ls K1 L1 := fun c => by
      rw [bm, List.mem_filter, decide_eq_true_iff]
    refine ⟨d, a2, r2, y, ls, fn, _, _, F1 ++ b0, _, rfl, s07 _ _ hd, fl, (((hb4.same s5).same s6).same s7), fun c hc => (List.mem_append.mp hc).elim (mF c) fun z => hb.mK c (st.sb c z), by rw [List.length_append]; omega, fun c _ => bm2 c, fun c hc => (bm2 c).mpr (met_only ok st hm bm he0 ae0 hy0 ay0 c hc), base_free ok _ _, fun H8 s8 => ?_⟩
    exact q H8 (s07.trans s8)
end
end
section
open PySem PySem.Spec L2
theorem RoomAt.ext {R : Addr} {H H' : Hp} {r x : Addr} {name : List Nat} (h : RoomAt R H r x name) (e : LamX.ExtN H H') : RoomAt R H' r x name := by
  obtain ⟨dx, a⟩ := h.ex
  exact ⟨dx, e _ _ a fun ps z => nomatch z⟩
theorem PlanAt.ext {C : Addr} {H H' : Hp} {x : Addr} {ks : List Nat} {ps : List (List Nat)} (h : PlanAt C H x ks ps) (e : LamX.ExtN H H') : PlanAt C H' x ks ps := by
  obtain ⟨dx, t, d, a, b, c⟩ := h.ex
  exact ⟨dx, t, d, e _ _ a (fun ps z => nomatch z), e _ _ b (fun ps z => nomatch z), e _ _ c (fun ps z => nomatch z)⟩
theorem PenAt.ext {g : Pen} {H H' : Hp} {n : Nat} (h : PenAt g H n) (e : LamX.ExtN H H') : PenAt g H' n := by
  obtain ⟨a, r, h1, h2, h3, h4, h5, h6⟩ := h.ex
  exact ⟨a, r, e _ _ h1 (fun ps z => nomatch z), e _ _ h2 (fun ps z => nomatch z), h3, h4, h5, h6⟩
theorem BlkF.ext {C R B : Addr} {H H' : Hp} {a r x : Addr} {ls : List Nat} {fn : Nat → List Nat} {n K : List Nat} (h : BlkF C R B H a r x ls fn n K) (s : LamX.ExtN H H') : BlkF C R B H' a r x ls fn n K := by
  obtain ⟨⟨⟨dx, e⟩, ro⟩, pl, h1, h2, h3, h4, h5⟩ := h
  exact ⟨⟨⟨dx, s _ _ e fun ps z => nomatch z⟩, ro.ext s⟩, pl.ext s, h1, h2, h3, h4, h5⟩
theorem pe_clearK {X : Cx} {K : PySem.W.Frag} {o : Expr} {to : TE} {apos cpos : PySem.Pos} (h : X.K = K) (ho : PE X o to) (hbase : attributeBase o "clear" X.env (eval o X.env) = eval o X.env := by rfl) (hline : (apos.endLine == cpos.line) = true := by rfl) :
    PE X (.Call (.Attribute o "clear" apos) [] [] cpos) (tBM0 K "list" rClear to) := h ▸ pe_bm0 PySem.F.plainAttrs_list PySem.F.slot_list_clear PySem.F.type_list_clear mt_clear ho hbase hline
theorem c_setOfSP {X : Cx} {K : PySem.W.Frag} {P : Program} {w : World} (hK : X.K = K) (hP : X.prog = P) (hw : X.w = w) (hc : X.calm = true) : CallR X (.type "set") (rSetOfS K P w) := hP ▸ hw ▸ c_setOfS hK hc
theorem c_sortedWP {X : Cx} {P : Program} {w : World} (hP : X.prog = P) (hw : X.w = w) (hc : X.calm = true) : CallR X (.builtin "sorted") (rSortedW P w) := hP ▸ hw ▸ c_sortedW hc
theorem v_neStrL {K : PySem.W.Frag} {H : Hp} {Q : VK} {p q : Addr} {a : List (List Nat)} (h1 : H p = some (.lst (a.map fun l => V.str (tx l)))) (h2 : H q = some (.lst (a.map fun l => V.str (tx l)))) (ha : ∀ l ∈ a, ∀ c ∈ l, c < 1000) (k : Q (.bl false) H) : rNeD K (.ref p) (.ref q) H Q := by
  have h1' : H p = some (.lst ((a.map tx).map V.str)) := by
    rw [h1, List.map_map]
    rfl
  have h2' : H q = some (.lst ((a.map tx).map V.str)) := by
    rw [h2, List.map_map]
    rfl
  refine ⟨.list ((a.map tx).map PyData.str), .list ((a.map tx).map PyData.str), .lst (SqL.of h1') (dp_strs _), .lst (SqL.of h2') (dp_strs _), shaped_strs _ (ok_strs ha), shaped_strs _ (ok_strs ha), ?_⟩
  have e : PyData.eqv (.list ((a.map tx).map PyData.str)) (.list ((a.map tx).map PyData.str)) = true := by
    show PyData.eqvAll _ _ = true
    rw [eqvAll_strs]
    exact decide_eq_true rfl
  rw [e]
  exact k
theorem v_neNilO {K : PySem.W.Frag} {H : Hp} {Q : VK} {p q : Addr} {l : List Nat} (h : H p = some (.lst (l.map fun c => V.str (tx [c])))) (hl : ∀ c ∈ l, c < 1000) (hq : H q = some (.lst [])) (k : Q (.bl (!l.isEmpty)) H) : rNeD K (.ref p) (.ref q) H Q := by
  have h' : H p = some (.lst ((l.map fun c => tx [c]).map V.str)) := by
    rw [h, List.map_map]
    rfl
  refine v_neNilS h' (fun x hx => ?_) hq (by rw [List.isEmpty_map]; exact k)
  obtain ⟨y, hy, rfl⟩ := List.mem_map.mp hx
  refine ok_tx fun c hc => ?_
  rw [List.mem_singleton.mp hc]
  exact hl y hy
theorem dec_one {p c : Nat} : decide (V.str (tx [p]) = V.str (tx [c])) = decide (p = c) := by
  rw [dec_tx, decide_eq_decide]
  exact ⟨fun z => by injection z, fun z => by rw [z]⟩
theorem paired_get23 {α β : Type} {r : α → β → Prop} {da : α} {db : β} : ∀ {as : List α} {bs : List β}, Paired r as bs → ∀ k, k < as.length → r (as.getD k da) (bs.getD k db)
  | _, _, .nil, k, h => by simp at h
  | _, _, .cons h t, 0, _ => h
  | _, _, .cons h t, k + 1, hk => paired_get23 t k (by simpa using hk)
theorem walk_refs23 {K : PySem.W.Frag} {p : Addr} {ps : List Addr} : Walk (Itl K p) ps.length (fun H => SqL K H p (ps.map V.ref)) (fun k H x H' => H' = H ∧ x = V.ref (ps.getD k 0)) := by
  have w := walk_list (K := K) (a := p) (xs := ps.map V.ref)
  rw [List.length_map] at w
  refine w.mono (fun _ z => z) fun k H x H' hk _ y => ?_
  obtain ⟨h1, h2⟩ := y
  refine ⟨h1, ?_⟩
  rw [List.getElem?_map, List.getElem?_eq_getElem hk] at h2
  rw [List.getD_eq_getElem?_getD, List.getElem?_eq_getElem hk]
  exact (Option.some.inj h2).symm
theorem len_same23 {as bs : List Nat} (h1 : as.Nodup) (h2 : bs.Nodup) (h : ∀ c, c ∈ as ↔ c ∈ bs) : as.length = bs.length := ((List.perm_ext_iff_of_nodup h1 h2).mpr h).length_eq
def looseL (fn : Nat → List Nat) (K' : List Nat) : List Nat := K'.filter fun c => !(K'.filter fun p => !decide (p = c) && !decide (p ∈ fn c)).isEmpty
theorem loose_nil {fn : Nat → List Nat} {K' : List Nat} : looseL fn K' = [] ↔ Cliq fn K' := by
  unfold looseL
  rw [List.filter_eq_nil_iff]
  constructor
  · intro h a ha b hb ne
    have z := h b hb
    rw [Bool.not_eq_true', ← Bool.not_eq_true, Classical.not_not, List.isEmpty_iff, List.filter_eq_nil_iff] at z
    have z2 := z a ha
    by_cases e : a ∈ fn b
    · exact e
    · exact absurd (by rw [decide_eq_false ne, decide_eq_false e]; rfl) z2
  · intro h c hc
    rw [Bool.not_eq_true', ← Bool.not_eq_true, Classical.not_not, List.isEmpty_iff, List.filter_eq_nil_iff]
    intro p hp z
    rw [Bool.and_eq_true, Bool.not_eq_true', Bool.not_eq_true', decide_eq_false_iff_not, decide_eq_false_iff_not] at z
    exact z.2 (h p hp c hc z.1)
def spListedR (C R B : Addr) (Ts : List (Addr × Str)) : Sp := fun vs H Q _ => ∃ (d a r x : Addr) (ls : List Nat) (fn : Nat → List Nat) (F K' : List Nat), vs = [.ref d, .ref a, .str (tx F), .str (tx K')] ∧ LamX.Tabs Ts H ∧ H d = some (.dK (tabKV ls fn)) ∧ Fl ls fn ∧ (∀ c ∈ F, c ∈ ls) ∧ F.length ≤ 300 ∧ (∀ c ∈ K', c ∈ ls) ∧ K'.Nodup ∧ BlkF C R B H a r x ls fn (baseC fn (kindsL ls K') (nameOf fn F)) (kindsL ls K') ∧
  ∀ H', LamX.ExtN H H' → LamX.Tabs Ts H' → Q (.bl true) H'
section
variable {P : Program} {w : World} {K : PySem.W.Frag} {mg : Str → Option Value} {base : Heap} {C R O B EL IK SK G : Addr} {st2 st3 : Stmt} {Ts : List (Addr × Str)} {c Pt : Addr}
abbrev stlisted_right : Stmt := (top 65)
abbrev Nlisted_right : List Str := ["_law_table", "_law_told", "_law_first", "_law_mine", "_law_loose", "_law_names", "_law_odd", "_law_item", "_law_peer", "_law_room_here", "_law_name_here"]
theorem sclisted_right : FnScope Nlisted_right ["_law_table", "_law_told", "_law_first", "_law_mine"] (defScope stlisted_right) := ⟨rfl, rfl, rfl, by decide +kernel, rfl, by decide +kernel, by decide +kernel⟩

theorem ok_listed_right23 (F : FnAtC K mg "_law_listed_right" stlisted_right c) (F_refused : FnAt K mg "_law_refused" strefused) (T : TxtK23 P K mg C R O B EL IK SK G st2 st3) (TB : LamX.TabB base mg c Pt) (hmT : (Pt, ("_law_listed_right" : Str) ++ ".<locals>." ++ "<lambda>") ∈ Ts) (huT : ∀ p ∈ Ts, p.1 = Pt → p.2 = ("_law_listed_right" : Str) ++ ".<locals>." ++ "<lambda>")
    (M_Block_listed : MDef P w K mg base CX0 6 B "listed" ["self"] (spListed C R B)) (M_Block_listedE : MDef P w K mg base (L2.CX P w) 6 B "listed" ["self"] (spListedE C R B EL)) (D_only : Def P w K mg base CX0 4 "_law_only" ["_law_table", "_law_walk_here", "_law_kinds_here"] spOnly) :
    Def P w K mg base CX0 9 "_law_listed_right" ["_law_table", "_law_told", "_law_first", "_law_mine"] (spListedR C R B Ts) := by
  refine F.ok sclisted_right (fun _ _ _ _ _ _ us hl => match us, hl with | [_, _, _, _], _ => rfl) (fun vs H Q E h => ?_) (fun f A outer s H vs Q E hr h => ?_)
  · obtain ⟨d, a, r, x, ls, fn, F1, K1, rfl, _⟩ := h
    rfl
  obtain ⟨d, a, r, x, ls, fn, F1, K1, rfl, t0, hd, fl, mF, lF, mK, nK, hb, q⟩ := h
  have hu := hu_of hr
  have nd := sclisted_right.nd
  have tl := fl.tab.len
  have ok := fl.ok
  have kl : K1.length ≤ 8 := Nat.le_trans (List.Nodup.length_le_of_subset nK fun k hk => mK k hk) tl
  replace M_Block_listed := M_Block_listed.mono (show 6 ≤ 8 by decide)
  replace D_only := D_only.mono (show 4 ≤ 8 by decide)
  refine ⟨_, (pss_cons (ps_setLc (i := 4) (own := [("_law_item", 7)]) (g := gName 7) (by rfl) nd rfl rfl (sw_true rfl rfl rfl (by decide +kernel)) (pi_str (pv 3)) (blkOk_by (own := [("_law_item", 7)]) (N := Nlisted_right) (sc := defScope stlisted_right) (by decide +kernel)) (fun _ _ _ _ _ => (pg_name (i := 7) nd rfl (Or.inr rfl))) (fun _ _ _ _ _ => (pts_one (pt_cmpR (op_neDK (K := K) rfl hr.units) (pe_lc (own := [("_law_peer", 8)]) (g := gName 8) (by rfl) nd (pi_str (pv 3)) (blkOk_by (own := [("_law_peer", 8)]) (N := Nlisted_right) (sc := { kind := .function, names := [(".0", .local), ("_law_item", .cell), ("_law_mine", .cell), ("_law_table", .cell)], isGenerator := false, isCoroutine := false }) (by decide +kernel)) (fun _ _ _ _ _ => (pg_name (i := 8) nd rfl (Or.inl rfl))) (fun _ _ _ _ _ => (pts_one (PW.pt (pw_and (pt_cmpR op_ne (pv 8) (pv 7) (nomark _)) (pw_and1 (pt_cmpR op_notInS (pv 8) (pe_dget hu (pv 0) (pv 7) (fun _ _ => rfl)) (by rfl))))))) (fun _ _ _ _ _ => (pv 8))) (pe_lst pa_nil) (nomark _)))) (fun _ _ _ _ _ => (pv 7)))
      (pss_cons (ps_if (pt_cmpR (op_neDK (K := K) rfl hr.units) (pv 4) (pe_lst pa_nil) (nomark _))
      (pss_one (ps_ret (pe_and (pe_cmpR op_isN1 (pe_flK (K := K) rfl (pv 1) rfl) pe_non (nomark _)) (pe_one (pe_cmpR (op_eqS hu) (pe_refused F_refused T TB hmT huT hr (LamX.lamS_by (show LamX.lamSB (defScope stlisted_right) _ = true by decide +kernel)) (fun A outer s H E f c hr => (pe_md0 M_Block_listedE T.Block.cl hr (passes_call (takes_of rfl rfl rfl rfl) (fun _ _ _ _ h => h)) (pv 1)))) (pe_tup (pa_cons (pe_tx [101, 110, 100, 108, 101, 115, 115] (by decide +kernel)) (pa_cons pe_bl pa_nil))) (nomark _))))))
      pss_nil)
      (pss_cons (ps_setLc (i := 5) (own := [("_law_room_here", 9)]) (g := gName 9) (by rfl) nd rfl rfl (sw_true rfl rfl rfl (by decide +kernel)) (pi_listK (K := K) rfl (pe_md0 M_Block_listed T.Block.cl hr pass0 (pv 1))) (blkOk_by (own := [("_law_room_here", 9)]) (N := Nlisted_right) (sc := defScope stlisted_right) (by decide +kernel)) (fun _ _ _ _ _ => (pg_name (i := 9) nd rfl (Or.inl rfl))) (fun _ _ _ _ _ => pts_nil) (fun _ _ _ _ _ => (pe_flK (K := K) rfl (pv 9) rfl)))
      (pss_cons (ps_if (PW.pt (pw_or (pt_cmpR (op_neDK (K := K) rfl hr.units) (pv 5) (pe_sortL (K := K) rfl (by rfl) T.sorted (by rfl) T.len (pa_cons (pe_callB (c_sortedWP (P := P) (w := w) rfl rfl rfl) (by rfl) T.sorted (by decide +kernel) (pa_cons (pe_callTy (c_setOfSP (K := K) (P := P) (w := w) rfl rfl rfl rfl) (by rfl) T.set (by decide +kernel) (pa_cons (pe_lc (own := [("_law_name_here", 10)]) (g := gName 10) (by rfl) nd (pi_listK (K := K) rfl (pv 5)) (blkOk_by (own := [("_law_name_here", 10)]) (N := Nlisted_right) (sc := defScope stlisted_right) (by decide +kernel)) (fun _ _ _ _ _ => (pg_name (i := 10) nd rfl (Or.inl rfl))) (fun _ _ _ _ _ => pts_nil) (fun _ _ _ _ _ => (pe_callTy c_strS (by rfl) T.str (by decide +kernel) (pa_cons (pv 10) pa_nil)))) pa_nil)) pa_nil)) pa_nil)) (nomark _)) (pw_or1 (pt_cmpR op_ne (pe_callB (c_lenK (K := K) rfl) (by rfl) T.len PySem.boot_len (pa_cons (pv 5) pa_nil)) (pe_flK (K := K) rfl (pv 1) rfl) (nomark _)))))
      (pss_one (ps_ret pe_bl))
      pss_nil)
      (pss_cons (ps_setLc (i := 6) (own := [("_law_name_here", 10)]) (g := gName 10) (by rfl) nd rfl rfl (sw_true rfl rfl rfl (by decide +kernel)) (pi_listK (K := K) rfl (pv 5)) (blkOk_by (own := [("_law_name_here", 10)]) (N := Nlisted_right) (sc := defScope stlisted_right) (by decide +kernel)) (fun _ _ _ _ _ => (pg_name (i := 10) nd rfl (Or.inl rfl))) (fun _ _ _ _ _ => (pts_one (pt_not (pt_val (pe_cd D_only hr pass0 (pa_cons (pv 0) (pa_cons (pe_op op_addS (pe_revS (pv 2)) (pv 10)) (pa_cons (pv 3) pa_nil)))))))) (fun _ _ _ _ _ => (pv 10)))
      (pss_cons (ps_expr (pe_clearK (K := K) rfl (pe_md0 M_Block_listed T.Block.cl hr pass0 (pv 1))))
      (pss_cons (ps_if (pt_cmpR (op_neDK (K := K) rfl hr.units) (pe_lc (own := [("_law_room_here", 9)]) (g := gName 9) (by rfl) nd (pi_listK (K := K) rfl (pe_md0 M_Block_listed T.Block.cl hr pass0 (pv 1))) (blkOk_by (own := [("_law_room_here", 9)]) (N := Nlisted_right) (sc := defScope stlisted_right) (by decide +kernel)) (fun _ _ _ _ _ => (pg_name (i := 9) nd rfl (Or.inl rfl))) (fun _ _ _ _ _ => pts_nil) (fun _ _ _ _ _ => (pe_flK (K := K) rfl (pv 9) rfl))) (pv 5) (nomark _))
      (pss_one (ps_ret pe_bl))
      pss_nil)
      (pss_one (ps_ret (pe_and (pe_cmpR op_eq (pe_flK (K := K) rfl (pv 1) rfl) (pe_op op_shl pe_int (pe_callB c_lenS (by rfl) T.len PySem.boot_len (pa_cons (pv 3) pa_nil))) (nomark _)) (pe_one (pe_cmpR (op_eqDK (K := K) rfl hr.units) (pv 6) (pe_lst pa_nil) (nomark _))))))))))))), ?_⟩
  refine s_start [some _, some _, some _, some _, none, none, none, none, none, none, none] rfl ?_
  obtain ⟨⟨dx, e1⟩, ro⟩ := hb.blk
  walk_at "go"
  refine v_lcS (l := K1) (b := fun c => !(K1.filter fun p => !decide (p = c) && !decide (p ∈ fn c)).isEmpty) (f := fun c => V.str (tx [c])) (by omega) (fun c hc H1 s1 R r => ?_) (fun c _ _ H1 s1 R r => ?_) (fun D H1 hD s1 g1 => ?_)
  · walk_at "go"
    refine v_lcS (l := K1) (b := fun p => !decide (p = c) && !decide (p ∈ fn c)) (f := fun p => V.str (tx [p])) (by omega) (fun p hp H2 s2 R' r' => ?_) (fun p _ _ H2 s2 R' r' => ?_) (fun D2 H2 hD2 s2 g2 => ?_)
    · walk_at "go"
      rw [dec_one]
      by_cases e : p = c
      · rw [decide_eq_true e]
        refine iteF ?_
        have z := r' H2 (Same.refl _)
        rw [decide_eq_true e] at z
        exact z
      · rw [decide_eq_false e]
        refine iteT ?_
        walk_at "go"
        refine v_dget (dget_let (g := fun k => V.str (tx (fn k))) (s2 _ _ (s1 _ _ hd)) (mK c hc)) ?_
        walk_at "go"
        have z := r' H2 (Same.refl _)
        rw [decide_eq_false e] at z
        exact z
    · walk_at "go"
      exact r' H2 (Same.refl _)
    walk_at "go"
    intro p3 H3 hp3 s3 g3
    refine v_neNilO (s3 _ _ g2) (fun y hy => ?_) g3 ⟨_, rfl, r H3 (s2.trans s3)⟩
    have := LET_lt (fl.tab.lt y (mK y (List.mem_filter.mp hy).1))
    omega
  · walk_at "go"
    exact r H1 (Same.refl _)
  have g1 : H1 D = some (.lst ((looseL fn K1).map fun c => V.str (tx [c]))) := g1
  have km := kindsL_mem mK
  walk_at "go"
  intro p2 H2 hp2 s2 g2
  have s12 := s1.trans s2
  refine v_neNilO (s2 _ _ g1) (fun y hy => ?_) g2 ⟨_, rfl, ?_⟩
  · have := LET_lt (fl.tab.lt y (mK y (List.mem_filter.mp hy).1))
    omega
  by_cases cl : Cliq fn K1
  · rw [loose_nil.mpr cl]
    refine iteF ?_
    have cl2 : Cliq fn (kindsL ls K1) := fun a ha b hb => cl a ((km a).mpr ha) b ((km b).mpr hb)
    have nl : ∀ {x r : Addr} {kinds : List Nat} {v : V}, (blockF x kinds r v).lookup ("listed" : Str) = none := fun {_ _ _ _} => blockF_no (by decide +kernel) (by decide +kernel) (by decide +kernel) (by decide +kernel)
    have nKK := hb.nd fl
    have lKK := hb.lk fl
    have many := many25 fl hb.mK cl2
    have nnd := names_nodup (ls := ls) ok cl2 nKK hb.mK (baseC fn (kindsL ls K1) (nameOf fn F1))
    have nlen := names_len25 fn (baseC fn (kindsL ls K1) (nameOf fn F1)) (kindsL ls K1)
    have nmem := names_mem25 (fn := fn) hb.mn hb.mK
    have p2k : (2 : Nat) ^ (kindsL ls K1).length ≤ 2 ^ 8 := Nat.pow_le_pow_right (by decide) lKK
    have bl1 := base_spec ok (kindsL ls K1) (nameOf fn F1)
    obtain ⟨_, _, _, _, bl1⟩ := bl1
    have bl2 := name_len fn F1
    rw [many] at e1
    walk_at "go"
    refine ⟨a, _, _, rfl, s12 _ _ e1, nl, ?_⟩
    walk_at "go"
    refine ⟨a, r, x, ls, fn, _, _, rfl, hb.same s12, fl, cl2, fun l3 ns ps H3 hl3 s3 pm pw g3 pr => ?_⟩
    have s13 := s12.trans s3
    have hns : ∀ m ∈ ns, (∀ y ∈ m, y ∈ ls) ∧ m.length ≤ 400 := fun m hm => by
      obtain ⟨q1, q2⟩ := nmem m (pm.mem_iff.mp hm)
      exact ⟨q1, by omega⟩
    have hsm : ∀ m ∈ ns, ∀ c ∈ m, c < 1000 := fun m hm c hc => by
      have := LET_lt (fl.tab.lt c ((hns m hm).1 c hc))
      omega
    have nsl : ns.length = 2 ^ (kindsL ls K1).length := by rw [pm.length_eq]; exact nlen
    have nsn : ns.Nodup := pm.nodup_iff.mpr nnd
    have plen := paired_len pr
    walk_at "go"
    refine lc_gen (n := ps.length) (it := fun k => V.ref (ps.getD k 0)) (b := fun _ => true) (f := fun k => V.str (tx (ns.getD k []))) walk_refs23 (fun H' s' => SqL.of (s' _ _ g3)) (by omega) (fun k hk H4 s4 R r => r H4 (Same.refl _)) (fun k hk _ H4 s4 R r => ?_) (fun D4 H4 hD4 s4 g4 => ?_)
    · obtain ⟨dr, er⟩ := ((paired_get23 (da := 0) (db := []) pr k hk).same s4).ex
      walk_at "go"
      refine v_fld er T.Room.cl T.nNm roomF_n ?_
      exact r H4 (Same.refl _)
    have g4 : H4 D4 = some (.lst (ns.map fun l => V.str (tx l))) := by
      rw [g4, plen]
      exact congrArg (fun z => some (HO.lst z)) (by rw [range_txs])
    have s14 := s13.trans s4
    walk_at "go"
    refine e_sortL ?_
    walk_at "go"
    refine lc_gen (n := ns.length) (it := fun k => V.str (tx (ns.getD k []))) (b := fun _ => true) (f := fun k => V.str (tx (ns.getD k []))) walk_txs (fun H' s' => SqL.of (s' _ _ g4)) (by omega) (fun k hk H5 s5 R r => r H5 (Same.refl _)) (fun k hk _ H5 s5 R r => ?_) (fun D5 H5 hD5 s5 g5 => ?_)
    · walk_at "go"
      refine v_strS ?_
      exact r H5 (Same.refl _)
    rw [range_txs] at g5
    walk_at "go"
    refine ⟨D5, ns, ns, rfl, SqL.of g5, fun _ z => z, by omega, fun p6 ms hp6 nd6 mem6 => ?_⟩
    walk_at "go"
    refine ⟨p6, ms, rfl, upd_same, fun p7 ls7 pm7 pw7 hp7 => ?_⟩
    walk_at "go"
    refine ⟨p7, ls7, rfl, SqL.of upd_same, fun l hl => by have := (hns l ((mem6 l).mp (pm7.mem_iff.mp hl))).2; omega, fun ns8 p8 a1 a2 a3 hp8 => ?_⟩
    obtain ⟨r1, r2⟩ := sorted_twice pm7 pw7 a1 a2 a3
    have e8 : ns8 = ns := short_uniq (r1.trans ((List.perm_ext_iff_of_nodup nd6 nsn).mpr mem6)) r2 pw
    subst e8
    have s58 : Same H5 (upd (upd (upd H5 p6 (SetW P w p6 (ms.map tx))) p7 (.lst (ls7.map fun l => V.str (tx l)))) p8 (.lst (ns8.map fun l => V.str (tx l)))) := ((Same.new hp6).trans (Same.new hp7)).trans (Same.new hp8)
    have g8 : upd (upd (upd H5 p6 (SetW P w p6 (ms.map tx))) p7 (.lst (ls7.map fun l => V.str (tx l)))) p8 (.lst (ns8.map fun l => V.str (tx l))) p8 = some (.lst (ns8.map fun l => V.str (tx l))) := upd_same
    generalize upd (upd (upd H5 p6 (SetW P w p6 (ms.map tx))) p7 (.lst (ls7.map fun l => V.str (tx l)))) p8 (.lst (ns8.map fun l => V.str (tx l))) = H8 at s58 g8 ⊢
    have s48 := s5.trans s58
    have s18 := s14.trans s48
    have g48 := s48 _ _ g4
    refine v_neStrL g48 g8 hsm ⟨_, rfl, ?_⟩
    walk_at "go"
    refine v_fld (s18 _ _ e1) T.Block.cl T.nBm blockF_m ?_
    walk_at "go"
    have pw2 : (((2 : Nat) ^ (kindsL ls K1).length : Nat) : Int) = 2 ^ (kindsL ls K1).length := by
      generalize (kindsL ls K1).length = n
      induction n with
      | zero => rfl
      | succ n ih => rw [Nat.pow_succ, Int.pow_succ, ← ih]; rfl
    refine if_ndec (fun c => (c (by rw [List.length_map, nsl, pw2])).elim) (fun _ => ?_)
    walk_at "go"
    refine lc_gen (n := ns8.length) (it := fun k => V.str (tx (ns8.getD k []))) (b := fun _ => false) (f := fun k => V.str (tx (ns8.getD k []))) walk_txs (fun H' s' => SqL.of (s' _ _ g48)) (by omega) (fun k hk H9 s9 R r => ?_) (fun k hk z => (nomatch z)) (fun D9 H9 hD9 s9 g9 => ?_)
    · have hm := getD_memL25 hk
      obtain ⟨S, hS, eS⟩ := List.mem_map.mp (pm.mem_iff.mp hm)
      have lw : F1.reverse.length + (ns8.getD k []).length ≤ 1000000 := by
        have := (hns _ hm).2
        rw [List.length_reverse]
        omega
      walk_at "go"
      refine ⟨d, ls, fn, _, K1, rfl, s9 _ _ (s18 _ _ hd), fl, fun c hc => (List.mem_append.mp hc).elim (fun z => mF c (List.mem_reverse.mp z)) ((hns _ hm).1 c), by rw [List.length_append, List.length_reverse]; have := (hns _ hm).2; omega, fun c hc => ?_, fun H10 s10 => ?_⟩
      · rw [← eS] at hc
        exact (km c).mpr (listed_only ok (kindsL ls K1) F1 (fun y hy => subs_mem _ S hS y hy) c hc)
      · walk_at "go"
        exact r H10 s10
    have g9' : H9 D9 = some (.lst []) := by
      rw [g9, List.filter_eq_nil_iff.mpr fun _ _ => Bool.false_ne_true]
      rfl
    have s19 := s18.trans s9
    have g49 := s9 _ _ g48
    walk_at "go"
    refine ⟨a, _, _, rfl, s19 _ _ e1, nl, ?_⟩
    walk_at "go"
    refine ⟨a, r, x, ls, fn, _, _, rfl, hb.same s19, fl, cl2, fun l10 ns10 ps10 H10 hl10 s10 pm10 pw10 g10 pr10 => ?_⟩
    walk_at "go"
    have n10 : ∀ {b : Addr} {o : HO}, H9 b = some o → b ≠ l10 := fun h => ne_of_none h hl10
    refine ⟨l10, _, rfl, rfl, g10, ?_⟩
    have s11 : Same H9 (upd H10 l10 (.lst [])) := fun b o h => by
      rw [upd_ne (n10 h)]
      exact s10 _ _ h
    generalize upd H10 l10 (.lst []) = H11 at s11 ⊢
    have s111 := s19.trans s11
    walk_at "go"
    refine ⟨a, _, _, rfl, s111 _ _ e1, nl, ?_⟩
    walk_at "go"
    refine ⟨a, r, x, ls, fn, _, _, rfl, hb.same s111, fl, cl2, fun l12 ns12 ps12 H12 hl12 s12' pm12 pw12 g12 pr12 => ?_⟩
    have e12 : ns12 = ns8 := short_uniq (pm12.trans pm.symm) pw12 pw
    subst e12
    have plen12 := paired_len pr12
    walk_at "go"
    refine lc_gen (n := ps12.length) (it := fun k => V.ref (ps12.getD k 0)) (b := fun _ => true) (f := fun k => V.str (tx (ns12.getD k []))) walk_refs23 (fun H' s' => SqL.of (s' _ _ g12)) (by omega) (fun k hk H13 s13 R r => r H13 (Same.refl _)) (fun k hk _ H13 s13 R r => ?_) (fun D13 H13 hD13 s13 g13 => ?_)
    · obtain ⟨dr, er⟩ := ((paired_get23 (da := 0) (db := []) pr12 k hk).same s13).ex
      walk_at "go"
      refine v_fld er T.Room.cl T.nNm roomF_n ?_
      exact r H13 (Same.refl _)
    have g13 : H13 D13 = some (.lst (ns12.map fun l => V.str (tx l))) := by
      rw [g13, plen12]
      exact congrArg (fun z => some (HO.lst z)) (by rw [range_txs])
    have s1113 := s12'.trans s13
    walk_at "go"
    refine v_neStrL g13 (s1113 _ _ (s11 _ _ g49)) hsm ⟨_, rfl, ?_⟩
    have sAll := s111.trans s1113
    walk_at "go"
    refine v_fld (sAll _ _ e1) T.Block.cl T.nBm blockF_m ?_
    walk_at "go"
    · exact ⟨by omega, by omega, by decide⟩
    have kleq : (kindsL ls K1).length = K1.length := len_same23 nKK nK fun c => (km c).symm
    walk_at "go"
    rw [show decide (V.int (2 ^ (kindsL ls K1).length) = V.int (1 * 2 ^ ((K1.length : Nat) : Int).toNat)) = true from decide_eq_true (by rw [Int.one_mul, Int.toNat_natCast, kleq])]
    walk_at "go"
    intro p14 H14 hp14 s14' g14
    refine v_eqNN (s14' _ _ (s1113 _ _ (s11 _ _ g9'))) g14 ?_
    exact q H14 (ext_of (sAll.trans s14')) (tabs_same t0 (sAll.trans s14'))
  · have ne : looseL fn K1 ≠ [] := fun z => cl (loose_nil.mp z)
    have cl2 : ¬ Cliq fn (kindsL ls K1) := fun z => cl fun a ha b hb => z a ((km a).mp ha) b ((km b).mp hb)
    rw [show (looseL fn K1).isEmpty = false by cases h : looseL fn K1 with | nil => exact absurd h ne | cons _ _ => rfl]
    refine iteT ?_
    walk_at "go"
    rw [many_not25 fl hb.mK cl2] at e1
    refine v_fld (s12 _ _ e1) T.Block.cl T.nBm blockF_m ?_
    walk_at "go"
    refine ⟨rfl, true, congrArg V.bl (decide_eq_true rfl), ?_⟩
    walk_at "go"
    refine ⟨tabs_same t0 s12, fun H3 x3 t3 => ?_⟩
    have hb3 := (hb.same s12).ext x3
    obtain ⟨⟨dx3, e3⟩, ro3⟩ := hb3.blk
    try unfold TTr
    try dsimp only
    walk_at "go"
    refine ⟨a, _, _, rfl, e3, blockF_no (by decide +kernel) (by decide +kernel) (by decide +kernel) (by decide +kernel), ?_⟩
    walk_at "go"
    refine ⟨a, r, x, ls, fn, _, _, rfl, hb3, fl, cl2, .inr (.inr (.inl ⟨rfl, rfl, fun t H4 s4 e4 => ?_⟩))⟩
    walk_at "go"
    intro t5 H5 ht5 s5 e5
    refine ⟨t, t5, _, rfl, rfl, s5 _ _ e4, e5, fun v hv => ?_, q H5 ((ext_of s12).trans (x3.trans (ext_of (s4.trans s5)))) (tabs_same t3 (s4.trans s5))⟩
    simp only [List.mem_cons, List.not_mem_nil, or_false] at hv
    rcases hv with rfl | rfl <;> exact .inl rfl
end
end
section
open PySem PySem.Spec L2
theorem tabs_pen {Ts : List (Addr × Str)} {g : Pen} {H H' : Hp} {n : Nat} (t : LamX.Tabs Ts H) (p : PenAt g H n) (k : Keep g.p H H') : LamX.Tabs Ts H' := by
  obtain ⟨a, r, h1, _⟩ := p.ex
  exact tabs_keep t k h1 (fun ps z => nomatch z) (fun c q => codeO_dK)
def spErrors (C R : Addr) (Ts : List (Addr × Str)) : Sp := fun vs H Q _ => ∃ (g : Pen) (n : Nat) (x r : Addr) (ls : List Nat) (fn : Nat → List Nat) (nm K' : List Nat), vs = [.ref g.p, .ref x, .ref r, .str (tx K')] ∧ LamX.Tabs Ts H ∧ PenAt g H n ∧ n < 800000 ∧ PlanAt C H x (ascOf ls) (tabPairs ls fn) ∧ Fl ls fn ∧ RoomAt R H r x nm ∧ (∀ c ∈ K', c ∈ ls) ∧ K'.Nodup ∧
  ∀ H' n', n ≤ n' → n' ≤ n + 2 → LamX.Tabs Ts H' → PenAt g H' n' → (∀ b o, H b = some o → b ≠ g.p → (∀ ps, o ≠ .tbl ps) → H' b = some o) → Q (.bl true) H'
section
variable {P : Program} {w : World} {K : PySem.W.Frag} {mg : Str → Option Value} {base : Heap} {C R O B EL IK SK G : Addr} {st2 st3 : Stmt} {Ts : List (Addr × Str)} {c Pt : Addr}
abbrev sterrors_right : Stmt := (top 64)
abbrev Nerrors_right : List Str := ["_law_pen_here", "_law_floor_here", "_law_here", "_law_kinds_here", "_law_thing", "_law_at", "_law_far"]
theorem scerrors_right : FnScope Nerrors_right ["_law_pen_here", "_law_floor_here", "_law_here", "_law_kinds_here"] (defScope sterrors_right) := ⟨rfl, rfl, rfl, by decide +kernel, rfl, by decide +kernel, by decide +kernel⟩

theorem ok_errors_right (F : FnAtC K mg "_law_errors_right" sterrors_right c) (F_refused : FnAt K mg "_law_refused" strefused) (T : TxtK23 P K mg C R O B EL IK SK G st2 st3) (TB : LamX.TabB base mg c Pt) (hmT : (Pt, ("_law_errors_right" : Str) ++ ".<locals>." ++ "<lambda>") ∈ Ts) (huT : ∀ p ∈ Ts, p.1 = Pt → p.2 = ("_law_errors_right" : Str) ++ ".<locals>." ++ "<lambda>")
    (D_draw : Def P w K mg base CX0 1 "_law_draw" ["_law_pen_here", "_law_number"] spDraw) (C_BlockE : CDef P w K mg base (L2.CX P w) 5 "Block" B (spBlockE K C R B IK SK)) :
    Def P w K mg base CX0 9 "_law_errors_right" ["_law_pen_here", "_law_floor_here", "_law_here", "_law_kinds_here"] (spErrors C R Ts) := by
  refine F.ok scerrors_right (fun _ _ _ _ _ _ us hl => match us, hl with | [_, _, _, _], _ => rfl) (fun vs H Q E h => ?_) (fun f A outer s H vs Q E hr h => ?_)
  · obtain ⟨g, n, x, r, ls, fn, nm, K1, rfl, _⟩ := h
    rfl
  obtain ⟨g, n, x, r, ls, fn, nm, K1, rfl, t0, p0, hn, pl, fl, ro, mK, nK, q0⟩ := h
  have hu := hu_of hr
  have nd := scerrors_right.nd
  have tl := fl.tab.len
  have kl : K1.length ≤ 8 := Nat.le_trans (List.Nodup.length_le_of_subset nK fun k hk => mK k hk) tl
  replace D_draw := D_draw.mono (show 1 ≤ 8 by decide)
  replace C_BlockE := C_BlockE.mono (show 5 ≤ 5 by decide)
  refine ⟨_, (pss_cons (ps_for PassesOwn.never rfl (pi_listK (K := K) rfl (pe_lst (pa_cons pe_non (pa_cons pe_int (pa_cons (pe_callTy c_listS (by rfl) T.list (by decide +kernel) (pa_cons (pv 3) pa_nil)) (pa_cons (pe_tup pa_nil) (pa_cons (pv 2) (pa_cons (pv 1) pa_nil)))))))) (pg_name (i := 4) nd rfl (Or.inr rfl))
      (pss_one (ps_if (pt_cmpR (op_neS hu) (pe_refused F_refused T TB hmT huT hr (LamX.lamS_by (show LamX.lamSB (defScope sterrors_right) _ = true by decide +kernel)) (fun A outer s H E f c hr => (pe_mk C_BlockE hr (passes_call (takes_of rfl rfl rfl rfl) (fun _ _ _ _ h => h)) (pa_cons (pv 2) (pa_cons (pv 4) pa_nil))))) (pe_tup (pa_cons (pe_tx [107, 105, 110, 100] (by decide +kernel)) (pa_cons (pv 4) (pa_cons pe_bl pa_nil)))) (nomark _))
        (pss_one (ps_ret pe_bl))
        pss_nil)))
      (pss_cons (ps_set (i := 5) nd rfl (Or.inr rfl) (pe_cd D_draw hr pass0 (pa_cons (pv 0) (pa_cons (pe_op op_add (pe_callB c_lenS (by rfl) T.len PySem.boot_len (pa_cons (pv 3) pa_nil)) pe_int) pa_nil))))
      (pss_cons (ps_if (pt_cmpR (op_neS hu) (pe_refused F_refused T TB hmT huT hr (LamX.lamS_by (show LamX.lamSB (defScope sterrors_right) _ = true by decide +kernel)) (fun A outer s H E f c hr => (pe_mk C_BlockE hr (passes_call (takes_of rfl rfl rfl rfl) (fun _ _ _ _ h => h)) (pa_cons (pv 2) (pa_cons (pe_op op_addS (pe_op op_addS (pe_slice sl_S (pv 3) po_none (po_some (pv 5))) (pe_tx [95] (by decide +kernel))) (pe_slice sl_S (pv 3) (po_some (pv 5)) po_none)) pa_nil))))) (pe_tup (pa_cons (pe_tx [107, 105, 110, 100] (by decide +kernel)) (pa_cons (pe_tx [95] (by decide +kernel)) (pa_cons pe_bl pa_nil)))) (nomark _))
      (pss_one (ps_ret pe_bl))
      pss_nil)
      (pss_cons (ps_if (pt_cmpR op_eq (pv 3) (pe_tx [] (by decide +kernel)) (nomark _))
      (pss_one (ps_ret pe_bl))
      pss_nil)
      (pss_cons (ps_set (i := 6) nd rfl (Or.inr rfl) (pe_cd D_draw hr pass0 (pa_cons (pv 0) (pa_cons (pe_callB c_lenS (by rfl) T.len PySem.boot_len (pa_cons (pv 3) pa_nil)) pa_nil))))
      (pss_one (ps_ret (pe_cmpR (op_eqS hu) (pe_refused F_refused T TB hmT huT hr (LamX.lamS_by (show LamX.lamSB (defScope sterrors_right) _ = true by decide +kernel)) (fun A outer s H E f c hr => (pe_mk C_BlockE hr (passes_call (takes_of rfl rfl rfl rfl) (fun _ _ _ _ h => h)) (pa_cons (pv 2) (pa_cons (pe_op op_addS (pe_op op_addS (pv 3) (pe_ix ix_str (pv 3) (pv 6) (fun _ _ => rfl))) (pe_tx [63] (by decide +kernel))) pa_nil))))) (pe_tup (pa_cons (pe_tx [115, 97, 109, 101] (by decide +kernel)) (pa_cons (pe_ix ix_str (pv 3) (pv 6) (fun _ _ => rfl)) (pa_cons pe_bl pa_nil)))) (nomark _))))))))), ?_⟩
  refine s_start [some _, some _, some _, some _, none, none, none] rfl ?_
  walk_at "go"
  refine v_listS (by omega) fun q1 H1 hq1 s1 e1 => ?_
  walk_at "go"
  intro q2 H2 hq2 s2 e2
  walk_at "go"
  intro q H3 hq s3 e3
  have s13 := (s1.trans s2).trans s3
  have t3 := tabs_same t0 s13
  have p3 := p0.same s13
  have pl3 := pl.same s13
  have ro3 := ro.same s13
  have q13 := s3 _ _ (s2 _ _ e1)
  have q23 := s3 _ _ e2
  have things : ∀ v ∈ [V.non, V.int 5, V.ref q1, V.ref q2, V.ref r, V.ref x], (∀ H', LamX.ExtN H3 H' → NoTx K H' v) ∧ Plainly v := by
    have no : ∀ {b : Addr} {o : HO} {H' : Hp}, H3 b = some o → (∀ ps, o ≠ .tbl ps) → LamX.ExtN H3 H' → H' b = some o := fun h n e => e _ _ h n
    obtain ⟨dx, tx', dy, a1, a2, a3⟩ := pl3.ex
    obtain ⟨dr, b1⟩ := ro3.ex
    intro v hv
    simp only [List.mem_cons, List.not_mem_nil, or_false] at hv
    rcases hv with rfl | rfl | rfl | rfl | rfl | rfl
    · exact ⟨fun H' e => noTx_non, .inl rfl⟩
    · exact ⟨fun H' e => noTx_int, .inl rfl⟩
    · exact ⟨fun H' e => noTx_lst (no q13 (fun ps z => nomatch z) e), .inr ⟨_, rfl⟩⟩
    · exact ⟨fun H' e => noTx_tup (no q23 (fun ps z => nomatch z) e), .inr ⟨_, rfl⟩⟩
    · exact ⟨fun H' e => noTx_ins T.Room T.kR (no b1 (fun ps z => nomatch z) e), .inr ⟨_, rfl⟩⟩
    · exact ⟨fun H' e => noTx_ins T.Plan T.kC (no a1 (fun ps z => nomatch z) e), .inr ⟨_, rfl⟩⟩
  walk_at "go"
  refine for_it (walk_list (K := K) (a := q) (xs := [V.non, V.int 5, V.ref q1, V.ref q2, V.ref r, V.ref x])) (fun j σ H' => ∃ z4, σ = [some (.ref g.p), some (.ref x), some (.ref r), some (.str (tx K1)), z4, none, none] ∧ LamX.ExtN H3 H' ∧ LamX.Tabs Ts H') ⟨_, rfl, LamX.ExtN.refl _, t3⟩ ?_ ?_ ?_
  · rintro j σ H' _ ⟨_, rfl, e, _⟩
    exact SqL.of (e _ _ e3 fun ps z => nomatch z)
  · rintro j v σ H4 H5 hj ⟨z4, rfl, x4, t4⟩ ⟨rfl, hv⟩
    obtain ⟨nt, pv⟩ := things v (List.mem_of_getElem? hv)
    walk_at "go"
    refine ⟨t4, fun H6 x6 t6 => ?_⟩
    have x36 := x4.trans x6
    try unfold TTr
    try dsimp only
    walk_at "go"
    refine ⟨r, x, _, _, nm, v, rfl, ro3.ext x36, pl3.ext x36, .inl ⟨fun H' e => nt H' (x36.trans e), fun H' d s' ed => .inl ⟨rfl, d, v, rfl, ed, fun t H7 s7 e7 => ?_⟩⟩⟩
    walk_at "go"
    intro t8 H8 ht8 s8 e8
    refine ⟨t, t8, _, rfl, rfl, s8 _ _ e7, e8, fun u hu => ?_, ?_⟩
    · simp only [List.mem_cons, List.not_mem_nil, or_false] at hu
      rcases hu with rfl | rfl | rfl
      · exact .inl rfl
      · exact pv
      · exact .inl rfl
    refine ⟨false, rfl, ?_⟩
    walk_at "go"
    have s68 := (s'.trans s7).trans s8
    exact ⟨_, rfl, x36.trans (ext_of s68), tabs_same t6 s68⟩
  rintro σ H4 ⟨z4, rfl, x4, t4⟩
  have p4 := p3.ext x4
  have pl4 := pl3.ext x4
  have ro4 := ro3.ext x4
  walk_at "go"
  refine ⟨g, _, n, rfl, by omega, by omega, p4, by omega, fun z H5 z0 z1 p5 k5 => ?_⟩
  have t5 := tabs_pen t4 p4 k5
  have pl5 := pl4.pen p4 k5
  have ro5 := ro4.pen p4 k5
  have n95 : ¬ 95 ∈ ascOf ls := fun h => by
    have := (LET_lt (fl.tab.lt 95 (ascOf_mem.mp h).2)).1
    omega
  have n63 : ¬ 63 ∈ ascOf ls := fun h => by
    have := (LET_lt (fl.tab.lt 63 (ascOf_mem.mp h).2)).1
    omega
  have asl := asc_len25 fl
  walk_at "go"
  refine ⟨t5, fun H6 x6 t6 => ?_⟩
  try unfold TTr
  try dsimp only
  walk_at "go"
  refine v_slTo (by omega) z0 ?_
  have ltk : (K1.take z.toNat).length + [95].length ≤ 1000000 := by rw [List.length_take]; show _ + 1 ≤ _; omega
  walk_at "go"
  refine v_slFrom (by omega) z0 ?_
  have ltk2 : (K1.take z.toNat ++ [95]).length + (K1.drop z.toNat).length ≤ 1000000 := by rw [List.length_append, List.length_take, List.length_drop]; show _ + 1 + _ ≤ _; omega
  refine v_addS ltk2 ?_
  walk_at "go"
  refine ⟨r, x, _, _, nm, _, rfl, ro5.ext x6, pl5.ext x6, .inr ⟨K1.take z.toNat, 95, K1.drop z.toNat, by rw [List.append_assoc]; rfl, nK.sublist (List.take_sublist _ _), fun y hy => inAsc fl.tab mK y (List.mem_of_mem_take hy), by rw [List.length_append, List.length_cons, List.length_take, List.length_drop]; omega, by omega, .inl ⟨n95, fun H' d s' ed => .inl ⟨rfl, d, _, rfl, ed, fun t H7 s7 e7 => ?_⟩⟩⟩⟩
  walk_at "go"
  intro t8 H8 ht8 s8 e8
  refine ⟨t, t8, _, rfl, rfl, s8 _ _ e7, e8, fun u hu => ?_, ?_⟩
  · simp only [List.mem_cons, List.not_mem_nil, or_false] at hu
    rcases hu with rfl | rfl | rfl <;> exact .inl rfl
  refine ⟨false, rfl, ?_⟩
  have s68 := (s'.trans s7).trans s8
  have x58 := x6.trans (ext_of s68)
  have t8' := tabs_same t6 s68
  have p8 := p5.ext x58
  have kx : ∀ b o, H b = some o → b ≠ g.p → (∀ ps, o ≠ .tbl ps) → H8 b = some o := fun b o h n1 n2 => x58 _ _ (k5 _ _ (x4 _ _ (s13 _ _ h) n2) n1) n2
  walk_at "go"
  rw [dec_tx]
  by_cases c0 : K1 = []
  · rw [decide_eq_true c0]
    refine iteT ?_
    walk_at "go"
    exact q0 H8 (n + 1) (by omega) (by omega) t8' p8 kx
  rw [decide_eq_false c0]
  refine iteF ?_
  have kp : 0 < K1.length := List.length_pos_iff.mpr c0
  walk_at "go"
  refine ⟨g, _, n + 1, rfl, by omega, by omega, p8, by omega, fun z9 H9 z90 z91 p9 k9 => ?_⟩
  have t9 := tabs_pen t8' p8 k9
  have pl9 := (pl5.ext x58).pen p8 k9
  have ro9 := (ro5.ext x58).pen p8 k9
  obtain ⟨c, hc⟩ : ∃ c, K1[z9.toNat]? = some c := ⟨_, List.getElem?_eq_getElem (by omega)⟩
  have hcK : c ∈ K1 := List.mem_of_getElem? hc
  have at9 : atI K1 z9 = some c := by
    rw [show z9 = ((z9.toNat : Nat) : Int) by omega]
    exact atI_nat hc
  walk_at "go"
  refine ⟨t9, fun H10 x10 t10 => ?_⟩
  try unfold TTr
  try dsimp only
  have la1 : K1.length + [c].length ≤ 1000000 := by show K1.length + 1 ≤ _; omega
  have la2 : (K1 ++ [c]).length + [63].length ≤ 1000000 := by rw [List.length_append]; show K1.length + 1 + 1 ≤ _; omega
  walk_at "go"
  refine v_ixS (by omega) at9 ?_
  walk_at "go"
  refine ⟨r, x, _, _, nm, _, rfl, ro9.ext x10, pl9.ext x10, .inr ⟨K1, c, [63], by rw [List.append_assoc]; rfl, nK, fun y hy => inAsc fl.tab mK y hy, by rw [List.length_append]; show K1.length + 2 ≤ _; omega, by omega, .inr ⟨inAsc fl.tab mK c hcK, hcK, fun H' d s' ed => .inr (.inl ⟨rfl, d, _, rfl, ed, fun t H11 s11 e11 => ?_⟩)⟩⟩⟩
  walk_at "go"
  refine v_ixS (by omega) at9 ?_
  walk_at "go"
  intro t12 H12 ht12 s12 e12
  have s1012 := (s'.trans s11).trans s12
  have x912 := x10.trans (ext_of s1012)
  refine ⟨t, t12, _, rfl, rfl, s12 _ _ e11, e12, fun u hu => ?_, q0 H12 (n + 2) (by omega) (by omega) (tabs_same t10 s1012) (p9.ext x912) fun b o h n1 n2 => x912 _ _ (k9 _ _ (kx b o h n1 n2) n1) n2⟩
  simp only [List.mem_cons, List.not_mem_nil, or_false] at hu
  rcases hu with rfl | rfl | rfl <;> exact .inl rfl
end
end
section
open PySem PySem.Spec L2
theorem BlkF.pen {C R B : Addr} {H H' : Hp} {a r x : Addr} {ls : List Nat} {fn : Nat → List Nat} {n K : List Nat} {g : Pen} {m : Nat} (h : BlkF C R B H a r x ls fn n K) (p : PenAt g H m) (k : Keep g.p H H') : BlkF C R B H' a r x ls fn n K := by
  obtain ⟨⟨⟨dx, e⟩, ro⟩, pl, h1, h2, h3, h4, h5⟩ := h
  obtain ⟨a1, b, hp, _⟩ := p.ex
  exact ⟨⟨⟨dx, k _ _ e (fun z => by rw [z, hp] at e; cases e)⟩, ro.pen p k⟩, pl.pen p k, h1, h2, h3, h4, h5⟩
section
variable {X : Cx} {C R O B EL IK SK G : Addr} {st2 st3 : Stmt}
/-- _law_refused(name), the name that of a kept lambda -/
theorem pe_refusedU (F : FnAt X.K X.mg "_law_refused" strefused) (T : TxtK23 X.prog X.K X.mg C R O B EL IK SK G st2 st3) {k i : Nat} {y : Str} {p py pos : PySem.Pos} (hr : Room (k + 2) X.A) (hy : X.N[i]? = some y) (hvy : Vis X.env.scope y)
    (hdy : (y == ("__debug__" : Str)) = false := by decide) (hcy : (y == ("__classdict__" : Str)) = false := by decide) (hg : Gl X "_law_refused" := by rfl) :
    PE X (.Call (.Name "_law_refused" p) [.Name y py] [] pos) (tLamU X k (TTr IK SK EL O) i) := by
  obtain ⟨g, fd, hm, G⟩ := F.ex
  have hb : Binds X.K fd ["_law_deed"] [] := G.binds fun _ _ _ _ _ _ us hl => match us, hl with | [_], _ => rfl
  obtain ⟨oc, od, kV, doc, pm, an, cdv, ct, osl, rfl, lk, hcd⟩ := G.ex
  exact pe_lamU hg hm G.kp lk hcd hb screfused rfl (Or.inl rfl) (fun q => refused_gives T) hr hy hvy (by decide) (by decide) (by decide) hdy hcy
end
def spApart (C R B : Addr) (Ts : List (Addr × Str)) : Sp := fun vs H Q _ => ∃ (g : Pen) (n : Nat) (a r x : Addr) (ls : List Nat) (fn : Nat → List Nat) (m K : List Nat), vs = [.ref g.p, .ref a] ∧ LamX.Tabs Ts H ∧ PenAt g H n ∧ n < 800000 ∧ Fl ls fn ∧ BlkF C R B H a r x ls fn m K ∧ ¬ 113 ∈ ls ∧
  ∀ H' n', n ≤ n' → n' ≤ n + 100 → LamX.Tabs Ts H' → PenAt g H' n' → (∀ b o, H b = some o → b ≠ g.p → (∀ ps, o ≠ .tbl ps) → H' b = some o) → Q (.bl true) H'
section
variable {P : Program} {w : World} {K : PySem.W.Frag} {mg : Str → Option Value} {base : Heap} {C R O B EL IK SK G : Addr} {st2 st3 : Stmt} {Ts : List (Addr × Str)} {c Pt : Addr}
abbrev stapart_right : Stmt := (top 68)
abbrev Napart_right : List Str := ["_law_pen_here", "_law_block", "_law_alien", "_law_k", "_law_deed"]
theorem scapart_right : FnScope Napart_right ["_law_pen_here", "_law_block"] (defScope stapart_right) := ⟨rfl, rfl, rfl, by decide +kernel, rfl, by decide +kernel, by decide +kernel⟩

theorem ok_apart_right (F : FnAtC K mg "_law_apart_right" stapart_right c) (F_refused : FnAt K mg "_law_refused" strefused) (T : TxtK23 P K mg C R O B EL IK SK G st2 st3) (TB : LamX.TabB base mg c Pt) (hmT : (Pt, ("_law_apart_right" : Str) ++ ".<locals>." ++ "<lambda>") ∈ Ts) (huT : ∀ p ∈ Ts, p.1 = Pt → p.2 = ("_law_apart_right" : Str) ++ ".<locals>." ++ "<lambda>")
    (D_made : Def P w K mg base CX0 5 "_law_made" ["_law_pen_here", "_law_table"] (spMade C)) (C_Room_1 : CDefN P w K mg base CX0 3 "Room" R (spRoom C R) 1 [] [.pos 0, .dfl 0] [.str (tx [])]) (C_Block : CDef P w K mg base CX0 5 "Block" B (spBlock C R B)) (M_Block_and : MDef P w K mg base (L2.CX P w) 9 B "__and__" ["self", "other"] (spBlockAnd C R B O)) (M_Block_le : MDef P w K mg base (L2.CX P w) 9 B "__le__" ["self", "other"] (spBlockLe C R B O)) (M_Block_nearest : MDef P w K mg base (L2.CX P w) 6 B "nearest" ["self", "room"] (spNearestB C R B O))
    (M_Block_eq : MDef P w K mg base CX0 3 B "__eq__" ["self", "other"] (spBlockEq C R B)) (N_Block_eq : MDef P w K mg base CX0 3 B "__eq__" ["self", "other"] (spBlockEq C R B)) (M_Block_in : MDef P w K mg base CX0 7 B "__contains__" ["self", "value"] (spInBlock C R B)) (M_Block_inN : MDef P w K mg base CX0 7 B "__contains__" ["self", "value"] (spInNo K R)) :
    Def P w K mg base CX0 12 "_law_apart_right" ["_law_pen_here", "_law_block"] (spApart C R B Ts) := by
  refine F.ok scapart_right (fun _ _ _ _ _ _ us hl => match us, hl with | [_, _], _ => rfl) (fun vs H Q E h => ?_) (fun f A outer s H vs Q E hr h => ?_)
  · obtain ⟨g, n, a, r, x, ls, fn, m, K1, rfl, _⟩ := h
    rfl
  obtain ⟨g, n, a, r, x, ls, fn, m, K1, rfl, t0, p0, hn, fl, hb, n113, q0⟩ := h
  have hu := hu_of hr
  have nd := scapart_right.nd
  replace D_made := D_made.mono (show 5 ≤ 11 by decide)
  replace C_Room_1 := C_Room_1.mono (show 3 ≤ 10 by decide)
  replace C_Block := C_Block.mono (show 5 ≤ 10 by decide)
  have M_and0 := M_Block_and
  have M_le0 := M_Block_le
  have M_near0 := M_Block_nearest
  replace M_Block_eq := M_Block_eq.mono (show 3 ≤ 11 by decide)
  replace N_Block_eq := N_Block_eq.mono (show 3 ≤ 10 by decide)
  replace M_Block_in := M_Block_in.mono (show 7 ≤ 11 by decide)
  replace M_Block_inN := M_Block_inN.mono (show 7 ≤ 11 by decide)
  refine ⟨_, (pss_cons (ps_set (i := 2) nd rfl (Or.inr rfl) (pe_mk C_Block hr pass0 (pa_cons (pe_mkN C_Room_1 hr pass0 (pa_cons (pe_cd D_made hr pass0 (pa_cons (pv 0) (pa_cons (pe_disp (pps_cons pe_str (pe_tx [] (by decide +kernel)) (pps_cons pe_str (pe_tx [] (by decide +kernel)) pps_nil)) (by rfl) (by rfl) (fun z => by cases z) (by decide)) pa_nil))) pa_nil) pk_nil) (pa_cons (pe_tx [113] (by decide +kernel)) pa_nil))))
      (pss_cons (ps_for PassesOwn.never rfl (pi_range1 (by rfl) T.range (pa_cons pe_int pa_nil)) (pg_name (i := 3) nd rfl (Or.inl rfl))
      (pss_cons (ps_set (i := 4) nd rfl (Or.inl rfl) (pe_lamW TB hmT huT (LamX.lamS_by (show LamX.lamSB (defScope stapart_right) _ = true by decide +kernel))))
        (pss_cutS (ps_if (pt_cmpR op_eq (pv 3) pe_int (nomark _))
        (pss_one (ps_set (i := 4) nd rfl (Or.inl rfl) (pe_lamW TB hmT huT (LamX.lamS_by (show LamX.lamSB (defScope stapart_right) _ = true by decide +kernel)))))
        pss_nil)
        (pss_cutS (ps_if (pt_cmpR op_eq (pv 3) pe_int (nomark _))
        (pss_one (ps_set (i := 4) nd rfl (Or.inl rfl) (pe_lamW TB hmT huT (LamX.lamS_by (show LamX.lamSB (defScope stapart_right) _ = true by decide +kernel)))))
        pss_nil)
        (pss_one (ps_if (pt_cmpR (op_neS hu) (pe_refusedU (i := 4) (y := "_law_deed") F_refused T hr rfl (Or.inl rfl)) (pe_tup (pa_cons (pe_tx [112, 108, 97, 110] (by decide +kernel)) (pa_cons pe_bl pa_nil))) (nomark _))
        (pss_one (ps_ret pe_bl))
        pss_nil))))))
      (pss_cons (ps_if (PW.pt (pw_or (pt_cmpR (op_cmpM (op := .Eq) (fun _ _ => rfl) M_Block_eq hr pass0) (pv 2) (pv 1) (nomark _)) (pw_or (pt_not (pt_cmpR (op_neM N_Block_eq T.Block.ne T.Block.ob hr pass0) (pv 1) (pv 2) (nomark _))) (pw_or1 (pt_cmpR (op_inM M_Block_in hr pass0) (pe_flK (K := K) rfl (pv 2) rfl) (pv 1) (by rfl))))))
      (pss_one (ps_ret pe_bl))
      pss_nil)
      (pss_one (ps_ret (pe_and (pe_not (pe_cmpR (op_inM M_Block_inN hr pass0) pe_non (pv 1) (by rfl))) (pe_and (pe_not (pe_cmpR (op_inM M_Block_inN hr pass0) (pe_flK (K := K) rfl (pe_flK (K := K) rfl (pv 1) rfl) rfl) (pv 1) (by rfl))) (pe_one (pe_not (pe_cmpR (op_inM M_Block_inN hr pass0) (pv 1) (pv 1) (by rfl))))))))))), ?_⟩
  refine s_start [some _, some _, none, none, none] rfl ?_
  walk_at "go"
  refine e_CN ?_
  walk_at "go"
  intro d0 hd0
  refine e_pr ?_
  walk_at "go"
  refine ⟨upd_same, [(Sum.inr (tx [97]), .str (tx [])), (Sum.inr (tx [113]), .str (tx []))], rfl, by decide, ?_⟩
  generalize e1 : upd (upd H d0 (.dK [])) d0 (.dK (mergeK [] [(Sum.inr (tx [97]), V.str (tx [])), (Sum.inr (tx [113]), V.str (tx []))])) = H1
  have d1 : H1 d0 = some (.dK (tabKV [97, 113] fun _ => [])) := by
    rw [← e1, upd_same]
    rfl
  have s1 : Same H H1 := fun b o hb => by
    rw [← e1, upd_ne (ne_of_none hb hd0), upd_ne (ne_of_none hb hd0)]
    exact hb
  have tab0 : Tab [97, 113] fun _ => [] := ⟨by decide, by decide +kernel, by decide, (fun _ _ b hb => by cases hb), fun _ _ => by decide⟩
  have fl0 : Fl [97, 113] fun _ => [] := ⟨tab0, ⟨(fun a b h => by cases h), (fun a h => by cases h)⟩, by decide, by decide⟩
  have nd0 : d0 ≠ g.p := (p0.p_ne hd0).symm
  have p1 := p0.same s1
  walk_at "go"
  refine ⟨g, _, d0, _, _, rfl, p1, by omega, nd0, d1, tab0, fun x0 H2 hx0 k2 p2 pl2 off => ?_⟩
  have t2 := tabs_pen (tabs_same t0 s1) p1 k2
  have hb2 := (hb.same s1).pen p1 k2
  walk_at "go"
  refine ⟨rfl, rfl, ?_⟩
  refine sp_room fl0 pl2 (w := []) (fun _ z => nomatch z) (by decide) fun r3 H3 hr3 s3 ro3 => ?_
  walk_at "go"
  refine sp_block (K := [113]) fl0 ro3 (pl2.same s3) NF_nil (fun _ z => nomatch z) (by decide) (by decide) (by decide) fun b4 r4 H4 hb4 s4 bk4 => ?_
  have aq : ascOf [97, 113] = [97, 113] := by decide +kernel
  have s34 := s3.trans s4
  have t4 := tabs_same t2 s34
  have p4 := p2.same s34
  have hb4 := hb2.same s34
  have k04 : ∀ b o, H b = some o → b ≠ g.p → H4 b = some o := fun b o h n1 => s34 _ _ (k2 _ _ (s1 _ _ h) n1)
  generalize baseC (fun _ => []) ([97, 113].filter fun k => decide (k ∈ [113])) [] = m4 at bk4
  generalize ([97, 113].filter fun k => decide (k ∈ [113])) = K4 at bk4
  clear e1 d1 off
  have pl12 : ∀ {H' : Hp}, LamX.ExtN H4 H' → Plans2 C H' x x0 false := fun {H'} e => ⟨_, _, _, _, (hb4.ext e).pl, (bk4.ext e).pl, pairsOf_small _, pairsOf_small _, (decide_eq_false fun z => n113 (by
    have z1 := z.1
    rw [asc_self fl, aq] at z1
    rw [z1]
    decide)).symm⟩
  have pl21 : ∀ {H' : Hp}, LamX.ExtN H4 H' → Plans2 C H' x0 x false := fun {H'} e => ⟨_, _, _, _, (bk4.ext e).pl, (hb4.ext e).pl, pairsOf_small _, pairsOf_small _, (decide_eq_false fun z => n113 (by
    have z1 := z.1
    rw [asc_self fl, aq] at z1
    rw [← z1]
    decide)).symm⟩
  have nbn : ∀ {x r : Addr} {kinds : List Nat} {v : V}, (blockF x kinds r v).lookup ("nearest" : Str) = none := fun {_ _ _ _} => blockF_no (by decide +kernel) (by decide +kernel) (by decide +kernel) (by decide +kernel)
  have Bad1 : ∀ (E : XK) (H' : Hp) (Q' : VK) (z3 z4 : Option V), LamX.ExtN H4 H' → E (.ref O) none H' → tOp (rMP B (spBlockAnd C R B O) E) (tVar 1) (tVar 2) [some (.ref g.p), some (.ref a), some (.ref b4), z3, z4] H' Q' := fun E H' Q' z3 z4 e he => by
    obtain ⟨⟨dx, ga⟩, _⟩ := (hb4.ext e).blk
    obtain ⟨⟨dy, gb⟩, _⟩ := (bk4.ext e).blk
    walk_at "go"
    exact v_MP ga gb ⟨a, r, x, b4, r4, x0, _, _, _, _, _, _, false, rfl, (hb4.ext e).blk, (bk4.ext e).blk, pl12 e, (fun _ => he), fun z => nomatch z⟩
  have Bad2 : ∀ (E : XK) (H' : Hp) (Q' : VK) (z3 z4 : Option V), LamX.ExtN H4 H' → E (.ref O) none H' → tOp (rM2 B (spBlockLe C R B O) E) (tVar 2) (tVar 1) [some (.ref g.p), some (.ref a), some (.ref b4), z3, z4] H' Q' := fun E H' Q' z3 z4 e he => by
    obtain ⟨⟨dx, ga⟩, _⟩ := (hb4.ext e).blk
    obtain ⟨⟨dy, gb⟩, _⟩ := (bk4.ext e).blk
    walk_at "go"
    exact v_M2 gb ga ⟨b4, r4, x0, a, r, x, _, _, _, _, _, _, false, rfl, (bk4.ext e).blk, (hb4.ext e).blk, pl21 e, (fun _ => he), fun z => nomatch z⟩
  have Bad3 : ∀ (E : XK) (H' : Hp) (Q' : VK) (z3 z4 : Option V), LamX.ExtN H4 H' → E (.ref O) none H' → tMeth B "nearest" (spNearestB C R B O) [] E (tVar 1) (tCons (tFld K (tVar 2) "room") tNil) [some (.ref g.p), some (.ref a), some (.ref b4), z3, z4] H' Q' := fun E H' Q' z3 z4 e he => by
    obtain ⟨⟨dx, ga⟩, _⟩ := (hb4.ext e).blk
    obtain ⟨⟨dy, gb⟩, rb⟩ := (bk4.ext e).blk
    walk_at "go"
    refine v_md ga nbn ?_
    walk_at "go"
    refine v_fld gb T.Block.cl T.nBr blockF_r ?_
    walk_at "go"
    exact ⟨a, r, x, r4, x0, ls, fn, m, K1, _, false, rfl, hb4.ext e, fl, rb, pl12 e, (fun z => nomatch z), fun _ => he⟩
  have M_near9 := M_near0.mono (show 6 ≤ 9 by decide)
  walk_at "go"
  refine for_it (walk_rI (fun i => ((i : Nat) : Int)) (fun k => Int.zero_add _)) (fun i σ H' => ∃ z3 z4, σ = [some (.ref g.p), some (.ref a), some (.ref b4), z3, z4] ∧ LamX.ExtN H4 H' ∧ LamX.Tabs Ts H') ⟨_, _, rfl, LamX.ExtN.refl _, t4⟩ (fun _ _ _ _ _ => trivial) ?_ ?_
  · rintro i v σ H5 H6 hi ⟨z3, z4, rfl, x5, t5⟩ ⟨rfl, rfl⟩
    walk_at "go"
    refine ⟨t5, fun f7 c7 H7 x7 t7 e7 g7 => ?_⟩
    walk_at "go"
    refine s_cut (fun σ H' => ∃ f8 c8 d8 t8, σ = [some (.ref g.p), some (.ref a), some (.ref b4), some (.int (i : Nat)), some (.ref f8)] ∧ LamX.ExtN H4 H' ∧ LamX.Tabs Ts H' ∧ H' c8 = some (LamX.CodeO c8 ((cxOf CX0 P w K mg base Napart_right "_law_apart_right" (defScope stapart_right) f (Value.ref c) A outer s H E).nox.env.qual ++ "<lambda>")) ∧ H' f8 = some (FunL (cxOf CX0 P w K mg base Napart_right "_law_apart_right" (defScope stapart_right) f (Value.ref c) A outer s H E).nox.env d8 f8 c8) ∧ LamOk (cxOf CX0 P w K mg base Napart_right "_law_apart_right" (defScope stapart_right) f (Value.ref c) A outer s H E).nox 9 d8 t8 ∧ (∀ (E : XK) (H' : Hp) (Q' : VK) (z3 z4 : Option V), LamX.ExtN H4 H' → E (.ref O) none H' → t8 E [some (.ref g.p), some (.ref a), some (.ref b4), z3, z4] H' Q')) ?_ ?_
    · walk_at "go"
      refine if_dec (fun _ => ?_) (fun _ => ?_)
      · walk_at "go"
        refine ⟨t7, fun f8 c8 H8 x8 t8 e8 g8 => ?_⟩
        exact ⟨f8, c8, _, _, rfl, (x5.trans x7).trans x8, t8, e8, g8, ⟨LamX.lamS_by (show LamX.lamSB (defScope stapart_right) _ = true by decide +kernel), (by intro _ _ _ _ _; rfl), fun A outer s H E f c1 hr => (pe_cmpR (op_cmpM (op := .LtE) (fun _ _ => rfl) M_le0 hr (passes_call (takes_of rfl rfl rfl rfl) (fun _ _ _ _ h => h))) (pv 2) (pv 1) (nomark _))⟩, Bad2⟩
      · walk_at "go"
        exact ⟨f7, c7, _, _, rfl, x5.trans x7, t7, e7, g7, ⟨LamX.lamS_by (show LamX.lamSB (defScope stapart_right) _ = true by decide +kernel), (by intro _ _ _ _ _; rfl), fun A outer s H E f c1 hr => (pe_op (op_andM2 M_and0 T.Block_sf hr (passes_call (takes_of rfl rfl rfl rfl) (fun _ _ _ _ h => h))) (pv 1) (pv 2))⟩, Bad1⟩
    rintro σ H8 ⟨f8, c8, d8, tt8, rfl, x8, t8, e8, g8, o8, b8⟩
    refine s_cut (fun σ H' => ∃ f8 c8 d8 t8, σ = [some (.ref g.p), some (.ref a), some (.ref b4), some (.int (i : Nat)), some (.ref f8)] ∧ LamX.ExtN H4 H' ∧ LamX.Tabs Ts H' ∧ H' c8 = some (LamX.CodeO c8 ((cxOf CX0 P w K mg base Napart_right "_law_apart_right" (defScope stapart_right) f (Value.ref c) A outer s H E).nox.env.qual ++ "<lambda>")) ∧ H' f8 = some (FunL (cxOf CX0 P w K mg base Napart_right "_law_apart_right" (defScope stapart_right) f (Value.ref c) A outer s H E).nox.env d8 f8 c8) ∧ LamOk (cxOf CX0 P w K mg base Napart_right "_law_apart_right" (defScope stapart_right) f (Value.ref c) A outer s H E).nox 9 d8 t8 ∧ (∀ (E : XK) (H' : Hp) (Q' : VK) (z3 z4 : Option V), LamX.ExtN H4 H' → E (.ref O) none H' → t8 E [some (.ref g.p), some (.ref a), some (.ref b4), z3, z4] H' Q')) ?_ ?_
    · walk_at "go"
      refine if_dec (fun _ => ?_) (fun _ => ?_)
      · walk_at "go"
        refine ⟨t8, fun f9 c9 H9 x9 t9 e9 g9 => ?_⟩
        exact ⟨f9, c9, _, _, rfl, x8.trans x9, t9, e9, g9, ⟨LamX.lamS_by (show LamX.lamSB (defScope stapart_right) _ = true by decide +kernel), (by intro _ _ _ _ _; rfl), fun A outer s H E f c1 hr => (pe_md M_near9 T.Block.cl hr (passes_call (takes_of rfl rfl rfl rfl) (fun _ _ _ _ h => h)) (pv 1) (pa_cons (pe_flK (K := K) rfl (pv 2) rfl) pa_nil))⟩, Bad3⟩
      · walk_at "go"
        exact ⟨f8, c8, _, _, rfl, x8, t8, e8, g8, o8, b8⟩
    rintro σ H9 ⟨f9, c9, d9, tt9, rfl, x9, t9, e9, g9, o9, b9⟩
    walk_at "go"
    refine ⟨f9, c9, d9, tt9, o9, rfl, e9, g9, ?_⟩
    try unfold TTr
    try dsimp only
    refine ⟨g9, b9 _ _ _ _ _ x9 (.inr (.inr (.inr ⟨rfl, rfl, fun t H10 s10 e10 => ?_⟩)))⟩
    walk_at "go"
    intro t11 H11 ht11 s11 e11
    refine ⟨t, t11, _, rfl, rfl, s11 _ _ e10, e11, fun u hu => ?_, ?_⟩
    · simp only [List.mem_cons, List.not_mem_nil, or_false] at hu
      rcases hu with rfl | rfl <;> exact .inl rfl
    refine ⟨false, rfl, ?_⟩
    walk_at "go"
    exact ⟨_, _, rfl, x9.trans (ext_of (s10.trans s11)), tabs_same t9 (s10.trans s11)⟩
  rintro σ H5 ⟨z3, z4, rfl, x5, t5⟩
  have p5 := p4.ext x5
  have hb5 := hb4.ext x5
  have bk5 := bk4.ext x5
  obtain ⟨⟨dx, ga⟩, ra⟩ := hb5.blk
  obtain ⟨⟨dy, gb⟩, rb⟩ := bk5.blk
  have la := hb5.ln
  have lb := bk5.ln
  walk_at "go"
  refine v_M2 gb ga ⟨b4, r4, x0, _, _, _, a, r, x, _, _, _, false, rfl, bk5.blk, hb5.blk, ⟨rb, ra, pl21 x5, by omega, by omega⟩, ?_⟩
  rw [Bool.false_and, Bool.false_and]
  refine ⟨false, rfl, ?_⟩
  refine iteF ?_
  walk_at "go"
  refine v_M2n ga gb ⟨a, r, x, _, _, _, b4, r4, x0, _, _, _, false, rfl, hb5.blk, bk5.blk, ⟨ra, rb, pl12 x5, by omega, by omega⟩, ?_⟩
  rw [Bool.false_and, Bool.false_and]
  refine ⟨_, rfl, ?_⟩
  walk_at "go"
  refine iteF ?_
  walk_at "go"
  refine v_fld gb T.Block.cl T.nBr blockF_r ?_
  walk_at "go"
  refine v_MIn (n := false) ga ⟨a, r, x, r4, x0, ls, fn, _, _, _, false, rfl, hb5, fl, rb, pl21 x5, (fun z => nomatch z), fun H6 s6 => ⟨_, rfl, ?_⟩⟩
  rw [Bool.false_and]
  walk_at "go"
  refine iteF ?_
  walk_at "go"
  have ga6 := s6 _ _ ga
  obtain ⟨dr, fr⟩ := ra.ex
  refine v_MIn (n := false) ga6 ⟨a, .non, rfl, ⟨_, .base .non, T.nN⟩, _, rfl, ?_⟩
  walk_at "go"
  refine iteT ?_
  walk_at "go"
  refine v_fld ga6 T.Block.cl T.nBr blockF_r ?_
  walk_at "go"
  refine v_fld (s6 _ _ fr) T.Room.cl T.nNm roomF_n ?_
  walk_at "go"
  refine v_MIn (n := false) ga6 ⟨a, _, rfl, ⟨_, .base (.str _), T.nS⟩, _, rfl, ?_⟩
  walk_at "go"
  refine iteT ?_
  walk_at "go"
  refine v_MIn (n := false) ga6 ⟨a, _, rfl, ⟨_, .base (.ins ga6 T.Block.cl T.Block.ha T.Block.hn T.Block.ht T.Block.hm), T.nB⟩, _, rfl, ?_⟩
  walk_at "go"
  exact q0 H6 _ (by omega) (by omega) (tabs_same t5 s6) (p5.same s6) fun b o h n1 n2 => s6 _ _ (x5 _ _ (k04 b o h n1) n2)
end
end
section
open PySem PySem.Spec L2
def spLawT (K : PySem.W.Frag) (Ts : List (Addr × Str)) : Sp := fun vs H Q _ => ∃ (a : Addr) (ns : List Int), vs = [.ref a] ∧ SqL K H a (ns.map V.int) ∧ ns.length ≤ 63 ∧ LamX.Tabs Ts H ∧ ∀ H', Q (.bl true) H'
theorem flat_le23 : ∀ {S : List (List Nat)}, (∀ l ∈ S, l.length ≤ 1) → S.flatten.length ≤ S.length
  | [], _ => Nat.le_refl _
  | l :: S, h => by
    have h1 := h l (.head _)
    have h2 := flat_le23 fun m hm => h m (.tail _ hm)
    rw [List.flatten_cons, List.length_append, List.length_cons]
    omega
theorem e_chain23 {r r' : R2} {ta tb tc : TE} {σ : L2.St} {H : Hp} {Q : VK} (q : ta σ H fun x H1 => tb σ H1 fun y H2 => r x y H2 fun z H3 => ∃ k, z = .bl k ∧ if k = true then tc σ H3 fun w H4 => r' y w H4 Q else Q (.bl false) H3) : tChain r r' ta tb tc σ H Q := q
theorem kx_split {p : Addr} {H H' : Hp} (h : ∀ b o, H b = some o → b ≠ p → (∀ ps, o ≠ .tbl ps) → H' b = some o) : ∃ Hm, Keep p H Hm ∧ LamX.ExtN Hm H' := by
  refine ⟨fun b => if b = p then H' b else H b, fun b o e n => ?_, fun b o e n => ?_⟩
  · show (if b = p then H' b else H b) = some o
    rw [if_neg n]
    exact e
  · have e : (if b = p then H' b else H b) = some o := e
    by_cases z : b = p
    · rwa [if_pos z] at e
    · rw [if_neg z] at e
      exact h b o e z n
section
variable {P : Program} {w : World} {K : PySem.W.Frag} {mg : Str → Option Value} {base : Heap} {C R O B EL IK SK G e0 : Addr} {st2 st3 : Stmt} {Ts : List (Addr × Str)}
abbrev stlaw : Stmt := (top 69)
abbrev Nlaw : List Str := ["_law_script", "_law_pen_here", "_law_again", "_law_table", "_law_floor_here", "_law_first", "_law_mine", "_law_yours", "_law_second", "_law_block", "_law_far_block", "_law_walk_here", "_law_apart", "_law_k"]
theorem sclaw : FnScope Nlaw ["_law_script"] (defScope stlaw) := ⟨rfl, rfl, rfl, by decide +kernel, rfl, by decide +kernel, by decide +kernel⟩

theorem ok_law {f : Addr} {fd : FuncData} (F : Fun K "law" "law" stlaw f fd) (T : TxtK23 P K mg C R O B EL IK SK G st2 st3) (kt : ∀ H : Hp, SeqO K H e0 []) (D_pen : Def P w K mg base CX0 1 "_law_pen" ["_law_script"] (spPen K)) (D_draw : Def P w K mg base CX0 1 "_law_draw" ["_law_pen_here", "_law_number"] spDraw) (D_pick : Def P w K mg base CX0 2 "_law_pick" ["_law_pen_here", "_law_items"] spPick) (D_floor : Def P w K mg base CX0 3 "_law_floor" ["_law_pen_here", "_law_number"] spFloor) (D_made : Def P w K mg base CX0 5 "_law_made" ["_law_pen_here", "_law_table"] (spMade C)) (D_walk : Def P w K mg base CX0 3 "_law_walk" ["_law_pen_here", "_law_table", "_law_number"] spWalk)
    (D_begun : Def P w K mg base CX0 4 "_law_begun" ["_law_pen_here", "_law_table", "_law_number", "_law_size"] spBegun) (D_subset : Def P w K mg base CX0 3 "_law_subset" ["_law_pen_here", "_law_table"] spSubset) (D_plain : Def P w K mg base CX0 1 "_law_plain" ["_law_table"] spPlain)
    (D_is_block : Def P w K mg base CX0 5 "_law_is_block" ["_law_table", "_law_told", "_law_walk_here", "_law_kinds_here"] (spIsBlock C R B)) (D_listed_right : Def P w K mg base CX0 9 "_law_listed_right" ["_law_table", "_law_told", "_law_first", "_law_mine"] (spListedR C R B Ts)) (D_holds_right : Def P w K mg base CX0 9 "_law_holds_right" ["_law_table", "_law_floor_here", "_law_told", "_law_first", "_law_mine", "_law_walk_here"] (spHolds C R B)) (D_met_right : Def P w K mg base CX0 10 "_law_met_right" ["_law_table", "_law_block", "_law_far_block", "_law_first", "_law_second"] (spMet C R B))
    (D_apart_right : Def P w K mg base CX0 12 "_law_apart_right" ["_law_pen_here", "_law_block"] (spApart C R B Ts)) (D_errors_right : Def P w K mg base CX0 9 "_law_errors_right" ["_law_pen_here", "_law_floor_here", "_law_here", "_law_kinds_here"] (spErrors C R Ts))
    (C_Room : CDef P w K mg base CX0 3 "Room" R (spRoom C R)) (C_Block : CDef P w K mg base CX0 5 "Block" B (spBlock C R B)) (C_Block_0_kinds_room : CDefN P w K mg base CX0 5 "Block" B (spBlock C R B) 0 ["kinds", "room"] [.kw 1, .kw 0] []) (C_Plan_1 : CDefN P w K mg base CX0 3 "Plan" C (spPlan K C) 1 [] [.pos 0, .dfl 0] [.ref e0]) (M_Block_eq : MDef P w K mg base CX0 3 B "__eq__" ["self", "other"] (spBlockEq C R B)) (M_Block_and : MDef P w K mg base CX0 9 B "__and__" ["self", "other"] (calmOf (spBlockAnd C R B O))) (M_Block_le : MDef P w K mg base CX0 9 B "__le__" ["self", "other"] (calmOf (spBlockLe C R B O))) :
    FnOk P w K mg base CX0 13 f fd ["_law_script"] (spLawT K Ts) := by
  refine F.ok sclaw (fun vs H Q E h => ?_) (fun cdv A outer s H vs Q E hr h => ?_)
  · obtain ⟨a, ns, rfl, _⟩ := h
    rfl
  obtain ⟨sc, ns, rfl, ha, hn, t0, k⟩ := h
  have hu := hu_of hr
  have nd := sclaw.nd
  replace D_pen := D_pen.mono (show 1 ≤ 12 by decide)
  replace D_draw := D_draw.mono (show 1 ≤ 12 by decide)
  replace D_pick := D_pick.mono (show 2 ≤ 12 by decide)
  replace D_floor := D_floor.mono (show 3 ≤ 12 by decide)
  replace D_made := D_made.mono (show 5 ≤ 12 by decide)
  replace D_walk := D_walk.mono (show 3 ≤ 12 by decide)
  replace D_begun := D_begun.mono (show 4 ≤ 12 by decide)
  replace D_subset := D_subset.mono (show 3 ≤ 12 by decide)
  replace D_plain := D_plain.mono (show 1 ≤ 12 by decide)
  replace D_is_block := D_is_block.mono (show 5 ≤ 12 by decide)
  replace D_listed_right := D_listed_right.mono (show 9 ≤ 12 by decide)
  replace D_holds_right := D_holds_right.mono (show 9 ≤ 12 by decide)
  replace D_met_right := D_met_right.mono (show 10 ≤ 12 by decide)
  replace D_errors_right := D_errors_right.mono (show 9 ≤ 12 by decide)
  replace C_Room := C_Room.mono (show 3 ≤ 11 by decide)
  replace C_Block := C_Block.mono (show 5 ≤ 11 by decide)
  replace C_Block_0_kinds_room := C_Block_0_kinds_room.mono (show 5 ≤ 11 by decide)
  replace C_Plan_1 := C_Plan_1.mono (show 3 ≤ 11 by decide)
  replace M_Block_eq := M_Block_eq.mono (show 3 ≤ 12 by decide)
  replace M_Block_and := M_Block_and.mono (show 9 ≤ 12 by decide)
  replace M_Block_le := M_Block_le.mono (show 9 ≤ 12 by decide)
  refine ⟨_, (pss_cons (ps_set (i := 1) nd rfl (Or.inr rfl) (pe_cd D_pen hr pass0 (pa_cons (pv 0) pa_nil)))
      (pss_cons (ps_for PassesOwn.never rfl (pi_range1 (by rfl) T.range (pa_cons (pe_op op_add pe_int (pe_callB (call_min2 rfl) (by rfl) T.min (by decide +kernel) (pa_cons pe_int (pa_cons (pe_callB (c_lenK (K := K) rfl) (by rfl) T.len PySem.boot_len (pa_cons (pv 0) pa_nil)) pa_nil)))) pa_nil)) (pg_name (i := 2) nd rfl (Or.inl rfl))
      (pss_cons (ps_set (i := 3) nd rfl (Or.inl rfl) (pe_cd D_floor hr pass0 (pa_cons (pv 1) (pa_cons pe_int pa_nil))))
        (pss_cons (ps_par (i := 4) (j := 5) (by rfl) nd rfl rfl (by decide) rfl rfl (pa_cons (pe_cd D_made hr pass0 (pa_cons (pv 1) (pa_cons (pv 3) pa_nil))) (pa_cons (pe_cd D_begun hr pass0 (pa_cons (pv 1) (pa_cons (pv 3) (pa_cons pe_int (pa_cons pe_int pa_nil))))) pa_nil)) (by rfl))
        (pss_cons (ps_asg (pe_tup (pa_cons (pe_cd D_subset hr pass0 (pa_cons (pv 1) (pa_cons (pv 3) pa_nil))) (pa_cons (pe_cd D_subset hr pass0 (pa_cons (pv 1) (pa_cons (pv 3) pa_nil))) pa_nil))) (pg_tup rfl (pgs_cons (pg_name (i := 6) nd rfl (Or.inr rfl)) (pgs_cons (pg_name (i := 7) nd rfl (Or.inr rfl)) pgs_nil))))
        (pss_cons (ps_set (i := 8) nd rfl (Or.inl rfl) (pe_op op_addS (pv 5) (pe_joinK (K := K) rfl (pe_tx [] (by decide +kernel)) (pe_lc (own := [("_law_k", 13)]) (g := gName 13) (by rfl) nd (pi_range1 (by rfl) T.range (pa_cons (pe_cd D_draw hr pass0 (pa_cons (pv 1) (pa_cons pe_int pa_nil))) pa_nil)) (blkOk_by (own := [("_law_k", 13)]) (N := Nlaw) (sc := defScope stlaw) (by decide +kernel)) (fun _ _ _ _ _ => (pg_name (i := 13) nd rfl (Or.inl rfl))) (fun _ _ _ _ _ => pts_nil) (fun _ _ _ _ _ => (pe_cd D_pick hr pass0 (pa_cons (pv 1) (pa_cons (pe_op op_cat1 (pe_callTy c_listS (by rfl) T.list (by decide +kernel) (pa_cons (pe_op op_addS (pv 6) (pv 7)) pa_nil)) (pe_lst (pa_cons (pe_tx [] (by decide +kernel)) pa_nil))) pa_nil))))))))
        (pss_cons (ps_set (i := 8) nd rfl (Or.inl rfl) (pe_cd D_pick hr pass0 (pa_cons (pv 1) (pa_cons (pe_lst (pa_cons (pv 8) (pa_cons (pv 8) (pa_cons (pe_cd D_walk hr pass0 (pa_cons (pv 1) (pa_cons (pv 3) (pa_cons pe_int pa_nil)))) pa_nil)))) pa_nil))))
        (pss_cons (ps_set (i := 9) nd rfl (Or.inl rfl) (pe_mk C_Block hr pass0 (pa_cons (pe_mk C_Room hr pass0 (pa_cons (pv 4) (pa_cons (pv 5) pa_nil))) (pa_cons (pv 6) pa_nil))))
        (pss_cons (ps_set (i := 10) nd rfl (Or.inl rfl) (pe_mkN0 C_Block_0_kinds_room hr pass0 (pk_cons (pv 7) (pk_cons (pe_mk C_Room hr pass0 (pa_cons (pe_cd D_made hr pass0 (pa_cons (pv 1) (pa_cons (pv 3) pa_nil))) (pa_cons (pv 8) pa_nil))) pk_nil))))
        (pss_cons (ps_if (PW.pt (pw_or (pt_not (pt_val (pe_cd D_is_block hr pass0 (pa_cons (pv 3) (pa_cons (pv 9) (pa_cons (pv 5) (pa_cons (pv 6) pa_nil))))))) (pw_or1 (pt_not (pt_val (pe_cd D_is_block hr pass0 (pa_cons (pv 3) (pa_cons (pv 10) (pa_cons (pv 8) (pa_cons (pv 7) pa_nil))))))))))
        (pss_one (ps_ret pe_bl))
        pss_nil)
        (pss_cons (ps_if (pt_not (pt_val (pe_cd D_listed_right hr pass0 (pa_cons (pv 3) (pa_cons (pv 9) (pa_cons (pv 5) (pa_cons (pv 6) pa_nil)))))))
        (pss_one (ps_ret pe_bl))
        pss_nil)
        (pss_cons (ps_for PassesOwn.never rfl (pi_listK (K := K) rfl (pe_lst (pa_cons (pe_tx [] (by decide +kernel)) (pa_cons (pv 5) (pa_cons (pv 8) (pa_cons (pe_op op_addS (pv 8) (pe_slice sl_S (pv 5) po_none (po_some pe_int))) (pa_cons (pe_op op_addS (pv 5) (pv 6)) (pa_cons (pe_op op_addS (pe_op op_addS (pv 5) (pe_revS (pv 6))) (pv 7)) pa_nil)))))))) (pg_name (i := 11) nd rfl (Or.inl rfl))
        (pss_one (ps_if (pt_not (pt_val (pe_cd D_holds_right hr pass0 (pa_cons (pv 3) (pa_cons (pv 4) (pa_cons (pv 9) (pa_cons (pv 5) (pa_cons (pv 6) (pa_cons (pv 11) pa_nil)))))))))
          (pss_one (ps_ret pe_bl))
          pss_nil)))
        (pss_cons (ps_if (pt_not (pt_val (pe_cd D_met_right hr pass0 (pa_cons (pv 3) (pa_cons (pv 9) (pa_cons (pv 10) (pa_cons (pv 5) (pa_cons (pv 8) pa_nil))))))))
        (pss_one (ps_ret pe_bl))
        pss_nil)
        (pss_cons (ps_if (PW.pt (pw_or (pt_not (pt_val (pe_cd D_met_right hr pass0 (pa_cons (pv 3) (pa_cons (pv 10) (pa_cons (pv 9) (pa_cons (pv 8) (pa_cons (pv 5) pa_nil)))))))) (pw_or1 (pt_not (pt_val (pe_cd D_apart_right hr pass0 (pa_cons (pv 1) (pa_cons (pv 9) pa_nil))))))))
        (pss_one (ps_ret pe_bl))
        pss_nil)
        (pss_cons (ps_if (pt_not (pt_val (pe_cd D_errors_right hr pass0 (pa_cons (pv 1) (pa_cons (pv 4) (pa_cons (pe_mk C_Room hr pass0 (pa_cons (pv 4) (pa_cons (pv 5) pa_nil))) (pa_cons (pv 6) pa_nil)))))))
        (pss_one (ps_ret pe_bl))
        pss_nil)
        (pss_cons (ps_set (i := 12) nd rfl (Or.inl rfl) (pe_mk C_Block hr pass0 (pa_cons (pe_mk C_Room hr pass0 (pa_cons (pe_mkN C_Plan_1 hr pass0 (pa_cons (pe_joinD rfl (pe_tx [] (by decide +kernel)) (pv 3)) pa_nil) pk_nil) (pa_cons (pv 5) pa_nil))) (pa_cons (pv 6) pa_nil))))
        (pss_cons (ps_if (pt_not (pt_val (pe_cd D_is_block hr pass0 (pa_cons (pe_cd D_plain hr pass0 (pa_cons (pv 3) pa_nil)) (pa_cons (pv 12) (pa_cons (pv 5) (pa_cons (pv 6) pa_nil)))))))
        (pss_one (ps_ret pe_bl))
        pss_nil)
        (pss_one (ps_if (PW.pt (pw_or (pt_not (pt_val (pe_cd D_listed_right hr pass0 (pa_cons (pe_cd D_plain hr pass0 (pa_cons (pv 3) pa_nil)) (pa_cons (pv 12) (pa_cons (pv 5) (pa_cons (pv 6) pa_nil))))))) (pw_or1 (pt_not (pt_chain (op_cmpM (op := .Eq) (fun _ _ => rfl) M_Block_eq hr pass0) (op_cmpM (op := .LtE) (fun _ _ => rfl) M_Block_le hr pass0) (pe_op (op_andM2 M_Block_and T.Block_sf hr pass0) (pv 9) (pv 9)) (pv 9) (pv 9))))))
        (pss_one (ps_ret pe_bl))
        pss_nil))))))))))))))))))
      (pss_one (ps_ret pe_bl)))), ?_⟩
  refine s_start [some _, none, none, none, none, none, none, none, none, none, none, none, none, none] rfl ?_
  walk_at "go"
  refine ⟨sc, ns, rfl, ha, hn, fun g H1 p1 s1 hg => ?_⟩
  walk_at "go"
  refine ⟨sc, _, rfl, .inl (sqL_same ha s1), ?_⟩
  walk_at "go"
  refine ⟨_, _, rfl, ?_⟩
  walk_at "go"
  have hm : (2 + (if ((ns.map V.int).length : Int) < 4 then ((ns.map V.int).length : Int) else 4)).toNat ≤ 6 := by split <;> omega
  refine for_it (walk_rI (fun i => ((i : Nat) : Int)) (fun k => Int.zero_add _)) (fun i σ H' => ∃ x2 x3 x4 x5 x6 x7 x8 x9 x10 x11 x12 x13, σ = [some (.ref sc), some (.ref g.p), x2, x3, x4, x5, x6, x7, x8, x9, x10, x11, x12, x13] ∧ PenAt g H' (5000 * i) ∧ LamX.Tabs Ts H') ⟨_, _, _, _, _, _, _, _, _, _, _, _, rfl, p1, tabs_same t0 s1⟩ (fun _ _ _ _ _ => trivial) ?_ ?_
  · rintro i v σ H2 H3 hi ⟨x2, x3, x4, x5, x6, x7, x8, x9, x10, x11, x12, x13, rfl, p3, t3⟩ ⟨rfl, rfl⟩
    refine g_nm ?_
    refine s_hide fun Dn hDn => ?_
    walk_at "go"
    refine ⟨g, 5000 * i, 6, rfl, by omega, by omega, p3, by omega, fun d ls rel H4 hd flr e4 p4 k4 => ?_⟩
    have t4 := tabs_pen t3 p3 k4
    have fl := flr.fl
    have nq : 113 ∉ ls := by
      obtain ⟨t, ht, m, _, _, rfl⟩ := flr.cut
      have aq : ∀ t ∈ ABC, 113 ∉ t := by decide +kernel
      exact fun z => aq t ht (List.mem_of_mem_take z)
    have ndp : d ≠ g.p := by
      obtain ⟨a, b, h1, _⟩ := p3.ex
      exact (ne_of_none h1 hd).symm
    generalize crossBy ls rel = fn at fl e4
    have tab := fl.tab
    have ok := fl.ok
    have l8 := tab.len
    walk_at "go"
    refine ⟨g, _, d, ls, fn, rfl, p4, by omega, ndp, e4, tab, fun x H5 hx k5 p5 pl5 of5 => ?_⟩
    have t5 := tabs_pen t4 p4 k5
    have e5 := k5 _ _ e4 ndp
    clear e4 p4 k4 t4 t3 p3
    walk_at "go"
    refine ⟨g, _, d, ls, fn, 14, 60, rfl, p5, by omega, ndp, e5, tab, fl.pos, by omega, by omega, fun f1 H6 m1 l1 p6 k6 => ?_⟩
    have t6 := tabs_pen t5 p5 k6
    have e6 := k6 _ _ e5 ndp
    have pl6 := pl5.pen p5 k6
    walk_at "go"
    refine ⟨g, _, d, ls, fn, rfl, p6, by omega, ndp, e6, tab, fun A0 H7 nA mA p7 k7 => ?_⟩
    have t7 := tabs_pen t6 p6 k7
    have e7 := k7 _ _ e6 ndp
    walk_at "go"
    refine ⟨g, _, d, ls, fn, rfl, p7, by omega, ndp, e7, tab, fun B0 H8 nB mB p8 k8 => ?_⟩
    have t8 := tabs_pen t7 p7 k8
    have e8 := k8 _ _ e7 ndp
    have pl8 := (pl6.pen p6 k7).pen p7 k8
    have l1' : f1.length ≤ 60 := by omega
    have lA : A0.length ≤ 8 := Nat.le_trans (List.Nodup.length_le_of_subset nA fun k hk => mA k hk) l8
    have lB : B0.length ≤ 8 := Nat.le_trans (List.Nodup.length_le_of_subset nB fun k hk => mB k hk) l8
    clear e5 e6 e7 p5 p6 p7 k5 k6 k7 k8 t5 t6 t7 pl5 pl6 of5
    walk_at "go"
    intro tp H9 htp s9 g9
    refine v_gTup2 rfl g9 ?_
    have t9 := tabs_same t8 s9
    have p9 := p8.same s9
    have e9 := s9 _ _ e8
    have pl9 := pl8.same s9
    clear g9 s9 t8 p8 e8 pl8
    refine (show tSeq _ _ _ [some (.ref sc), some (.ref g.p), some (.int (i : Nat)), some (.ref d), some (.ref x), some (.str (tx f1)), some (.str (tx A0)), some (.str (tx B0)), x8, x9, x10, x11, x12, x13] _ from ?_)
    walk_at "go"
    refine ⟨g, 6, _, rfl, by decide, by decide, p9, by omega, fun z H10 z0 z1 p10 k10 => ?_⟩
    have t10 := tabs_pen t9 p9 k10
    have e10 := k10 _ _ e9 ndp
    have pl10 := pl9.pen p9 k10
    clear p9 k10 e9 pl9 t9
    walk_at "go"
    intro D hD
    have nD := p10.p_ne hD
    have nC := p10.cl_ne hD
    have lAB : A0.length + B0.length ≤ 1000000 := by omega
    refine lc_it (walk_rI (fun i => ((i : Nat) : Int)) (fun k => Int.zero_add _)) (fun k H' => Keep g.p H10 H' ∧ PenAt g H' (5000 * i + 600 + k) ∧ ∃ S : List (List Nat), H' D = some (.lst (strsV S)) ∧ S.length = k ∧ ∀ l ∈ S, l.length ≤ 1 ∧ ∀ c ∈ l, c ∈ ls) ⟨Keep.of (Same.new hD), (p10.same (Same.new hD)).mono (by omega), [], upd_same, rfl, fun _ z => nomatch z⟩ (fun _ _ _ _ => trivial) (fun k x H11 H12 hk p y => ?_) (fun H' p => ?_)
    · obtain ⟨k11, p11, S, e11, ek, hS⟩ := p
      obtain ⟨rfl, rfl⟩ := y
      refine ⟨wipe1, ?_⟩
      walk_at "go"
      refine v_listS (by rw [List.length_append]; omega) fun q1 H12 hq1 s12 g12 => ?_
      walk_at "go"
      intro q2 H13 hq2 s13 g13
      refine v_cat (s13 _ _ g12) g13 (by simp only [List.length_map, List.length_append, List.length_cons, List.length_nil]; omega) fun q3 H14 hq3 s14 g14 => ?_
      have s1114 := (s12.trans s13).trans s14
      have p14 := p11.same s1114
      walk_at "go"
      refine ⟨g, _, q3, _, rfl, g14, by rw [List.length_append]; exact Nat.succ_pos _, by simp only [List.length_map, List.length_append, List.length_cons, List.length_nil]; omega, p14, by omega, ?_, fun v H15 hv p15 k15 => ?_⟩
      · obtain ⟨a1, b1, h1, _⟩ := p14.ex
        intro z
        rw [z, h1] at g14
        cases g14
      obtain ⟨l', rfl, hl', ml'⟩ : ∃ l', v = V.str (tx l') ∧ l'.length ≤ 1 ∧ ∀ c ∈ l', c ∈ ls := by
        rcases List.mem_append.mp hv with z | z
        · obtain ⟨c, hc, rfl⟩ := List.mem_map.mp z
          exact ⟨[c], rfl, Nat.le_refl _, fun y hy => by
            rw [List.mem_singleton.mp hy]
            exact (List.mem_append.mp hc).elim (mA c) (mB c)⟩
        · rw [List.mem_singleton.mp z]
          exact ⟨[], rfl, by simp, fun _ z => nomatch z⟩
      have e15 := k15 _ _ (s1114 _ _ e11) nD.symm
      walk_at "go"
      refine ⟨_, e15, szlt (by unfold strsV; rw [List.length_map]; omega), fun b o hb nb => ?_, (p15.keep Keep.put nD nC).mono (by omega), S ++ [l'], by rw [upd_same]; unfold strsV; rw [List.map_append]; rfl, by rw [List.length_append, ek]; rfl, fun l hl => ?_⟩
      · rw [upd_ne (ne_of_none hb hD)]
        exact k15 _ _ (s1114 _ _ (k11 _ _ hb nb)) nb
      · rcases List.mem_append.mp hl with y | y
        · exact hS l y
        · rw [List.mem_singleton.mp y]
          exact ⟨hl', ml'⟩
    obtain ⟨k11, p11, S, e11, ek, hS⟩ := p
    have sf := flat_le23 fun l hl => (hS l hl).1
    have t11 := tabs_pen t10 p10 k11
    have e12 := k11 _ _ e10 ndp
    have pl11 := pl10.pen p10 k11
    refine v_join e11 (by omega) ?_
    have lfs : f1.length + S.flatten.length ≤ 1000000 := by omega
    walk_at "go"
    obtain ⟨f3, hf3⟩ : ∃ f3, f1 ++ S.flatten = f3 := ⟨_, rfl⟩
    have m3 : ∀ c ∈ f3, c ∈ ls := hf3 ▸ fun c hc => (List.mem_append.mp hc).elim (m1 c) fun z => by
      obtain ⟨l, hl, hc⟩ := List.mem_flatten.mp z
      exact (hS l hl).2 c hc
    have l3 : f3.length ≤ 70 := by rw [← hf3, List.length_append]; omega
    rw [hf3]
    have p11 := p11.mono (show 5000 * i + 600 + z.toNat ≤ 5000 * i + 700 by omega)
    clear hf3 lfs sf hS e11 ek k11 e10 pl10 t10 p10 nD nC hD
    refine ⟨g, _, d, ls, fn, 14, rfl, p11, by omega, ndp, e12, tab, fl.pos, by decide, fun w2 H12 mw2 lw2 p12 k12 => ?_⟩
    have t12 := tabs_pen t11 p11 k12
    have e13 := k12 _ _ e12 ndp
    have pl12 := pl11.pen p11 k12
    walk_at "go"
    intro q4 H13 hq4 s13 e14
    have p13 := p12.same s13
    have nq4 : q4 ≠ g.p := (p12.p_ne hq4).symm
    refine ⟨g, _, q4, _, rfl, e14, by simp, by simp, p13, by omega, nq4, fun v H14 hv p14 k14 => ?_⟩
    have t14 := tabs_pen (tabs_same t12 s13) p13 k14
    obtain ⟨f2, rfl, l2, m2⟩ : ∃ f2, v = V.str (tx f2) ∧ f2.length ≤ 70 ∧ ∀ c ∈ f2, c ∈ ls := by
      simp only [List.mem_cons, List.not_mem_nil, or_false] at hv
      rcases hv with rfl | rfl | rfl
      · exact ⟨f3, rfl, l3, m3⟩
      · exact ⟨f3, rfl, l3, m3⟩
      · exact ⟨w2, rfl, by omega, mw2⟩
    have e15 := k14 _ _ (s13 _ _ e13) ndp
    have pl14 := (pl12.same s13).pen p13 k14
    have p14 := p14.mono (show _ ≤ 5000 * i + 1000 by omega)
    clear hv e13 e14 e12 p11 p12 p13 pl11 pl12 k12 k14 t11 t12 s13 m3 l3 mw2 lw2 nq4 hq4
    refine (show tSeq _ _ _ [some (.ref sc), some (.ref g.p), some (.int (i : Nat)), some (.ref d), some (.ref x), some (.str (tx f1)), some (.str (tx A0)), some (.str (tx B0)), some (.str (tx f2)), x9, x10, x11, x12, x13] _ from ?_)
    walk_at "go"
    have n1l := name_len fn f1
    have n2l := name_len fn f2
    refine sp_room fl pl14 m1 (by omega) fun ra H15 hra s15 ro15 => ?_
    walk_at "go"
    refine sp_block (n := nameOf fn f1) fl ro15 (pl14.same s15) (name_NF ok f1) (memN m1) (by omega) mA nA fun ba rba H16 hba s16 ba16 => ?_
    have s1416 := s15.trans s16
    walk_at "go"
    refine e_CN ?_
    walk_at "go"
    refine ⟨g, _, d, ls, fn, rfl, p14.same s1416, by omega, ndp, s1416 _ _ e15, tab, fun y H17 hy k17 p17 ply _ => ?_⟩
    have t17 := tabs_pen (tabs_same t14 s1416) (p14.same s1416) k17
    have e17 := k17 _ _ (s1416 _ _ e15) ndp
    have ba17 := ba16.pen (p14.same s1416) k17
    have pl17 := (pl14.same s1416).pen (p14.same s1416) k17
    walk_at "go"
    refine sp_room fl ply m2 (by omega) fun rb H18 hrb s18 ro18 => ?_
    walk_at "go"
    refine ⟨rfl, rfl, ?_⟩
    refine sp_block (n := nameOf fn f2) fl ro18 (ply.same s18) (name_NF ok f2) (memN m2) (by omega) mB nB fun bb rbb H19 hbb s19 bb19 => ?_
    have s1719 := s18.trans s19
    have ba20 : BlkF C R B H19 ba rba x ls fn (baseC fn (kindsL ls A0) (nameOf fn f1)) (kindsL ls A0) := ba17.same s1719
    have bb20 : BlkF C R B H19 bb rbb y ls fn (baseC fn (kindsL ls B0) (nameOf fn f2)) (kindsL ls B0) := bb19
    have e19 := s1719 _ _ e17
    have p19 := p17.same s1719
    have pl19 := pl17.same s1719
    have t19 := tabs_same t17 s1719
    clear ba16 ba17 bb19 ro15 ro18 ply pl14 pl17 p14 p17 e15 e17 t14 t17 s15 s16 s18 s19 s1416 s1719 k17
    have kA := kindsL_mem mA
    have kB := kindsL_mem mB
    have mKA := ba20.mK
    have mKB := bb20.mK
    refine (show tSeq _ _ _ [some (.ref sc), some (.ref g.p), some (.int (i : Nat)), some (.ref d), some (.ref x), some (.str (tx f1)), some (.str (tx A0)), some (.str (tx B0)), some (.str (tx f2)), some (.ref ba), some (.ref bb), x11, x12, x13] _ from ?_)
    walk_at "go"
    refine ⟨d, ba, rba, x, ls, fn, _, _, f1, A0, rfl, e19, fl, ba20, m1, by omega, fun c _ => kA c, fun c hc => (kA c).mpr (block_only ok _ f1 c hc), base_free ok _ _, fun H21 s21 => ?_⟩
    walk_at "go"
    refine ⟨d, bb, rbb, y, ls, fn, _, _, f2, B0, rfl, s21 _ _ e19, fl, bb20.same s21, m2, by omega, fun c _ => kB c, fun c hc => (kB c).mpr (block_only ok _ f2 c hc), base_free ok _ _, fun H22 s22 => ?_⟩
    have s1922 := s21.trans s22
    walk_at "go"
    refine ⟨d, ba, rba, x, ls, fn, f1, A0, rfl, tabs_same t19 s1922, s1922 _ _ e19, fl, m1, by omega, mA, nA, ba20.same s1922, fun H23 x23 t23 => ?_⟩
    have x1923 := (ext_of s1922).trans x23
    have e23 := x1923 _ _ e19 fun ps z => nomatch z
    have ba23 := ba20.ext x1923
    have bb23 := bb20.ext x1923
    have p23 := p19.ext x1923
    have pl23 := pl19.ext x1923
    clear e19 ba20 bb20 p19 pl19 t19 x1923 s1922 s21 s22 x23
    have lsec : f2.length + (f1.take 3).length ≤ 1000000 := by rw [List.length_take]; omega
    have lf1A : f1.length + A0.length ≤ 1000000 := by omega
    have lf1R : f1.length + A0.reverse.length ≤ 1000000 := by rw [List.length_reverse]; omega
    have lf1RB : (f1 ++ A0.reverse).length + B0.length ≤ 1000000 := by rw [List.length_append, List.length_reverse]; omega
    walk_at "go"
    refine v_slTo (by omega) (by decide) ?_
    rw [show (Int.toNat 3) = 3 from rfl]
    walk_at "go"
    intro q5 H24 hq5 s24 e24
    have walks : ∀ v ∈ [V.str (tx []), V.str (tx f1), V.str (tx f2), V.str (tx (f2 ++ f1.take 3)), V.str (tx (f1 ++ A0)), V.str (tx (f1 ++ A0.reverse ++ B0))], ∃ W, v = V.str (tx W) ∧ W.length ≤ 300 ∧ ∀ c ∈ W, c ∈ ls := by
      intro v hv
      simp only [List.mem_cons, List.not_mem_nil, or_false] at hv
      rcases hv with rfl | rfl | rfl | rfl | rfl | rfl
      · exact ⟨[], rfl, by simp, fun _ z => nomatch z⟩
      · exact ⟨f1, rfl, by omega, m1⟩
      · exact ⟨f2, rfl, by omega, m2⟩
      · exact ⟨_, rfl, by rw [List.length_append, List.length_take]; omega, fun c hc => (List.mem_append.mp hc).elim (m2 c) fun z => m1 c (List.mem_of_mem_take z)⟩
      · exact ⟨_, rfl, by rw [List.length_append]; omega, fun c hc => (List.mem_append.mp hc).elim (m1 c) (mA c)⟩
      · exact ⟨_, rfl, by rw [List.length_append, List.length_append, List.length_reverse]; omega, fun c hc => (List.mem_append.mp hc).elim (fun z => (List.mem_append.mp z).elim (m1 c) fun z => mA c (List.mem_reverse.mp z)) (mB c)⟩
    walk_at "go"
    refine for_it (walk_list (K := K) (a := q5) (xs := [V.str (tx []), V.str (tx f1), V.str (tx f2), V.str (tx (f2 ++ f1.take 3)), V.str (tx (f1 ++ A0)), V.str (tx (f1 ++ A0.reverse ++ B0))])) (fun j σ H' => ∃ z11, σ = [some (.ref sc), some (.ref g.p), some (.int (i : Nat)), some (.ref d), some (.ref x), some (.str (tx f1)), some (.str (tx A0)), some (.str (tx B0)), some (.str (tx f2)), some (.ref ba), some (.ref bb), z11, x12, x13] ∧ Same H24 H') ⟨_, rfl, Same.refl _⟩ ?_ ?_ ?_
    · rintro j σ H' _ ⟨_, rfl, s'⟩
      exact SqL.of (s' _ _ e24)
    · rintro j v σ H25 H26 hj ⟨z11, rfl, s25⟩ ⟨rfl, hv⟩
      obtain ⟨W, rfl, lW, mW⟩ := walks v (List.mem_of_getElem? hv)
      have s2325 := s24.trans s25
      walk_at "go"
      refine ⟨d, x, ba, rba, ls, fn, f1, A0, W, rfl, s2325 _ _ e23, fl, m1, mW, by omega, lW, mA, nA, ba23.same s2325, fun H27 s27 => ?_⟩
      walk_at "go"
      exact ⟨_, rfl, s25.trans s27⟩
    rintro σ H25 ⟨z11, rfl, s25⟩
    have s2325 := s24.trans s25
    have e25 := s2325 _ _ e23
    have ba25 := ba23.same s2325
    have bb25 := bb23.same s2325
    have p25 := p23.same s2325
    have pl25 := pl23.same s2325
    have t25 := tabs_same t23 s2325
    clear e23 ba23 bb23 p23 pl23 t23 s2325 s24 s25 e24 walks lsec lf1A lf1R lf1RB
    walk_at "go"
    refine ⟨d, ba, bb, rba, rbb, x, y, ls, fn, f1, f2, _, _, rfl, e25, fl, m1, m2, by omega, by omega, ba25, bb25, fun H26 s26 => ?_⟩
    walk_at "go"
    refine ⟨d, bb, ba, rbb, rba, y, x, ls, fn, f2, f1, _, _, rfl, s26 _ _ e25, fl, m2, m1, by omega, by omega, bb25.same s26, ba25.same s26, fun H27 s27 => ?_⟩
    have s2527 := s26.trans s27
    walk_at "go"
    refine ⟨g, _, ba, rba, x, ls, fn, _, _, rfl, tabs_same t25 s2527, p25.same s2527, by omega, fl, ba25.same s2527, nq, fun H28 n28 hn1 hn2 t28 p28 k28 => ?_⟩
    obtain ⟨Hm, km, xm⟩ := kx_split k28
    have pm := p25.same s2527
    have e28 := xm _ _ (km _ _ (s2527 _ _ e25) ndp) fun ps z => nomatch z
    have ba28 := ((ba25.same s2527).pen pm km).ext xm
    have pl28 := ((pl25.same s2527).pen pm km).ext xm
    clear e25 ba25 bb25 p25 pl25 t25 s2527 s26 s27 k28 km xm pm
    walk_at "go"
    refine sp_room fl pl28 m1 (by omega) fun r29 H29 hr29 s29 ro29 => ?_
    walk_at "go"
    refine ⟨g, n28, x, r29, ls, fn, _, A0, rfl, tabs_same t28 s29, p28.same s29, by omega, pl28.same s29, fl, ro29, mA, nA, fun H30 n30 hn3 hn4 t30 p30 k30 => ?_⟩
    obtain ⟨Hm, km, xm⟩ := kx_split k30
    have pm := p28.same s29
    have e30 := xm _ _ (km _ _ (s29 _ _ e28) ndp) fun ps z => nomatch z
    have ba30 := ((ba28.same s29).pen pm km).ext xm
    clear e28 ba28 pl28 t28 p28 s29 ro29 k30 km xm pm
    walk_at "go"
    refine e_CN ?_
    walk_at "go"
    refine v_joinD (g := fun c => V.str (tx (fn c))) e30 (by omega) ?_
    walk_at "go"
    refine ⟨rfl, rfl, ?_⟩
    refine ⟨ls, e0, [], rfl, ⟨kt _, by decide, fun _ z => (nomatch z), fl.tab.lt, fl.tab.nd, fl.tab.len⟩, fun z31 H31 hz31 s31 plz _ => ?_⟩
    have plz : PlanAt C H31 z31 (ascOf ls) (tabPairs ls fun _ => []) := by
      rw [tabPairs_plain]
      have e : prsOf [] = [] := by decide +kernel
      rw [e] at plz
      exact plz
    have f0 := fl.plain
    walk_at "go"
    refine sp_room f0 plz m1 (by omega) fun r32 H32 hr32 s32 ro32 => ?_
    walk_at "go"
    have n3l := name_len (fun _ => []) f1
    refine sp_block (n := nameOf (fun _ => []) f1) f0 ro32 (plz.same s32) (name_NF f0.ok f1) (memN m1) (by omega) mA nA fun bc rbc H33 hbc s33 bc33 => ?_
    have s3033 := (s31.trans s32).trans s33
    have bc33 : BlkF C R B H33 bc rbc z31 ls (fun _ => []) (baseC (fun _ => []) (kindsL ls A0) (nameOf (fun _ => []) f1)) (kindsL ls A0) := bc33
    have e33 := s3033 _ _ e30
    have ba33 := ba30.same s3033
    have p33 := p30.same s3033
    have t33 := tabs_same t30 s3033
    clear e30 ba30 p30 t30 s3033 s31 s32 s33 ro32 plz
    walk_at "go"
    refine ⟨d, ls, fn, rfl, e33, tab, fun dp H34 hdp s34 e34 => ?_⟩
    walk_at "go"
    refine ⟨dp, bc, rbc, z31, ls, _, _, _, f1, A0, rfl, e34, f0, bc33.same s34, m1, by omega, fun c _ => kA c, fun c hc => (kA c).mpr (block_only f0.ok _ f1 c hc), base_free f0.ok _ _, fun H35 s35 => ?_⟩
    have s3335 := s34.trans s35
    walk_at "go"
    refine ⟨d, ls, fn, rfl, s3335 _ _ e33, tab, fun dp2 H36 hdp2 s36 e36 => ?_⟩
    have s3336 := s3335.trans s36
    walk_at "go"
    refine ⟨dp2, bc, rbc, z31, ls, _, f1, A0, rfl, tabs_same t33 s3336, e36, f0, m1, by omega, mA, nA, bc33.same s3336, fun H37 x37 t37 => ?_⟩
    have x3337 := (ext_of s3336).trans x37
    have ba37 := ba33.ext x3337
    have p37 := p33.ext x3337
    clear e33 ba33 p33 t33 bc33 s3335 s3336 x3337 s34 s35 s36 e34 e36 x37
    have bs := base_self (ls := ls) ok mKA m1
    have bln := ba37.ln
    obtain ⟨_, _, _, _, bl0⟩ := base_spec ok (kindsL ls A0) (nameOf fn f1)
    have bnf := ba37.nf
    generalize baseC fn (kindsL ls A0) (nameOf fn f1) = N at *
    have es : nameOf fn (N ++ (splitA fn (kindsL ls A0) (wayC fn N N)).1) = N := by
      rw [way_self ok]
      show nameOf fn (N ++ []) = N
      rw [List.append_nil]
      exact (is_NF ok).mpr bnf
    have eb : bothK ls (kindsL ls A0) (kindsL ls A0) = kindsL ls A0 := by
      unfold bothK kindsL
      refine List.filter_congr fun c hc => decide_eq_decide.mpr ?_
      rw [List.mem_filter]
      exact ⟨fun z => of_decide_eq_true (List.mem_filter.mp z.1).2, fun z => have m := List.mem_filter.mpr ⟨hc, decide_eq_true z⟩; ⟨m, decide_eq_true m⟩⟩
    obtain ⟨⟨dx, g37⟩, ra37⟩ := ba37.blk
    walk_at "go"
    refine e_chain23 ?_
    walk_at "go"
    refine v_MP g37 g37 ⟨ba, rba, x, ba, rba, x, _, _, _, _, _, _, true, rfl, ba37.blk, ba37.blk, plans_of25 ba37.pl ba37.pl, (fun z => nomatch z), fun _ => ⟨ls, fn, _, fl, ba37, ba37, by omega, by omega, rfl, fun ne => ?_, fun _ a2 r2 H38 ha2 s38 bk38 => ?_⟩⟩
    · rw [es] at ne
      exact absurd bs ne
    rw [es, eb, bs] at bk38
    have ba38 := ba37.same s38
    obtain ⟨⟨dy, g38⟩, ra38⟩ := bk38.blk
    have bln2 := bk38.ln
    walk_at "go"
    refine v_M2 g38 (s38 _ _ g37) ⟨a2, r2, x, _, _, _, ba, rba, x, _, _, _, true, rfl, bk38.blk, ba38.blk, ⟨bk38.blk.ro, ba38.blk.ro, plans_of25 ba38.pl ba38.pl, by omega, by omega⟩, ?_⟩
    rw [Bool.true_and, decide_eq_true (show N = N from rfl), decide_eq_true (show kindsL ls A0 = kindsL ls A0 from rfl), Bool.true_and]
    refine ⟨true, rfl, ?_⟩
    refine iteT ?_
    walk_at "go"
    refine v_M2 (s38 _ _ g37) (s38 _ _ g37) ⟨ba, rba, x, ba, rba, x, _, _, _, _, _, _, true, rfl, ba38.blk, ba38.blk, plans_of25 ba38.pl ba38.pl, (fun z => nomatch z), fun _ => ⟨ls, fn, fl, ba38, ba38, fun H39 s39 => ?_⟩⟩
    rw [bs, decide_eq_true (show N = N from rfl), Bool.and_true, List.all_eq_true.mpr fun c hc => decide_eq_true hc]
    walk_at "go"
    have s3739 := s38.trans s39
    exact hDn _ _ ⟨_, _, _, _, _, _, _, _, _, _, _, _, rfl, (p37.same s3739).mono (by omega), tabs_same t37 s3739⟩
  · rintro σ H2 ⟨x2, x3, x4, x5, x6, x7, x8, x9, x10, x11, x12, x13, rfl, p2, t2⟩
    walk_at "go"
    exact k _
end
end
section
open PySem PySem.Spec L2
abbrev stIK : Stmt := (inClass (top 4) 0)
abbrev stSK : Stmt := (inClass (top 6) 0)
theorem end23 {w : World} {K : PySem.W.Frag} {mg : Str → Option Value} {C R B O EL IK SK G fa e0 c1 c2 c3 P1 P2 P3 : Addr} {fd : FuncData} {t1 t2 t3 : Tok} {dd0 : Option Addr} {n0 : Nat} {sl0 : Array (Option Value)}
    (c_Plan : ClsF K mg "Plan" C)
    (c_Room : ClsF K mg "Room" R)
    (c_Block : ClsF K mg "Block" B)
    (e_OtherPlan : ExcF K mg "OtherPlan" O)
    (e_Endless : ExcF K mg "Endless" EL)
    (E_InvalidKind : ExcE PySem.Challenge.pw_crosswalls_k23_blocks_of_rooms K mg "InvalidKind" IK "InvalidKind.__init__" stIK)
    (E_SameKind : ExcE PySem.Challenge.pw_crosswalls_k23_blocks_of_rooms K mg "SameKind" SK "SameKind.__init__" stSK)
    (F_stepped : FnAt K mg "stepped" ststepped)
    (F_joined : FnAt K mg "joined" stjoined)
    (F_turned_back : FnAt K mg "turned_back" stturned_back)
    (F_way_from : FnAt K mg "way_from" stway_from)
    (F_still_free : FnAt K mg "still_free" ststill_free)
    (F_split_ahead : FnAt K mg "split_ahead" stsplit_ahead)
    (F_without_end : FnAt K mg "without_end" stwithout_end)
    (F_is_list : FnAt K mg "is_list" stis_list)
    (F_is_kind : FnAt K mg "is_kind" stis_kind)
    (F_need_way : FnAt K mg "need_way" stneed_way)
    (F_need_same : FnAt K mg "need_same" stneed_same)
    (F_need_kinds : FnAt K mg "need_kinds" stneed_kinds)
    (F_all_cross : FnAt K mg "all_cross" stall_cross)
    (F_in_order : FnAt K mg "in_order" stin_order)
    (F_rooms_of : FnAt K mg "rooms_of" strooms_of)
    (F_are_letters : FnAt K mg "are_letters" stare_letters)
    (F_ascending : FnAt K mg "ascending" stascending)
    (F_checked_pairs : FnAt K mg "checked_pairs" stchecked_pairs)
    (F_need_few : FnAt K mg "need_few" stneed_few)
    (F_crossing_table : FnAt K mg "crossing_table" stcrossing_table)
    (F_pen : FnAt K mg "_law_pen" stpen)
    (F_draw : FnAt K mg "_law_draw" stdraw)
    (F_pick : FnAt K mg "_law_pick" stpick)
    (F_shuffled : FnAt K mg "_law_shuffled" stshuffled)
    (F_floor : FnAt K mg "_law_floor" stfloor)
    (F_made : FnAt K mg "_law_made" stmade)
    (F_walk : FnAt K mg "_law_walk" stwalk)
    (F_begun : FnAt K mg "_law_begun" stbegun)
    (F_units : FnAt K mg "_law_units" stunits)
    (F_through : FnAt K mg "_law_through" stthrough)
    (F_marks : FnAt K mg "_law_marks" stmarks)
    (F_backs : FnAt K mg "_law_backs" stbacks)
    (F_name : FnAt K mg "_law_name" stname)
    (F_plain : FnAt K mg "_law_plain" stplain)
    (F_only : FnAt K mg "_law_only" stonly)
    (F_subset : FnAt K mg "_law_subset" stsubset)
    (F_stripped : FnAt K mg "_law_stripped" ststripped)
    (F_is_block : FnAt K mg "_law_is_block" stis_block)
    (F_refused : FnAt K mg "_law_refused" strefused)
    (F_holds_right : FnAt K mg "_law_holds_right" stholds_right)
    (F_met_right : FnAt K mg "_law_met_right" stmet_right)
    (F_listed_right : FnAtC K mg "_law_listed_right" stlisted_right c1)
    (F_errors_right : FnAtC K mg "_law_errors_right" sterrors_right c2)
    (F_apart_right : FnAtC K mg "_law_apart_right" stapart_right c3)
    (F_law : Fun K "law" "law" stlaw fa fd)
    (F_Plan_eq : MAt K C "__eq__" "Plan.__eq__" stPlan_eq)
    (F_Plan_init : MAtD K C "__init__" "Plan.__init__" stPlan_init [.ref e0])
    (F_Room_init : MAtD K R "__init__" "Room.__init__" stRoom_init [.str (tx [])])
    (F_Block_init : MAt K B "__init__" "Block.__init__" stBlock_init)
    (F_Room_eq : MAt K R "__eq__" "Room.__eq__" stRoom_eq)
    (F_Room_add : MAt K R "__add__" "Room.__add__" stRoom_add)
    (F_Block_eq : MAt K B "__eq__" "Block.__eq__" stBlock_eq)
    (F_Block_contains : MAt K B "__contains__" "Block.__contains__" stBlock_contains)
    (F_Block_le : MAt K B "__le__" "Block.__le__" stBlock_le)
    (F_Block_and : MAt K B "__and__" "Block.__and__" stBlock_and)
    (F_Block_nearest : MAt K B "nearest" "Block.nearest" stBlock_nearest)
    (F_Block_listed : MAt K B "listed" "Block.listed" stBlock_listed)
    (z_len : mg "len" = none)
    (z_int : mg "int" = none)
    (z_list : mg "list" = none)
    (z_isinstance : mg "isinstance" = none)
    (z_str : mg "str" = none)
    (z_all : mg "all" = none)
    (z_set : mg "set" = none)
    (z_tuple : mg "tuple" = none)
    (z_enumerate : mg "enumerate" = none)
    (z_range : mg "range" = none)
    (z_min : mg "min" = none)
    (z_dict : mg "dict" = none)
    (z_sorted : mg "sorted" = none)
    (z_super : mg "super" = none)
    (n_C_kinds : NoAttr K C "kinds")
    (n_C_pairs : NoAttr K C "pairs")
    (n_C_own_crossing : NoAttr K C "own_crossing")
    (n_R_plan : NoAttr K R "plan")
    (n_R_name : NoAttr K R "name")
    (n_B_plan : NoAttr K B "plan")
    (n_B_kinds : NoAttr K B "kinds")
    (n_B_room : NoAttr K B "room")
    (n_B_many : NoAttr K B "many")
    (g_LETTERS : mg "LETTERS" = some (.str (tx LET) t1))
    (g_MOST_KINDS : mg "MOST_KINDS" = some (.int 8 t2))
    (g_MOST_LETTERS : mg "MOST_LETTERS" = some (.int 2000 t3))
    (g_FloorError : mg "FloorError" = some (.ref G))
    (ke0 : K.lookup e0 = some ⟨.type "tuple", dd0, .seq #[] n0, sl0⟩)
    (kRs : PySem.W.selfFirst K R = true)
    (kBs : PySem.W.selfFirst K B = true)
    (kKv : PySem.W.findIn K (.ref IK) "value" = some none)
    (kSk : PySem.W.findIn K (.ref SK) "kind" = some none)
    (kGc : PySem.W.isClsIn K G = true)
    (kGt : PySem.W.typeIn K (.ref G) = some (.type "type"))
    (kIKG : PySem.W.subIn K (.ref IK) (.ref G) = some true)
    (kSKG : PySem.W.subIn K (.ref SK) (.ref G) = some true)
    (kELG : PySem.W.subIn K (.ref EL) (.ref G) = some true)
    (kOG : PySem.W.subIn K (.ref O) (.ref G) = some true)
    (sIKIK : PySem.W.subIn K (.ref IK) (.ref IK) = some true)
    (sSKIK : PySem.W.subIn K (.ref SK) (.ref IK) = some false)
    (sSKSK : PySem.W.subIn K (.ref SK) (.ref SK) = some true)
    (sELIK : PySem.W.subIn K (.ref EL) (.ref IK) = some false)
    (sELSK : PySem.W.subIn K (.ref EL) (.ref SK) = some false)
    (sELEL : PySem.W.subIn K (.ref EL) (.ref EL) = some true)
    (sOIK : PySem.W.subIn K (.ref O) (.ref IK) = some false)
    (sOSK : PySem.W.subIn K (.ref O) (.ref SK) = some false)
    (sOEL : PySem.W.subIn K (.ref O) (.ref EL) = some false)
    (sOO : PySem.W.subIn K (.ref O) (.ref O) = some true)
    (kC1 : PySem.W.kitOne K (.ref C) (.type "str") = some false)
    (kR1 : PySem.W.kitOne K (.ref R) (.type "str") = some false)
    (kS1 : PySem.W.kitOne K (.type "str") (.ref R) = some false)
    (kN1 : PySem.W.kitOne K (.type "NoneType") (.ref R) = some false)
    (kB1 : PySem.W.kitOne K (.ref B) (.ref R) = some false) (h12 : P1 ≠ P2) (h13 : P1 ≠ P3) (h23 : P2 ≠ P3) (base : Heap) (TB1 : LamX.TabB base mg c1 P1) (TB2 : LamX.TabB base mg c2 P2) (TB3 : LamX.TabB base mg c3 P3) : FnOk PySem.Challenge.pw_crosswalls_k23_blocks_of_rooms w K mg base CX0 13 fa fd ["_law_script"] (spLawT K [(P1, ("_law_listed_right" : Str) ++ ".<locals>." ++ "<lambda>"), (P2, ("_law_errors_right" : Str) ++ ".<locals>." ++ "<lambda>"), (P3, ("_law_apart_right" : Str) ++ ".<locals>." ++ "<lambda>")]) := by
  have T : Txt K mg := ⟨z_len, z_int, z_list⟩
  have TP : TxtP K mg C := ⟨z_len, z_int, z_list, z_isinstance, z_str, z_all, z_set, z_tuple, ⟨_, g_LETTERS⟩, ⟨_, g_MOST_KINDS⟩, c_Plan, n_C_kinds, n_C_pairs, n_C_own_crossing⟩
  have TR : TxtR K mg C R O := ⟨TP, z_enumerate, ⟨_, g_MOST_LETTERS⟩, c_Room, n_R_plan, n_R_name, e_OtherPlan⟩
  have TH : TxtH K mg := ⟨T, z_range⟩
  have TV : TxtV K mg := ⟨TH, z_tuple, z_min, z_dict⟩
  have TO : TxtO K mg := ⟨z_sorted, z_len, z_str⟩
  have TB : TxtB K mg C R O B := ⟨TR, c_Block, n_B_plan, n_B_kinds, n_B_room, n_B_many⟩
  have TN : TxtN K mg C R O B := ⟨TB, kRs⟩
  have T2 : Txt23 K mg C R O B EL := ⟨TN, e_Endless, kBs⟩
  have ex : ∀ {A B : Addr} {b : Bool} {x q : Str} {s : Stmt}, ExcE PySem.Challenge.pw_crosswalls_k23_blocks_of_rooms K mg x B q s → PySem.W.subIn K (.ref A) (.ref B) = some b → PySem.W.exmOne K (.ref A) (.ref B) = some b := fun E h => PySem.W.exm_ref E.ec.hs E.ec.hd E.oex.tyC h
  have exf : ∀ {A B : Addr} {b : Bool} {x : Str}, ExcF K mg x B → PySem.W.subIn K (.ref A) (.ref B) = some b → PySem.W.exmOne K (.ref A) (.ref B) = some b := fun E h => PySem.W.exm_ref E.ec.hs E.ec.hd E.ty h
  have T3 : TxtK23 PySem.Challenge.pw_crosswalls_k23_blocks_of_rooms K mg C R O B EL IK SK G stIK stSK := { T2 with eK := E_InvalidKind, eS := E_SameKind, IK_value := kKv, SK_kind := kSk, FloorError := g_FloorError, sK := kit_ref kGc kGt kIKG (.inr rfl), sS := kit_ref kGc kGt kSKG (.inr rfl), sE := kit_ref kGc kGt kELG (.inr rfl), sO := kit_ref kGc kGt kOG (.inr rfl), kk := ex E_InvalidKind sIKIK, sk := ex E_InvalidKind sSKIK, ss := ex E_SameKind sSKSK, ek := ex E_InvalidKind sELIK, es := ex E_SameKind sELSK, ee := exf e_Endless sELEL, xk := ex E_InvalidKind sOIK, xs := ex E_SameKind sOSK, xe := exf e_Endless sOEL, xx := exf e_OtherPlan sOO, sorted := z_sorted, range := z_range, min := z_min, kC := kC1, kR := kR1, nS := kS1, nN := kN1, nB := kB1 }
  have kt : ∀ H : Hp, SeqO K H e0 [] := fun H => .inr (.inr ⟨rfl, _, n0, ke0, rfl, rfl⟩)
  have D_draw := ok_draw (P := PySem.Challenge.pw_crosswalls_k23_blocks_of_rooms) (w := w) (base := base) F_draw T
  have D_pen := ok_pen (P := PySem.Challenge.pw_crosswalls_k23_blocks_of_rooms) (w := w) (base := base) F_pen T
  have D_are := ok_are_letters (P := PySem.Challenge.pw_crosswalls_k23_blocks_of_rooms) (w := w) (base := base) F_are_letters TP
  have D_asc := ok_ascending (P := PySem.Challenge.pw_crosswalls_k23_blocks_of_rooms) (w := w) (base := base) F_ascending TP
  have D_isl := ok_is_list (P := PySem.Challenge.pw_crosswalls_k23_blocks_of_rooms) (w := w) (base := base) F_is_list TP
  have D_few := ok_need_few (P := PySem.Challenge.pw_crosswalls_k23_blocks_of_rooms) (w := w) (base := base) F_need_few TP
  have D_chk := ok_checked_pairs F_checked_pairs TP D_isl D_are D_asc
  have D_tab := ok_crossing_table (P := PySem.Challenge.pw_crosswalls_k23_blocks_of_rooms) (w := w) (base := base) F_crossing_table TP
  have X_Plan := ok_Plan F_Plan_init rfl TP D_are D_asc D_chk D_few D_tab
  have C_Plan_1 := X_Plan.kw 1 [] [.pos 0, .dfl 0] (by simp) fun T kV doc pm an cdv ct us its ws l1 l2 l3 => by
    match us, l1, its, l2, ws, l3 with
    | [_, _], _, [_], _, [], _ => exact ⟨_, rfl, rfl⟩
  have M_Plan_eq := ok_Plan_eq (P := PySem.Challenge.pw_crosswalls_k23_blocks_of_rooms) (w := w) (mg := mg) (base := base) F_Plan_eq TP
  have D_st := ok_stepped (P := PySem.Challenge.pw_crosswalls_k23_blocks_of_rooms) (w := w) (base := base) F_stepped TP
  have D_jo := ok_joined F_joined D_st
  have D_tb := ok_turned_back F_turned_back D_jo
  have D_wf := ok_way_from F_way_from D_jo D_tb
  have D_ns := ok_need_same F_need_same TR M_Plan_eq
  have D_sf := ok_still_free (P := PySem.Challenge.pw_crosswalls_k23_blocks_of_rooms) (w := w) (base := base) F_still_free TP
  have D_nw := ok_need_way (P := PySem.Challenge.pw_crosswalls_k23_blocks_of_rooms) (w := w) (base := base) F_need_way TR
  have X_Room := ok_Room F_Room_init rfl TR D_nw D_jo
  have C_Room_1 := X_Room.kw 1 [] [.pos 0, .dfl 0] (by simp) fun T kV doc pm an cdv ct us its ws l1 l2 l3 => by
    match us, l1, its, l2, ws, l3 with
    | [_, _], _, [_], _, [], _ => exact ⟨_, rfl, rfl⟩
  have M_eq := ok_Room_eq F_Room_eq TR M_Plan_eq
  have M_add := ok_Room_add F_Room_add TR D_nw D_jo X_Room.cdef
  have D_pick := ok_pick F_pick T D_draw
  have D_shuf := ok_shuffled F_shuffled T D_draw
  have D_floor := ok_floor F_floor TH D_draw D_pick
  have D_made := ok_made F_made TR D_draw D_shuf X_Plan.cdef
  have D_walk := ok_walk F_walk TH D_draw D_pick
  have D_begun := ok_begun F_begun D_draw D_walk
  have D_units := ok_units (P := PySem.Challenge.pw_crosswalls_k23_blocks_of_rooms) (w := w) (base := base) F_units TV
  have D_through := ok_through (P := PySem.Challenge.pw_crosswalls_k23_blocks_of_rooms) (w := w) (base := base) F_through TV
  have D_marks := ok_marks F_marks D_units D_through
  have D_backs := ok_backs (P := PySem.Challenge.pw_crosswalls_k23_blocks_of_rooms) (w := w) (base := base) F_backs TV
  have D_name := ok_name F_name D_marks D_through D_backs
  have D_plain := ok_plain (P := PySem.Challenge.pw_crosswalls_k23_blocks_of_rooms) (w := w) (base := base) F_plain TV
  have D_sa := ok_split_ahead F_split_ahead TR D_sf
  have D_we := ok_without_end F_without_end D_sa
  have D_ik := ok_is_kind (P := PySem.Challenge.pw_crosswalls_k23_blocks_of_rooms) (w := w) (base := base) F_is_kind TP
  have D_io := ok_in_order (P := PySem.Challenge.pw_crosswalls_k23_blocks_of_rooms) (w := w) (base := base) F_in_order TO
  have D_nks := ok_need_kinds F_need_kinds TR D_ik
  have D_ac := ok_all_cross (P := PySem.Challenge.pw_crosswalls_k23_blocks_of_rooms) (w := w) (base := base) F_all_cross TR
  have X_Block := ok_Block F_Block_init TB D_nks D_ac D_we X_Room.cdef
  have C_Block_kw := X_Block.kw 0 ["kinds", "room"] [.kw 1, .kw 0] fun kV doc pm an cdv ct us ws l1 l2 => by
    match us, l1, ws, l2 with
    | [_], _, [_, _], _ => rfl
  have M_Beq := ok_Block_eq F_Block_eq TB M_eq
  have M_near := ok_Block_nearest F_Block_nearest TN D_ns D_wf D_sa M_add
  have M_near_kw := M_near.calm.kw F_Block_nearest 0 ["room"] [.kw 0] fun kV doc pm an cdv ct us ws l1 l2 => by
    match us, l1, ws, l2 with
    | [_], _, [_], _ => rfl
  have M_in := ok_Block_contains F_Block_contains TN M_Plan_eq X_Block.cdef M_eq
  have M_inN := ok_Block_containsN F_Block_contains TN M_Plan_eq X_Block.cdef M_eq
  have M_and := ok_Block_and F_Block_and T2 D_ns M_in M_near X_Block.cdef
  have M_le := ok_Block_le F_Block_le T2 D_ns M_in
  have D_ro := ok_rooms_of F_rooms_of D_io X_Room.cdef
  have M_li := ok_Block_listed F_Block_listed TN D_ro D_st
  have M_liE := ok_Block_listedE F_Block_listed T2 D_ro D_st
  have X_IK := ok_E1 (w := w) (base := base) (k := 0) (fld := "value") (y := "value") E_InvalidKind z_super kKv rfl (NdefX.nscope_by (by decide +kernel)) rfl rfl rfl (fun kV doc pm an cda cc ct us hl => by
    match us, hl with
    | [_, _], _ => rfl) (fun env => rfl)
  have X_SK := ok_E1 (w := w) (base := base) (k := 0) (fld := "kind") (y := "kind") E_SameKind z_super kSk rfl (NdefX.nscope_by (by decide +kernel)) rfl rfl rfl (fun kV doc pm an cda cc ct us hl => by
    match us, hl with
    | [_, _], _ => rfl) (fun env => rfl)
  have D_ikE := ok_is_kindE (P := PySem.Challenge.pw_crosswalls_k23_blocks_of_rooms) (w := w) (base := base) F_is_kind TP
  have D_nksE := ok_need_kindsE F_need_kinds TR D_ikE X_IK X_SK
  have X_BlockE := ok_BlockE F_Block_init TB D_nksE D_ac D_we X_Room.cdef
  have D_only := ok_only F_only D_name
  have D_sub := ok_subset F_subset TR D_shuf D_draw
  have D_strip := ok_stripped F_stripped D_marks D_backs D_through D_name
  have D_isb := ok_is_block F_is_block T2 D_only D_marks D_backs M_Plan_eq
  have D_hold := ok_holds_right F_holds_right T2 X_Room.cdef D_strip M_in X_Block.cdef M_Beq M_near_kw D_name
  have D_met := ok_met_right F_met_right T2 D_strip M_and.calm M_le.calm D_isb
  obtain ⟨u1, u2, u3⟩ := of_three (q1 := ("_law_listed_right" : Str) ++ ".<locals>." ++ "<lambda>") (q2 := ("_law_errors_right" : Str) ++ ".<locals>." ++ "<lambda>") (q3 := ("_law_apart_right" : Str) ++ ".<locals>." ++ "<lambda>") h12 h13 h23
  have D_lis := ok_listed_right23 F_listed_right F_refused T3 TB1 (.head _) u1 M_li M_liE D_only
  have D_err := ok_errors_right F_errors_right F_refused T3 TB2 (.tail _ (.head _)) u2 D_draw X_BlockE.cdef
  have D_ap := ok_apart_right F_apart_right F_refused T3 TB3 (.tail _ (.tail _ (.head _))) u3 D_made C_Room_1 X_Block.cdef M_and M_le M_near M_Beq M_Beq M_in M_inN
  exact ok_law F_law T3 kt D_pen D_draw D_pick D_floor D_made D_walk D_begun D_sub D_plain D_isb D_lis D_hold D_met D_ap D_err X_Room.cdef X_Block.cdef C_Block_kw C_Plan_1 M_Beq M_and.calm M_le.calm
end
end Cw
set_option Elab.async false
set_option linter.all false
set_option maxRecDepth 100000
open PySem PySem.W PyProof.Rows
set_option maxRecDepth 100000 in
set_option maxHeartbeats 0 in
theorem PySem.Challenge.cw_crosswalls_k23_blocks_of_rooms_holds : PySem.Challenge.rw_crosswalls_k23_blocks_of_rooms.Holds := by
  refine Cw.headOf ?_
  k_fill
  refine Cw.end_walkT3 (l := PySem.Challenge.rw_crosswalls_k23_blocks_of_rooms) (k := 13) (x := "_law_script") (P1 := 718) (P2 := 711) (P3 := 735) (q1 := ("_law_listed_right" : PySem.Str) ++ ".<locals>." ++ "<lambda>") (q2 := ("_law_errors_right" : PySem.Str) ++ ".<locals>." ++ "<lambda>") (q3 := ("_law_apart_right" : PySem.Str) ++ ".<locals>." ++ "<lambda>") (sp := fun K => Cw.spLawT K [(718, ("_law_listed_right" : PySem.Str) ++ ".<locals>." ++ "<lambda>"), (711, ("_law_errors_right" : PySem.Str) ++ ".<locals>." ++ "<lambda>"), (735, ("_law_apart_right" : PySem.Str) ++ ".<locals>." ++ "<lambda>")]) rfl rfl ⟨rfl, by decide, by decide⟩ (fun w h Y => PySem.W.km_in_of Y) (fun w h Y => ⟨PySem.W.km_tabs_of Y 718 (by k_mem), PySem.W.km_tabs_of Y 711 (by k_mem), PySem.W.km_tabs_of Y 735 (by k_mem)⟩) (fun w => ⟨by kernel_rfl, by kernel_rfl, by kernel_rfl⟩) (fun _ _ a ns hl ht hS => ⟨a, ns, rfl, hS, hl, ht, fun _ => rfl⟩) ?F
  case F =>
    intro w mg fa h KX G hmg
    refine' ⟨_, _, _, _, ?e1, ?e2, ?e3, fun s v => ?b, fun base _ _ TB1 TB2 TB3 => ?h⟩
    case h =>
      refine' Cw.end23 ?c_Plan ?c_Room ?c_Block ?e_OtherPlan ?e_Endless ?E_InvalidKind ?E_SameKind ?F_stepped ?F_joined ?F_turned_back ?F_way_from ?F_still_free ?F_split_ahead ?F_without_end ?F_is_list ?F_is_kind ?F_need_way ?F_need_same ?F_need_kinds ?F_all_cross ?F_in_order ?F_rooms_of ?F_are_letters ?F_ascending ?F_checked_pairs ?F_need_few ?F_crossing_table ?F_pen ?F_draw ?F_pick ?F_shuffled ?F_floor ?F_made ?F_walk ?F_begun ?F_units ?F_through ?F_marks ?F_backs ?F_name ?F_plain ?F_only ?F_subset ?F_stripped ?F_is_block ?F_refused ?F_holds_right ?F_met_right ?F_listed_right ?F_errors_right ?F_apart_right ?F_law ?F_Plan_eq ?F_Plan_init ?F_Room_init ?F_Block_init ?F_Room_eq ?F_Room_add ?F_Block_eq ?F_Block_contains ?F_Block_le ?F_Block_and ?F_Block_nearest ?F_Block_listed ?z_len ?z_int ?z_list ?z_isinstance ?z_str ?z_all ?z_set ?z_tuple ?z_enumerate ?z_range ?z_min ?z_dict ?z_sorted ?z_super ?n_C_kinds ?n_C_pairs ?n_C_own_crossing ?n_R_plan ?n_R_name ?n_B_plan ?n_B_kinds ?n_B_room ?n_B_many ?g_LETTERS ?g_MOST_KINDS ?g_MOST_LETTERS ?g_FloorError ?ke0 ?kRs ?kBs ?kKv ?kSk ?kGc ?kGt ?kIKG ?kSKG ?kELG ?kOG ?sIKIK ?sSKIK ?sSKSK ?sELIK ?sELSK ?sELEL ?sOIK ?sOSK ?sOEL ?sOO ?kC1 ?kR1 ?kS1 ?kN1 ?kB1 (by decide) (by decide) (by decide) base TB1 TB2 TB3
      case c_Plan => refine' Cw.cls_mk KX G ?a ?pg ?hd ?po ?sa ?mk ?kc ?ha ?hn ?ht ?hm ?ob ?ne; (case a => k_is); (case pg => k_is); (case hd => k_is); (case po => k_is); (case sa => k_is); (case mk => k_is); (case kc => k_is); (case ha => k_is); (case hn => k_is); (case ht => k_is); (case hm => k_is); (case ob => k_is); (case ne => k_is)
      case c_Room => refine' Cw.cls_mk KX G ?a ?pg ?hd ?po ?sa ?mk ?kc ?ha ?hn ?ht ?hm ?ob ?ne; (case a => k_is); (case pg => k_is); (case hd => k_is); (case po => k_is); (case sa => k_is); (case mk => k_is); (case kc => k_is); (case ha => k_is); (case hn => k_is); (case ht => k_is); (case hm => k_is); (case ob => k_is); (case ne => k_is)
      case c_Block => refine' Cw.cls_mk KX G ?a ?pg ?hd ?po ?sa ?mk ?kc ?ha ?hn ?ht ?hm ?ob ?ne; (case a => k_is); (case pg => k_is); (case hd => k_is); (case po => k_is); (case sa => k_is); (case mk => k_is); (case kc => k_is); (case ha => k_is); (case hn => k_is); (case ht => k_is); (case hm => k_is); (case ob => k_is); (case ne => k_is)
      case e_OtherPlan => refine' Cw.exc_mk KX G ?a ?e ?k ?ty ?hg ?hk ?hs ?hd ?ha ?hn ?ht ?hm; (case a => k_is); (case k => k_is); (case ty => k_is); (case hg => k_is); (case hk => k_is); (case hs => k_is); (case hd => k_is); (case ha => k_is); (case hn => k_is); (case ht => k_is); (case hm => k_is); (case e => k_exc)
      case e_Endless => refine' Cw.exc_mk KX G ?a ?e ?k ?ty ?hg ?hk ?hs ?hd ?ha ?hn ?ht ?hm; (case a => k_is); (case k => k_is); (case ty => k_is); (case hg => k_is); (case hk => k_is); (case hs => k_is); (case hd => k_is); (case ha => k_is); (case hn => k_is); (case ht => k_is); (case hm => k_is); (case e => k_exc)
      case E_InvalidKind => refine' Cw.exE_mk KX G ?a ?lk ?rv ?sa ?hs ?ty ?k ?hg ?hk ?hd ?ha ?hn ?ht ?hm ?fi ?ti ?lf ?cd ?par ?par2 ?lc ?v2 ?fe ?top ?lcc ?op ?up; (case a => k_is); (case lk => k_is); (case sa => k_is); (case hs => k_is); (case ty => k_is); (case k => k_is); (case hg => k_is); (case hk => k_is); (case hd => k_is); (case ha => k_is); (case hn => k_is); (case ht => k_is); (case hm => k_is); (case fi => k_is); (case ti => k_is); (case lf => k_is); (case cd => k_is); (case lc => k_is); (case lcc => k_is); (case op => k_is); (case rv => kernel_rfl); (case par => rfl); (case par2 => rfl); (case v2 => rfl); (case fe => kernel_rfl); (case top => kernel_rfl); (case up => kernel_rfl)
      case E_SameKind => refine' Cw.exE_mk KX G ?a ?lk ?rv ?sa ?hs ?ty ?k ?hg ?hk ?hd ?ha ?hn ?ht ?hm ?fi ?ti ?lf ?cd ?par ?par2 ?lc ?v2 ?fe ?top ?lcc ?op ?up; (case a => k_is); (case lk => k_is); (case sa => k_is); (case hs => k_is); (case ty => k_is); (case k => k_is); (case hg => k_is); (case hk => k_is); (case hd => k_is); (case ha => k_is); (case hn => k_is); (case ht => k_is); (case hm => k_is); (case fi => k_is); (case ti => k_is); (case lf => k_is); (case cd => k_is); (case lc => k_is); (case lcc => k_is); (case op => k_is); (case rv => kernel_rfl); (case par => rfl); (case par2 => rfl); (case v2 => rfl); (case fe => kernel_rfl); (case top => kernel_rfl); (case up => kernel_rfl)
      case F_stepped => refine' Cw.fnAt_mk KX G ?a ?l ?c ?k; (case a => k_is); (case l => k_is); (case c => k_is); (case k => k_is)
      case F_joined => refine' Cw.fnAt_mk KX G ?a ?l ?c ?k; (case a => k_is); (case l => k_is); (case c => k_is); (case k => k_is)
      case F_turned_back => refine' Cw.fnAt_mk KX G ?a ?l ?c ?k; (case a => k_is); (case l => k_is); (case c => k_is); (case k => k_is)
      case F_way_from => refine' Cw.fnAt_mk KX G ?a ?l ?c ?k; (case a => k_is); (case l => k_is); (case c => k_is); (case k => k_is)
      case F_still_free => refine' Cw.fnAt_mk KX G ?a ?l ?c ?k; (case a => k_is); (case l => k_is); (case c => k_is); (case k => k_is)
      case F_split_ahead => refine' Cw.fnAt_mk KX G ?a ?l ?c ?k; (case a => k_is); (case l => k_is); (case c => k_is); (case k => k_is)
      case F_without_end => refine' Cw.fnAt_mk KX G ?a ?l ?c ?k; (case a => k_is); (case l => k_is); (case c => k_is); (case k => k_is)
      case F_is_list => refine' Cw.fnAt_mk KX G ?a ?l ?c ?k; (case a => k_is); (case l => k_is); (case c => k_is); (case k => k_is)
      case F_is_kind => refine' Cw.fnAt_mk KX G ?a ?l ?c ?k; (case a => k_is); (case l => k_is); (case c => k_is); (case k => k_is)
      case F_need_way => refine' Cw.fnAt_mk KX G ?a ?l ?c ?k; (case a => k_is); (case l => k_is); (case c => k_is); (case k => k_is)
      case F_need_same => refine' Cw.fnAt_mk KX G ?a ?l ?c ?k; (case a => k_is); (case l => k_is); (case c => k_is); (case k => k_is)
      case F_need_kinds => refine' Cw.fnAt_mk KX G ?a ?l ?c ?k; (case a => k_is); (case l => k_is); (case c => k_is); (case k => k_is)
      case F_all_cross => refine' Cw.fnAt_mk KX G ?a ?l ?c ?k; (case a => k_is); (case l => k_is); (case c => k_is); (case k => k_is)
      case F_in_order => refine' Cw.fnAt_mk KX G ?a ?l ?c ?k; (case a => k_is); (case l => k_is); (case c => k_is); (case k => k_is)
      case F_rooms_of => refine' Cw.fnAt_mk KX G ?a ?l ?c ?k; (case a => k_is); (case l => k_is); (case c => k_is); (case k => k_is)
      case F_are_letters => refine' Cw.fnAt_mk KX G ?a ?l ?c ?k; (case a => k_is); (case l => k_is); (case c => k_is); (case k => k_is)
      case F_ascending => refine' Cw.fnAt_mk KX G ?a ?l ?c ?k; (case a => k_is); (case l => k_is); (case c => k_is); (case k => k_is)
      case F_checked_pairs => refine' Cw.fnAt_mk KX G ?a ?l ?c ?k; (case a => k_is); (case l => k_is); (case c => k_is); (case k => k_is)
      case F_need_few => refine' Cw.fnAt_mk KX G ?a ?l ?c ?k; (case a => k_is); (case l => k_is); (case c => k_is); (case k => k_is)
      case F_crossing_table => refine' Cw.fnAt_mk KX G ?a ?l ?c ?k; (case a => k_is); (case l => k_is); (case c => k_is); (case k => k_is)
      case F_pen => refine' Cw.fnAt_mk KX G ?a ?l ?c ?k; (case a => k_is); (case l => k_is); (case c => k_is); (case k => k_is)
      case F_draw => refine' Cw.fnAt_mk KX G ?a ?l ?c ?k; (case a => k_is); (case l => k_is); (case c => k_is); (case k => k_is)
      case F_pick => refine' Cw.fnAt_mk KX G ?a ?l ?c ?k; (case a => k_is); (case l => k_is); (case c => k_is); (case k => k_is)
      case F_shuffled => refine' Cw.fnAt_mk KX G ?a ?l ?c ?k; (case a => k_is); (case l => k_is); (case c => k_is); (case k => k_is)
      case F_floor => refine' Cw.fnAt_mk KX G ?a ?l ?c ?k; (case a => k_is); (case l => k_is); (case c => k_is); (case k => k_is)
      case F_made => refine' Cw.fnAt_mk KX G ?a ?l ?c ?k; (case a => k_is); (case l => k_is); (case c => k_is); (case k => k_is)
      case F_walk => refine' Cw.fnAt_mk KX G ?a ?l ?c ?k; (case a => k_is); (case l => k_is); (case c => k_is); (case k => k_is)
      case F_begun => refine' Cw.fnAt_mk KX G ?a ?l ?c ?k; (case a => k_is); (case l => k_is); (case c => k_is); (case k => k_is)
      case F_units => refine' Cw.fnAt_mk KX G ?a ?l ?c ?k; (case a => k_is); (case l => k_is); (case c => k_is); (case k => k_is)
      case F_through => refine' Cw.fnAt_mk KX G ?a ?l ?c ?k; (case a => k_is); (case l => k_is); (case c => k_is); (case k => k_is)
      case F_marks => refine' Cw.fnAt_mk KX G ?a ?l ?c ?k; (case a => k_is); (case l => k_is); (case c => k_is); (case k => k_is)
      case F_backs => refine' Cw.fnAt_mk KX G ?a ?l ?c ?k; (case a => k_is); (case l => k_is); (case c => k_is); (case k => k_is)
      case F_name => refine' Cw.fnAt_mk KX G ?a ?l ?c ?k; (case a => k_is); (case l => k_is); (case c => k_is); (case k => k_is)
      case F_plain => refine' Cw.fnAt_mk KX G ?a ?l ?c ?k; (case a => k_is); (case l => k_is); (case c => k_is); (case k => k_is)
      case F_only => refine' Cw.fnAt_mk KX G ?a ?l ?c ?k; (case a => k_is); (case l => k_is); (case c => k_is); (case k => k_is)
      case F_subset => refine' Cw.fnAt_mk KX G ?a ?l ?c ?k; (case a => k_is); (case l => k_is); (case c => k_is); (case k => k_is)
      case F_stripped => refine' Cw.fnAt_mk KX G ?a ?l ?c ?k; (case a => k_is); (case l => k_is); (case c => k_is); (case k => k_is)
      case F_is_block => refine' Cw.fnAt_mk KX G ?a ?l ?c ?k; (case a => k_is); (case l => k_is); (case c => k_is); (case k => k_is)
      case F_refused => refine' Cw.fnAt_mk KX G ?a ?l ?c ?k; (case a => k_is); (case l => k_is); (case c => k_is); (case k => k_is)
      case F_holds_right => refine' Cw.fnAt_mk KX G ?a ?l ?c ?k; (case a => k_is); (case l => k_is); (case c => k_is); (case k => k_is)
      case F_met_right => refine' Cw.fnAt_mk KX G ?a ?l ?c ?k; (case a => k_is); (case l => k_is); (case c => k_is); (case k => k_is)
      case F_listed_right => refine' Cw.fnAtC_mk KX G ?a ?l ?c ?k; (case a => k_is); (case l => k_is); (case c => k_is); (case k => k_is)
      case F_errors_right => refine' Cw.fnAtC_mk KX G ?a ?l ?c ?k; (case a => k_is); (case l => k_is); (case c => k_is); (case k => k_is)
      case F_apart_right => refine' Cw.fnAtC_mk KX G ?a ?l ?c ?k; (case a => k_is); (case l => k_is); (case c => k_is); (case k => k_is)
      case F_law => refine' Cw.fun1_mk KX G hmg ?a ?l ?c ?k; (case a => k_is); (case l => k_is); (case c => k_is); (case k => k_is)
      case F_Plan_eq => refine' Cw.mAt_mk ?a ?i ?l ?c ?k; (case a => k_is); (case i => k_is); (case l => k_is); (case c => k_is); (case k => k_is)
      case F_Plan_init => refine' Cw.mAtD_mk ?a ?i ?l ?c ?k ?t ?v ?d; (case a => k_is); (case i => k_is); (case l => k_is); (case c => k_is); (case k => k_is); (case t => k_is); (case v => exact .cons rfl .nil); (case d => intro z; cases z)
      case F_Room_init => refine' Cw.mAtD_mk ?a ?i ?l ?c ?k ?t ?v ?d; (case a => k_is); (case i => k_is); (case l => k_is); (case c => k_is); (case k => k_is); (case t => k_is); (case v => exact .cons ⟨_, rfl⟩ .nil); (case d => intro z; cases z)
      case F_Block_init => refine' Cw.mAt_mk ?a ?i ?l ?c ?k; (case a => k_is); (case i => k_is); (case l => k_is); (case c => k_is); (case k => k_is)
      case F_Room_eq => refine' Cw.mAt_mk ?a ?i ?l ?c ?k; (case a => k_is); (case i => k_is); (case l => k_is); (case c => k_is); (case k => k_is)
      case F_Room_add => refine' Cw.mAt_mk ?a ?i ?l ?c ?k; (case a => k_is); (case i => k_is); (case l => k_is); (case c => k_is); (case k => k_is)
      case F_Block_eq => refine' Cw.mAt_mk ?a ?i ?l ?c ?k; (case a => k_is); (case i => k_is); (case l => k_is); (case c => k_is); (case k => k_is)
      case F_Block_contains => refine' Cw.mAt_mk ?a ?i ?l ?c ?k; (case a => k_is); (case i => k_is); (case l => k_is); (case c => k_is); (case k => k_is)
      case F_Block_le => refine' Cw.mAt_mk ?a ?i ?l ?c ?k; (case a => k_is); (case i => k_is); (case l => k_is); (case c => k_is); (case k => k_is)
      case F_Block_and => refine' Cw.mAt_mk ?a ?i ?l ?c ?k; (case a => k_is); (case i => k_is); (case l => k_is); (case c => k_is); (case k => k_is)
      case F_Block_nearest => refine' Cw.mAt_mk ?a ?i ?l ?c ?k; (case a => k_is); (case i => k_is); (case l => k_is); (case c => k_is); (case k => k_is)
      case F_Block_listed => refine' Cw.mAt_mk ?a ?i ?l ?c ?k; (case a => k_is); (case i => k_is); (case l => k_is); (case c => k_is); (case k => k_is)
      case z_len => refine' PySem.W.mg_none_of KX G ?a; (case a => k_is)
      case z_int => refine' PySem.W.mg_none_of KX G ?a; (case a => k_is)
      case z_list => refine' PySem.W.mg_none_of KX G ?a; (case a => k_is)
      case z_isinstance => refine' PySem.W.mg_none_of KX G ?a; (case a => k_is)
      case z_str => refine' PySem.W.mg_none_of KX G ?a; (case a => k_is)
      case z_all => refine' PySem.W.mg_none_of KX G ?a; (case a => k_is)
      case z_set => refine' PySem.W.mg_none_of KX G ?a; (case a => k_is)
      case z_tuple => refine' PySem.W.mg_none_of KX G ?a; (case a => k_is)
      case z_enumerate => refine' PySem.W.mg_none_of KX G ?a; (case a => k_is)
      case z_range => refine' PySem.W.mg_none_of KX G ?a; (case a => k_is)
      case z_min => refine' PySem.W.mg_none_of KX G ?a; (case a => k_is)
      case z_dict => refine' PySem.W.mg_none_of KX G ?a; (case a => k_is)
      case z_sorted => refine' PySem.W.mg_none_of KX G ?a; (case a => k_is)
      case z_super => refine' PySem.W.mg_none_of KX G ?a; (case a => k_is)
      case n_C_kinds => unfold L2.NoAttr; k_is
      case n_C_pairs => unfold L2.NoAttr; k_is
      case n_C_own_crossing => unfold L2.NoAttr; k_is
      case n_R_plan => unfold L2.NoAttr; k_is
      case n_R_name => unfold L2.NoAttr; k_is
      case n_B_plan => unfold L2.NoAttr; k_is
      case n_B_kinds => unfold L2.NoAttr; k_is
      case n_B_room => unfold L2.NoAttr; k_is
      case n_B_many => unfold L2.NoAttr; k_is
      case g_LETTERS => refine' Cw.glob_mk KX G ?a; (case a => k_is)
      case g_MOST_KINDS => refine' Cw.glob_mk KX G ?a; (case a => k_is)
      case g_MOST_LETTERS => refine' Cw.glob_mk KX G ?a; (case a => k_is)
      case g_FloorError => refine' Cw.glob_mk KX G ?a; (case a => k_is)
      case ke0 => first | k_is | k_exc | kernel_rfl
      case kRs => first | k_is | k_exc | kernel_rfl
      case kBs => first | k_is | k_exc | kernel_rfl
      case kKv => first | k_is | k_exc | kernel_rfl
      case kSk => first | k_is | k_exc | kernel_rfl
      case kGc => first | k_is | k_exc | kernel_rfl
      case kGt => first | k_is | k_exc | kernel_rfl
      case kIKG => first | k_is | k_exc | kernel_rfl
      case kSKG => first | k_is | k_exc | kernel_rfl
      case kELG => first | k_is | k_exc | kernel_rfl
      case kOG => first | k_is | k_exc | kernel_rfl
      case sIKIK => first | k_is | k_exc | kernel_rfl
      case sSKIK => first | k_is | k_exc | kernel_rfl
      case sSKSK => first | k_is | k_exc | kernel_rfl
      case sELIK => first | k_is | k_exc | kernel_rfl
      case sELSK => first | k_is | k_exc | kernel_rfl
      case sELEL => first | k_is | k_exc | kernel_rfl
      case sOIK => first | k_is | k_exc | kernel_rfl
      case sOSK => first | k_is | k_exc | kernel_rfl
      case sOEL => first | k_is | k_exc | kernel_rfl
      case sOO => first | k_is | k_exc | kernel_rfl
      case kC1 => first | k_is | k_exc | kernel_rfl
      case kR1 => first | k_is | k_exc | kernel_rfl
      case kS1 => first | k_is | k_exc | kernel_rfl
      case kN1 => first | k_is | k_exc | kernel_rfl
      case kB1 => first | k_is | k_exc | kernel_rfl
    case b => exact .of_eq rfl
    case e1 => kernel_rfl
    case e2 => kernel_rfl
    case e3 => kernel_rfl
